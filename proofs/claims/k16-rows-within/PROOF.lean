import PyProof.Rows.All
import Wide.All
import OpenK.AllK
import Wide.FinOn
import HandS.ForMost
import HandS.Defaults
import HandS.Property
import HandS.IsInst
import HandS.Words
import KE.KStateDown
import HandS.Head0
import HandS.Head1
import HandS.Head2
import HandS.HeadEnd
import HandS.HeadHook1
import HandS.HeadHook2
import HandS.HeadHook3
import HandS.HeadHook4
import PySem.Challenge.RW_pressworlds_k16_whole_row_lots_within_an
import KE.KFmtOwn
import HandS.StrMore
import KE.GoesEnum
import HandS.Replace
import HandS.Walk
import HandS.Rev
import HandS.Conv
import HandS.Deep
import HandS.More
import HandS.FStr
import HandS.Star
import HandS.Codes
import KE.DatumMoreOrd
import KE.SortData
import HandS.DictSub
import HandS.Style
import HandS.TupAny
import PyProof.ReprReads
import HandS.TupSets
set_option Elab.async false
set_option linter.all false
set_option maxRecDepth 100000
set_option maxHeartbeats 0
/-! the head: facts of the top's end, by names; getters of properties by their addresses; the top's run (first, for its memory) -/
namespace G1
open PySem PySem.Spec PyProof.Rows L2
abbrev PW : PySem.Program := PySem.Challenge.pw_pressworlds_k16_whole_row_lots_within_an
def top (i : Nat) : Stmt := PW.main.body.getD i (.Pass ⟨0, 0, 0, 0⟩)
abbrev RWL : PySem.W.OpenLaw := PySem.Challenge.rw_pressworlds_k16_whole_row_lots_within_an
abbrev RR : PySem.W.OpenRow := PySem.W.OpenLaw.row RWL
def nm0 : List PySem.Str := ["WrongValue", "NotPossible", "InvalidText", "InvalidLetters", "InvalidWord", "NotALot", "InvalidChanges", "OtherWorld", "LETTERS", "undone_letter", "struck", "Fold", "told_tie", "back_tie", "undone_marks", "joined_marks", "folded", "unlike_ties", "steps_of", "letters_of", "met_words", "numbered", "marked", "gone_word", "MOST_LETTERS", "MOST_ROW", "MOST_SMALL_ROW", "MOST_TOLD", "is_integer", "is_within"]
def nm1 : List PySem.Str := ["is_word", "row_told", "Row", "is_small_row", "RowLot", "row_lot_told", "check_row_lot", "letters_in", "check_row_lots", "row_form_of", "form_has_row", "row_form", "same_rows", "rows_within", "needless_rows", "_law_till", "_law_pay", "_law_coin", "_law_flip", "_law_struck", "_law_undo", "_law_drawn", "_law_goes", "_law_met", "_law_table", "_law_ringed", "_law_words", "_law_clash", "_law_folded", "_law_ends"]
def nm2 : List PySem.Str := ["_law_walk", "_law_presses", "_law_lot", "_law_other", "_law_is_within", "_law_pair_right", "_law_needless_right", "_law_right"]
def dG (x : Str) (i : Nat) : He.DefD := ⟨(x, none), x, x, defArgs (top i), defBody (top i), defScope (top i), [], []⟩
def dM (C m q : Str) (i j : Nat) : He.DefD := ⟨(C, some m), m, q, defArgs (inClass (top i) j), defBody (inClass (top i) j), defScope (inClass (top i) j), [], []⟩
def fnG0 : List He.DefD := [dG "undone_letter" 11, dG "struck" 12, dG "told_tie" 15, dG "back_tie" 16, dG "undone_marks" 17, dG "joined_marks" 18, dG "folded" 19, dG "unlike_ties" 20, dG "steps_of" 21, dG "letters_of" 22, dG "met_words" 23, dG "numbered" 24, dG "marked" 25, dG "gone_word" 26, dG "is_integer" 32, dG "is_within" 33, dG "is_word" 35, dG "is_small_row" 39, dG "check_row_lot" 42, dG "letters_in" 43, dG "check_row_lots" 44, dG "row_form_of" 45, dG "form_has_row" 46, dG "row_form" 47, dG "same_rows" 48, dG "rows_within" 49, dG "needless_rows" 50, dG "_law_till" 52, dG "_law_pay" 53, dG "_law_coin" 54]
def fnG1 : List He.DefD := [dG "_law_flip" 55, dG "_law_struck" 56, dG "_law_undo" 57, dG "_law_drawn" 58, dG "_law_goes" 59, dG "_law_met" 60, dG "_law_table" 61, dG "_law_ringed" 62, dG "_law_words" 63, dG "_law_clash" 64, dG "_law_folded" 65, dG "_law_ends" 66, dG "_law_walk" 67, dG "_law_presses" 68, dG "_law_lot" 69, dG "_law_other" 70, dG "_law_is_within" 71, dG "_law_pair_right" 72, dG "_law_needless_right" 73, dG "_law_right" 74, dG "law" 75]
def fnM : List He.DefD := [dM "Fold" "__init__" "Fold.__init__" 14 0, dM "Fold" "add" "Fold.add" 14 1, dM "Fold" "clash" "Fold.clash" 14 2, dM "Fold" "join" "Fold.join" 14 3, dM "Row" "__init__" "Row.__init__" 37 0, dM "Row" "__len__" "Row.__len__" 37 4, dM "Row" "__str__" "Row.__str__" 37 7, dM "RowLot" "__init__" "RowLot.__init__" 40 0]
def fnA : List He.DefD := fnG0 ++ (fnG1 ++ fnM)
def faG0 : List He.Fa := [.glo "undone_letter", .glo "struck", .glo "told_tie", .glo "back_tie", .glo "undone_marks", .glo "joined_marks", .glo "folded", .glo "unlike_ties", .glo "steps_of", .glo "letters_of", .glo "met_words", .glo "numbered", .glo "marked", .glo "gone_word", .glo "is_integer", .glo "is_within", .glo "is_word", .glo "is_small_row", .glo "check_row_lot", .glo "letters_in", .glo "check_row_lots", .glo "row_form_of", .glo "form_has_row", .glo "row_form", .glo "same_rows", .glo "rows_within", .glo "needless_rows", .glo "_law_till", .glo "_law_pay", .glo "_law_coin", .glo "_law_flip", .glo "_law_struck", .glo "_law_undo", .glo "_law_drawn", .glo "_law_goes"]
def faG1 : List He.Fa := [.glo "_law_met", .glo "_law_table", .glo "_law_ringed", .glo "_law_words", .glo "_law_clash", .glo "_law_folded", .glo "_law_ends", .glo "_law_walk", .glo "_law_presses", .glo "_law_lot", .glo "_law_other", .glo "_law_is_within", .glo "_law_pair_right", .glo "_law_needless_right", .glo "_law_right", .glo "law", .glo "Fold", .glo "Row", .glo "RowLot"]
def blN : List Str := ["len", "list", "tuple", "reversed", "enumerate", "sorted", "isinstance", "int", "bool", "str", "all", "range", "min", "max", "set", "abs", "divmod", "dict", "repr"]
def faB : List He.Fa := blN.map He.Fa.free
def faC : List He.Fa := [.cls "Fold", .cls "Row", .cls "RowLot", .mkr "Fold", .mkr "Row", .mkr "RowLot", .meth "Fold" "add", .meth "Fold" "clash", .meth "Fold" "join", .meth "Row" "__len__", .meth "Row" "__str__", .noat "Fold" "ties", .noat "Fold" "many", .noat "Row" "many", .noat "Row" "held", .noat "RowLot" "own_changes", .noat "RowLot" "own_text", .int "MOST_LETTERS" 4, .int "MOST_ROW" 400, .int "MOST_SMALL_ROW" 12, .int "MOST_TOLD" 5, .str "LETTERS" "abcd"]
def faA : List He.Fa := faG0 ++ (faG1 ++ (faB ++ (faC)))
/-! getters -/
def prA (K : PySem.W.Frag) (C m : Str) : Addr := He.ma K (He.ga K C) m
def prG (K : PySem.W.Frag) (C m : Str) : Addr := match PySem.W.recIn K (prA K C m) "property" with
  | some (.ref g :: _) => g
  | _ => 0
def fnAt (K : PySem.W.Frag) (a : Addr) : He.FnW := match K.lookup a with
  | some ⟨_, _, .func fd, _⟩ => some (fd.name, fd.qualname, fd.params, fd.body, fd.scope, fd.globals, fd.closure, fd.builtins)
  | _ => none
def okAt (K : PySem.W.Frag) (a : Addr) (q : Str) : Bool := PySem.W.keepIn K (.ref a) && (match K.lookup a with
  | some ⟨_, _, .func fd, _⟩ => PySem.W.codeIn K fd.code q && (He.dflB K fd.defaults [] && He.kwdB K fd.kwdefaults [])
  | _ => false)
theorem funAt {K : PySem.W.Frag} {a : Addr} {d : He.DefD} (e : fnAt K a = d.val) (c : okAt K a d.qual = true) : ∃ fd, FunD K d.name d.qual d.params d.body d.scope [] [] a fd := by
  obtain ⟨kp, c2⟩ := He.ba c
  unfold fnAt at e
  cases q : K.lookup a with
  | none =>
    rw [q] at e
    exact absurd e (fun z => nomatch z)
  | some ob =>
    obtain ⟨oc, od, dt, osl⟩ := ob
    rw [q] at e c2
    cases dt with
    | func fd =>
      obtain ⟨a1, a2, a3, a4, a5, a6, a7, a8, a9, a10, a11, a12, a13, a14, a15⟩ := fd
      have eq : (some (a1, a2, a3, a4, a5, a6, a7, a15) : He.FnW) = some (d.name, d.qual, d.params, .stmts d.body, d.scope, mainGlobals, [], builtinsNs) := e
      simp only [Option.some.injEq, Prod.mk.injEq] at eq
      obtain ⟨rfl, rfl, rfl, rfl, rfl, rfl, rfl, rfl⟩ := eq
      have c3 : (PySem.W.codeIn K a13 d.qual && (He.dflB K a8 [] && He.kwdB K a9 [])) = true := c2
      obtain ⟨b1, b2⟩ := He.ba c3
      obtain ⟨b3, b4⟩ := He.ba b2
      exact ⟨_, ⟨oc, od, a8, a9, a10, a11, a12, a13, a14, osl, rfl, q, b1, He.dflB_ok b3, He.kwdB_ok b4⟩, kp⟩
    | _ => exact absurd e (fun z => nomatch z)
structure PrD where
  C : Str
  m : Str
  d : He.DefD
def prs : List PrD := [⟨"Row", "letters", dM "Row" "letters" "Row.letters" 37 2⟩, ⟨"Row", "word", dM "Row" "word" "Row.word" 37 3⟩, ⟨"RowLot", "changes", dM "RowLot" "changes" "RowLot.changes" 40 2⟩]
def prB (K : PySem.W.Frag) (p : PrD) : Bool := He.eqO (PySem.W.findIn K (.ref (He.ga K p.C)) p.m) (some (some (.ref (prA K p.C p.m)))) && (He.eqO (PySem.W.specialIn K (.ref (prA K p.C p.m)) "__get__") (some (some (.builtin "property.__get__"))) &&
  (decide (PySem.W.takesIn K (.ref (prA K p.C p.m)) = some true) && ((match PySem.W.recIn K (prA K p.C p.m) "property" with
    | some (.ref _ :: _) => true
    | _ => false) && okAt K (prG K p.C p.m) p.d.qual)))
theorem prB_ok {K : PySem.W.Frag} {p : PrD} (h : prB K p = true) (e : fnAt K (prG K p.C p.m) = p.d.val) : ∃ a g fd, FunD K p.d.name p.d.qual p.d.params p.d.body p.d.scope [] [] g fd ∧ PropOf K (He.ga K p.C) p.m a g := by
  obtain ⟨h1, h⟩ := He.ba h
  obtain ⟨h2, h⟩ := He.ba h
  obtain ⟨h3, h⟩ := He.ba h
  obtain ⟨h4, h5⟩ := He.ba h
  obtain ⟨fd, F⟩ := funAt e h5
  refine ⟨prA K p.C p.m, prG K p.C p.m, fd, F, He.eqO_ok h1, He.eqO_ok h2, of_decide_eq_true h3, ?_⟩
  unfold prG
  split at h4
  · rename_i g rest q
    rw [q]
    exact ⟨rest, rfl⟩
  · cases h4
/-! isinstance -/
def isB (K : PySem.W.Frag) (x : Str) : Bool := He.eqO (PySem.W.findIn K (.ref (He.ga K x)) "__class__") (some (some (.builtin "object.__class__"))) && (He.eqO (PySem.W.specialIn K (.builtin "object.__class__") "__get__") (some (some (.builtin "getset_descriptor.__get__"))) &&
  (decide (PySem.W.takesIn K (.builtin "object.__class__") = some true) && (decide (PySem.W.mroIn K (He.ga K x) (.type "object") = some true) && decide (PySem.W.kitOne K (.ref (He.ga K x)) (.ref (He.ga K x)) = some true))))
/-! the hook -/
def exA (K : PySem.W.Frag) : Bool := prs.all (prB K) && (isB K "Row" && isB K "RowLot")
def prO (K : PySem.W.Frag) : List He.FnW := prs.map fun p => fnAt K (prG K p.C p.m)
def prV : List He.FnW := prs.map fun p => p.d.val
def obP (g : Addr → Option Obj) : He.AlX × List He.FnW := (He.obsX 5 faA fnA [] [] exA g, prO (He.frT g (He.asD g 5)))
def hkP : PySem.W.Hook where
  α := He.AlX × List He.FnW
  obs := fun s => obP s.heap.get?
  val := fun w => (He.valX fnA [] w, prV)
  says := fun w h => ∃ K : PySem.W.Frag, K.In h ∧ He.SaysX faA fnA [] [] exA w h K ∧ prO K = prV
  of := fun _ _ e => ⟨_, He.frT_in, He.saysX_of (congrArg (fun z : He.AlX × List He.FnW => z.1) e), congrArg (fun z : He.AlX × List He.FnW => z.2) e⟩
  keeps := fun _ _ _ ⟨K, hK, c, e⟩ k => ⟨K, PySem.W.Frag.In.keeps hK k, ⟨c.t, c.more, c.hd, c.out, fun p hp => k _ _ (c.empty p hp)⟩, e⟩
def obA (s : PySem.W.SharedT) : He.AlX × List He.FnW := obP (HandSHeadRun.getT s)
theorem obA_eq (s : PySem.W.SharedT) : obA s = hkP.obs s.abs := by
  have e : HandSHeadRun.getT s = s.abs.heap.get? := funext (HandSHeadRun.getT_eq s)
  unfold obA
  rw [e]
  rfl
theorem runA (w : World) : HandSHeadRun.RunEq RR (PySem.W.view RR.prog [75]) hkP obA 12000 (nm0 ++ (nm1 ++ nm2)) w := by
  intro os
  kernel_rfl
end G1
/-! Marks: words of pairs (index, sense), struck; lengths. Plain Lean. -/
set_option Elab.async false
namespace G1
abbrev Mk := Int × Int
abbrev Wd := List Mk
def ng (g : Mk) : Mk := (g.1, 0 - g.2)
theorem ng_ng (g : Mk) : ng (ng g) = g := by
  obtain ⟨i, s⟩ := g
  show (i, 0 - (0 - s)) = (i, s)
  rw [show 0 - (0 - s) = s by omega]
/-- the last one struck or a new one behind -/
def psh (f : Wd) (g : Mk) : Wd := if f.getLast? = some (ng g) then f.dropLast else f ++ [g]
/-- found = list(one); each of other -/
def jn (a b : Wd) : Wd := b.foldl psh a
/-- undone, read back -/
def iv (a : Wd) : Wd := a.reverse.map ng
def rd (a : Wd) : Wd := jn [] a
/-- no neighbours that are opposite -/
def Rd : Wd → Prop
  | [] => True
  | [_] => True
  | a :: b :: r => b ≠ ng a ∧ Rd (b :: r)
theorem jn_nil (a : Wd) : jn a [] = a := rfl
theorem jn_cons (a b : Wd) (g : Mk) : jn a (g :: b) = jn (psh a g) b := rfl
theorem jn_app (a b c : Wd) : jn a (b ++ c) = jn (jn a b) c := by
  unfold jn
  rw [List.foldl_append]
theorem psh_len (f : Wd) (g : Mk) : (psh f g).length ≤ f.length + 1 := by
  unfold psh
  split
  · rw [List.length_dropLast]; omega
  · rw [List.length_append]; exact Nat.le_refl _
theorem jn_len : ∀ (b a : Wd), (jn a b).length ≤ a.length + b.length
  | [], a => by rw [jn_nil]; exact Nat.le_add_right _ _
  | g :: b, a => by
    rw [jn_cons, List.length_cons]
    have h1 := jn_len b (psh a g)
    have h2 := psh_len a g
    omega
theorem iv_len (a : Wd) : (iv a).length = a.length := by
  unfold iv
  rw [List.length_map, List.length_reverse]
theorem iv_app (a b : Wd) : iv (a ++ b) = iv b ++ iv a := by
  unfold iv
  rw [List.reverse_append, List.map_append]
theorem iv_iv (a : Wd) : iv (iv a) = a := by
  unfold iv
  rw [← List.map_reverse, List.reverse_reverse, List.map_map]
  have e : (ng ∘ ng) = id := funext ng_ng
  rw [e, List.map_id]
/-! reduced words -/
theorem Rd.tail {g : Mk} {a : Wd} (h : Rd (g :: a)) : Rd a := by
  cases a with
  | nil => trivial
  | cons b r => exact h.2
theorem rd_front : ∀ {a b : Wd}, Rd (a ++ b) → Rd a
  | [], _, _ => trivial
  | [_], _, _ => trivial
  | x :: y :: r, b, h => by
    have h' : Rd (x :: y :: (r ++ b)) := h
    have h2 : Rd (y :: r) := rd_front (a := y :: r) (b := b) h'.2
    exact ⟨h'.1, h2⟩
theorem rd_snoc : ∀ {a : Wd} {g : Mk}, Rd a → a.getLast? ≠ some (ng g) → Rd (a ++ [g])
  | [], _, _, _ => trivial
  | [x], g, _, h => by
    refine ⟨fun e => h ?_, trivial⟩
    show some x = some (ng g)
    rw [e, ng_ng]
  | x :: y :: r, g, h, hl => by
    have h2 : Rd (y :: r ++ [g]) := rd_snoc h.2 (by
      rw [List.getLast?_cons_cons] at hl
      exact hl)
    exact ⟨h.1, h2⟩
theorem rd_drop {a : Wd} (h : Rd a) : Rd a.dropLast := by
  cases a with
  | nil => exact h
  | cons x r =>
    have e := List.dropLast_concat_getLast (List.cons_ne_nil x r)
    rw [← e] at h
    exact rd_front h
theorem psh_rd {f : Wd} {g : Mk} (h : Rd f) : Rd (psh f g) := by
  unfold psh
  split
  · exact rd_drop h
  · rename_i hl
    exact rd_snoc h hl
theorem jn_rd : ∀ {b a : Wd}, Rd a → Rd (jn a b)
  | [], _, h => h
  | _ :: b, _, h => jn_rd (b := b) (psh_rd h)
theorem rd_last {a : Wd} {x g : Mk} (h : Rd (a ++ [x] ++ [g])) : g ≠ ng x := by
  induction a with
  | nil => exact h.1
  | cons y r ih => exact ih (Rd.tail h)
/-- a mark, then its opposite: as before -/
theorem psh_psh {f : Wd} (h : Rd f) (g : Mk) : psh (psh f g) (ng g) = f := by
  unfold psh
  by_cases hl : f.getLast? = some (ng g)
  · rw [if_pos hl]
    obtain ⟨a, ha⟩ := List.getLast?_eq_some_iff.mp hl
    subst ha
    rw [List.dropLast_concat]
    rw [if_neg]
    intro e
    obtain ⟨b, hb⟩ := List.getLast?_eq_some_iff.mp e
    subst hb
    exact rd_last h (by rw [ng_ng])
  · rw [if_neg hl]
    rw [if_pos (by rw [List.getLast?_append, List.getLast?_singleton, ng_ng]; rfl), List.dropLast_concat]
/-! what a word does to reduced words -/
def Eq2 (a b : Wd) : Prop := ∀ f, Rd f → jn f a = jn f b
theorem Eq2.refl (a : Wd) : Eq2 a a := fun _ _ => rfl
theorem Eq2.symm {a b : Wd} (h : Eq2 a b) : Eq2 b a := fun f r => (h f r).symm
theorem Eq2.trans {a b c : Wd} (h : Eq2 a b) (k : Eq2 b c) : Eq2 a c := fun f r => (h f r).trans (k f r)
theorem Eq2.app {a b c d : Wd} (h : Eq2 a b) (k : Eq2 c d) : Eq2 (a ++ c) (b ++ d) := fun f r => by
  rw [jn_app, jn_app, h f r]
  exact k _ (jn_rd r)
theorem eq2_inv : ∀ (a : Wd), Eq2 (a ++ iv a) []
  | [] => Eq2.refl _
  | g :: a => fun f r => by
    have e : (g :: a) ++ iv (g :: a) = [g] ++ ((a ++ iv a) ++ [ng g]) := by
      show (g :: a) ++ ((g :: a).reverse.map ng) = _
      rw [List.reverse_cons, List.map_append]
      show g :: (a ++ (a.reverse.map ng ++ [ng g])) = g :: ((a ++ iv a) ++ [ng g])
      rw [List.append_assoc] <;> rfl
    rw [e, jn_app, jn_app, eq2_inv a _ (jn_rd r)]
    exact psh_psh r g
theorem eq2_inv' (a : Wd) : Eq2 (iv a ++ a) [] := by
  have h := eq2_inv (iv a)
  rw [iv_iv] at h
  exact h
theorem eq2_iv {a b : Wd} (h : Eq2 a b) : Eq2 (iv a) (iv b) := by
  have h1 : Eq2 (iv a) (iv a ++ (b ++ iv b)) := by
    have z := Eq2.app (Eq2.refl (iv a)) (eq2_inv b).symm
    rw [List.append_nil] at z
    exact z
  have h2 : Eq2 (iv a ++ (b ++ iv b)) ((iv a ++ a) ++ iv b) := by
    rw [List.append_assoc]
    exact Eq2.app (Eq2.refl _) (Eq2.app h.symm (Eq2.refl _))
  exact (h1.trans h2).trans (Eq2.app (eq2_inv' a) (Eq2.refl (iv b)))
theorem jn_fix : ∀ {b a : Wd}, Rd (a ++ b) → jn a b = a ++ b
  | [], a, _ => by rw [jn_nil, List.append_nil]
  | g :: b, a, h => by
    have e : a ++ g :: b = (a ++ [g]) ++ b := by rw [List.append_assoc] <;> rfl
    rw [e] at h ⊢
    rw [jn_cons]
    have hp : psh a g = a ++ [g] := by
      unfold psh
      rw [if_neg]
      intro hl
      obtain ⟨c, hc⟩ := List.getLast?_eq_some_iff.mp hl
      subst hc
      have h3 := rd_front h
      exact rd_last h3 (ng_ng g).symm
    rw [hp]
    exact jn_fix h
theorem rd_of {a : Wd} (h : Rd a) : rd a = a := by
  have z := jn_fix (a := []) (b := a) h
  exact z
theorem eq2_rd (a : Wd) : Eq2 (rd a) a := by
  suffices h : ∀ (b a : Wd), Eq2 (jn a b) (a ++ b) from h a []
  intro b
  induction b with
  | nil => intro a; rw [jn_nil, List.append_nil]; exact Eq2.refl _
  | cons g b ih =>
    intro a
    rw [jn_cons]
    refine (ih _).trans ?_
    have e : a ++ g :: b = (a ++ [g]) ++ b := by rw [List.append_assoc] <;> rfl
    rw [e]
    refine Eq2.app ?_ (Eq2.refl b)
    unfold psh
    split
    · rename_i hl
      obtain ⟨c, hc⟩ := List.getLast?_eq_some_iff.mp hl
      subst hc
      rw [List.dropLast_concat, List.append_assoc]
      have h3 : Eq2 ([ng g] ++ [g]) [] := by
        have z := eq2_inv [ng g]
        have e2 : iv [ng g] = [g] := by
          show [ng (ng g)] = [g]
          rw [ng_ng]
        rw [e2] at z
        exact z
      have h4 := Eq2.app (Eq2.refl c) h3.symm
      rw [List.append_nil] at h4
      exact h4
    · exact Eq2.refl _
theorem eq2_jn (a b : Wd) : Eq2 (jn a b) (a ++ b) := by
  have h : ∀ (b a : Wd), Eq2 (jn a b) (a ++ b) := by
    intro b
    induction b with
    | nil => intro a; rw [jn_nil, List.append_nil]; exact Eq2.refl _
    | cons g b ih =>
      intro a
      rw [jn_cons]
      refine (ih _).trans ?_
      have e : a ++ g :: b = (a ++ [g]) ++ b := by rw [List.append_assoc] <;> rfl
      rw [e]
      refine Eq2.app ?_ (Eq2.refl b)
      have z := eq2_rd (a ++ [g])
      unfold psh
      split
      · rename_i hl
        obtain ⟨c, hc⟩ := List.getLast?_eq_some_iff.mp hl
        subst hc
        rw [List.dropLast_concat, List.append_assoc]
        have h3 : Eq2 ([ng g] ++ [g]) [] := by
          have z := eq2_inv [ng g]
          have e2 : iv [ng g] = [g] := by
            show [ng (ng g)] = [g]
            rw [ng_ng]
          rw [e2] at z
          exact z
        have h4 := Eq2.app (Eq2.refl c) h3.symm
        rw [List.append_nil] at h4
        exact h4
      · exact Eq2.refl _
  exact h b a
/-- the length of the reduced word -/
def rl (a : Wd) : Nat := (rd a).length
theorem rl_eq {a b : Wd} (h : Eq2 a b) : rl a = rl b := by
  unfold rl rd
  rw [h [] trivial]
theorem rl_le (a : Wd) : rl a ≤ a.length := by
  have h := jn_len a []
  unfold rl rd
  rw [List.length_nil] at h
  omega
theorem rl_rd {a : Wd} (h : Rd a) : rl a = a.length := by
  unfold rl
  rw [rd_of h]
theorem rl_app (a b : Wd) : rl (a ++ b) ≤ rl a + rl b := by
  have e : Eq2 (a ++ b) (rd a ++ rd b) := Eq2.app (eq2_rd a).symm (eq2_rd b).symm
  rw [rl_eq e]
  refine Nat.le_trans (rl_le _) ?_
  rw [List.length_append]
  exact Nat.le_refl _
theorem rl_nil : rl [] = 0 := rfl
theorem rl_iv (a : Wd) : rl (iv a) = rl a := by
  have h : ∀ a : Wd, rl (iv a) ≤ rl a := fun a => by
    have e : Eq2 (iv a) (iv (rd a)) := eq2_iv (eq2_rd a).symm
    rw [rl_eq e]
    refine Nat.le_trans (rl_le _) ?_
    rw [iv_len]
    exact Nat.le_refl _
  have h1 := h a
  have h2 := h (iv a)
  rw [iv_iv] at h2
  omega
theorem iv_rd {a : Wd} (h : Rd a) : Rd (iv a) := by
  have h1 : rl (iv a) = (iv a).length := by rw [rl_iv, rl_rd h, iv_len]
  -- a word whose struck form is as long as it is reduced
  have key : ∀ (b c : Wd), Rd c → (jn c b).length = c.length + b.length → Rd (c ++ b) := by
    intro b
    induction b with
    | nil => intro c hc _; rw [List.append_nil]; exact hc
    | cons g b ih =>
      intro c hc hl
      rw [jn_cons, List.length_cons] at hl
      have h2 := jn_len b (psh c g)
      have h3 : psh c g = c ++ [g] := by
        unfold psh at h2 ⊢
        split at h2
        · rename_i hq
          rw [if_pos hq]
          unfold psh at hl
          rw [if_pos hq] at hl
          rw [List.length_dropLast] at h2
          have : c ≠ [] := fun z => by rw [z] at hq; cases hq
          have := List.length_pos_iff.mpr this
          omega
        · rename_i hq
          rw [if_neg hq]
      have h4 := psh_rd (g := g) hc
      rw [h3] at h4 hl
      have h5 := ih (c ++ [g]) h4 (by rw [List.length_append]; show _ = c.length + 1 + b.length; omega)
      rw [List.append_assoc] at h5
      exact h5
  have h6 := key (iv a) [] trivial (by
    show (rd (iv a)).length = 0 + (iv a).length
    unfold rl at h1
    omega)
  exact h6
end G1
/-! Ties, joins, the potential that bounds the marks. Plain Lean. -/
set_option Elab.async false
namespace G1
/-- a tie: from, letter (its code), to, marks -/
structure Tie where
  s : Nat
  a : Nat
  e : Nat
  m : Wd
  deriving DecidableEq
/-- the opposite of a letter, by codes -/
def sw (c : Nat) : Nat := if 97 ≤ c ∧ c ≤ 122 then c - 32 else if 65 ≤ c ∧ c ≤ 90 then c + 32 else c
def Small (c : Nat) : Prop := 97 ≤ c ∧ c ≤ 122
def Big (c : Nat) : Prop := 65 ≤ c ∧ c ≤ 90
theorem sw_small {c : Nat} (h : Small c) : Big (sw c) ∧ sw (sw c) = c := by
  unfold Small at h; unfold Big sw
  rw [if_pos h, if_neg (by omega), if_pos (by omega)]
  omega
theorem sw_big {c : Nat} (h : Big c) : Small (sw c) ∧ sw (sw c) = c := by
  unfold Big at h; unfold Small sw
  rw [if_neg (by omega), if_pos h, if_pos (by omega)]
  omega
theorem small_big {c : Nat} (h : Small c) (k : Big c) : False := by
  unfold Small at h; unfold Big at k; omega
def bk (t : Tie) : Tie := ⟨t.e, sw t.a, t.s, iv t.m⟩
def hf (ts : List Tie) : List Tie := ts.flatMap fun t => [t, bk t]
theorem mem_hf {ts : List Tie} {q : Tie} : q ∈ hf ts ↔ ∃ t ∈ ts, q = t ∨ q = bk t := by
  unfold hf
  rw [List.mem_flatMap]
  constructor
  · rintro ⟨t, ht, hq⟩
    exact ⟨t, ht, by simpa using hq⟩
  · rintro ⟨t, ht, hq⟩
    exact ⟨t, ht, by simpa using hq⟩
/-! sums of a function over the places below n -/
def sm (f : Nat → Nat) : Nat → Nat
  | 0 => 0
  | n + 1 => sm f n + f n
theorem sm_congr {f g : Nat → Nat} : ∀ {n : Nat}, (∀ i, i < n → f i = g i) → sm f n = sm g n
  | 0, _ => rfl
  | n + 1, h => by
    show sm f n + f n = sm g n + g n
    rw [sm_congr fun i hi => h i (by omega), h n (by omega)]
theorem sm_mono {f g : Nat → Nat} : ∀ {n : Nat}, (∀ i, i < n → f i ≤ g i) → sm f n ≤ sm g n
  | 0, _ => Nat.le_refl _
  | n + 1, h => by
    show sm f n + f n ≤ sm g n + g n
    have h1 := sm_mono (n := n) fun i hi => h i (by omega)
    have h2 := h n (by omega)
    omega
def up (f : Nat → Nat) (i x : Nat) : Nat → Nat := fun j => if j = i then x else f j
theorem up_at (f : Nat → Nat) (i x : Nat) : up f i x i = x := if_pos rfl
theorem up_ne {f : Nat → Nat} {i x j : Nat} (h : j ≠ i) : up f i x j = f j := if_neg h
theorem sm_up {f : Nat → Nat} {i x : Nat} : ∀ {n : Nat}, i < n → sm (up f i x) n + f i = sm f n + x
  | 0, h => by omega
  | n + 1, h => by
    show sm (up f i x) n + up f i x n + f i = sm f n + f n + x
    by_cases hi : i = n
    · subst hi
      rw [up_at, sm_congr (f := up f i x) (g := f) fun j hj => up_ne (by omega)]
      omega
    · have h1 := sm_up (f := f) (x := x) (n := n) (i := i) (by omega)
      rw [up_ne (f := f) (i := i) (x := x) (j := n) (by omega)]
      omega
theorem sm_one {f : Nat → Nat} {i n : Nat} (h : i < n) : f i ≤ sm f n := by
  have h1 := sm_up (f := f) (x := 0) h
  omega
theorem sm_two {f : Nat → Nat} {i j n : Nat} (hi : i < n) (hj : j < n) (h : i ≠ j) : f i + f j ≤ sm f n := by
  have h1 := sm_up (f := f) (x := 0) hi
  have h2 := sm_one (f := up f i 0) hj
  rw [up_ne (f := f) (i := i) (x := 0) (j := j) (Ne.symm h)] at h2
  omega
theorem sm_lt {f g : Nat → Nat} {i n : Nat} (h : ∀ j, j < n → f j ≤ g j) (hi : i < n) (hl : f i < g i) : sm f n + 1 ≤ sm g n := by
  have h1 := sm_up (f := f) (x := g i) hi
  have h2 : sm (up f i (g i)) n ≤ sm g n := sm_mono fun j hj => by
    by_cases e : j = i
    · subst e; rw [up_at]; exact Nat.le_refl _
    · rw [up_ne e]; exact h j hj
  omega
/-! the potential -/
structure Pot (ts : List Tie) (Pt : Nat → Wd → Prop) (L : Nat → Nat) : Prop where
  root : ∀ P, Pt P []
  dist : ∀ P u v, Pt P u → Pt P v → rl (iv u ++ v) ≤ L P
  tie : ∀ t ∈ ts, ∃ u v, Pt t.s u ∧ Pt t.e v ∧ Eq2 t.m (u ++ iv v)
  red : ∀ t ∈ ts, Rd t.m
section
variable {ts us : List Tie} {Pt : Nat → Wd → Prop} {L : Nat → Nat}
theorem Pot.sub (p : Pot ts Pt L) (h : ∀ t ∈ us, t ∈ ts) : Pot us Pt L := ⟨p.root, p.dist, fun t ht => p.tie t (h t ht), fun t ht => p.red t (h t ht)⟩
theorem Pot.half (p : Pot ts Pt L) {q : Tie} (h : q ∈ hf ts) : (∃ u v, Pt q.s u ∧ Pt q.e v ∧ Eq2 q.m (u ++ iv v)) ∧ Rd q.m := by
  obtain ⟨t, ht, e⟩ := mem_hf.mp h
  obtain ⟨u, v, hu, hv, he⟩ := p.tie t ht
  rcases e with rfl | rfl
  · exact ⟨⟨u, v, hu, hv, he⟩, p.red q ht⟩
  · refine ⟨⟨v, u, hv, hu, ?_⟩, iv_rd (p.red t ht)⟩
    show Eq2 (iv t.m) (v ++ iv u)
    have z := eq2_iv he
    rw [iv_app, iv_iv] at z
    exact z
theorem Pot.one (p : Pot ts Pt L) {P : Nat} {u : Wd} (h : Pt P u) : rl u ≤ L P := by
  have z := p.dist P [] u (p.root P) h
  exact z
theorem Pot.one' (p : Pot ts Pt L) {P : Nat} {u : Wd} (h : Pt P u) : rl (iv u) ≤ L P := by
  rw [rl_iv]
  exact p.one h
theorem Pot.len (p : Pot ts Pt L) {q : Tie} (h : q ∈ hf ts) : q.m.length ≤ L q.s + L q.e := by
  obtain ⟨⟨u, v, hu, hv, he⟩, hr⟩ := p.half h
  rw [← rl_rd hr, rl_eq he]
  have h1 := rl_app u (iv v)
  have h2 := p.one hu
  have h3 := p.one' hv
  omega
end
/-! a join -/
/-- which of two clashing ties is kept, which is gone -/
def kpt (one other : Tie) : Tie := if other.e ≠ 0 then one else other
def gne (one other : Tie) : Tie := if other.e ≠ 0 then other else one
def chg (k g : Tie) : Wd := jn (iv k.m) g.m
/-- a tie's start, then its end, where they are the gone place -/
def mvS (k g : Tie) (t : Tie) : Tie := if t.s = g.e then ⟨k.e, t.a, t.e, jn (chg k g) t.m⟩ else t
def mvE (k g : Tie) (e : Nat) (t : Tie) : Tie := if e = g.e then ⟨t.s, t.a, k.e, jn t.m (iv (chg k g))⟩ else t
def mv (k g : Tie) (t : Tie) : Tie := mvE k g t.e (mvS k g t)
def rn (k g : Nat) (p : Nat) : Nat := if p = g then k else p
theorem mv_s (k g t : Tie) : (mv k g t).s = rn k.e g.e t.s := by
  unfold mv mvE mvS rn
  by_cases h1 : t.s = g.e <;> by_cases h2 : t.e = g.e <;> simp [h1, h2]
theorem mv_a (k g t : Tie) : (mv k g t).a = t.a := by
  unfold mv mvE mvS
  by_cases h1 : t.s = g.e <;> by_cases h2 : t.e = g.e <;> simp [h1, h2]
theorem mv_e (k g t : Tie) : (mv k g t).e = rn k.e g.e t.e := by
  unfold mv mvE mvS rn
  by_cases h1 : t.s = g.e <;> by_cases h2 : t.e = g.e <;> simp [h1, h2]
def PtJ (Pt : Nat → Wd → Prop) (K G : Nat) (c : Wd) : Nat → Wd → Prop := fun P w => if P = K then Pt K w ∨ ∃ w0, Pt G w0 ∧ w = c ++ w0 else if P = G then w = [] else Pt P w
def LJ (L : Nat → Nat) (K G w : Nat) : Nat → Nat := up (up L G 0) K (L K + L G + w)
theorem sm_LJ {L : Nat → Nat} {K G w n : Nat} (hK : K < n) (hG : G < n) (h : K ≠ G) : sm (LJ L K G w) n = sm L n + w := by
  have h1 := sm_up (f := up L G 0) (x := L K + L G + w) hK
  have h2 := sm_up (f := L) (x := 0) hG
  rw [up_ne h] at h1
  unfold LJ
  omega
section
variable {ts : List Tie} {Pt : Nat → Wd → Prop} {L : Nat → Nat} {k g : Tie}
/-- the change, by potentials -/
theorem chg_eq (p : Pot ts Pt L) (hk : k ∈ hf ts) (hg : g ∈ hf ts) : ∃ up vq up' vq', Pt k.s up ∧ Pt k.e vq ∧ Pt g.s up' ∧ Pt g.e vq' ∧ Eq2 (chg k g) ((vq ++ iv up) ++ (up' ++ iv vq')) ∧ Rd (chg k g) := by
  obtain ⟨⟨u, v, hu, hv, he⟩, hr⟩ := p.half hk
  obtain ⟨⟨u', v', hu', hv', he'⟩, hr'⟩ := p.half hg
  refine ⟨u, v, u', v', hu, hv, hu', hv', ?_, jn_rd (iv_rd hr)⟩
  have z := eq2_iv he
  rw [iv_app, iv_iv] at z
  exact (eq2_jn _ _).trans (Eq2.app z he')
theorem pot_join (p : Pot ts Pt L) (hk : k ∈ hf ts) (hg : g ∈ hf ts) (hs : k.s = g.s) (hne : k.e ≠ g.e) :
    Pot (ts.map (mv k g)) (PtJ Pt k.e g.e (chg k g)) (LJ L k.e g.e (L k.s)) := by
  obtain ⟨up', vq, upp, vqq, h1, h2, h3, h4, hc, hcr⟩ := chg_eq p hk hg
  rw [← hs] at h3
  have rJ : ∀ P, PtJ Pt k.e g.e (chg k g) P [] := fun P => by
    unfold PtJ
    split
    · exact .inl (p.root _)
    · split
      · rfl
      · exact p.root P
  -- the distance between the two
  have mid : ∀ u w0, Pt k.e u → Pt g.e w0 → rl (iv u ++ (chg k g ++ w0)) ≤ L k.e + L g.e + L k.s := fun u w0 hu hw => by
    have e : Eq2 (iv u ++ (chg k g ++ w0)) ((iv u ++ vq) ++ ((iv up' ++ upp) ++ (iv vqq ++ w0))) := by
      have z := Eq2.app (Eq2.refl (iv u)) (Eq2.app hc (Eq2.refl w0))
      simp only [List.append_assoc] at z ⊢
      exact z
    rw [rl_eq e]
    have a1 := rl_app (iv u ++ vq) ((iv up' ++ upp) ++ (iv vqq ++ w0))
    have a2 := rl_app (iv up' ++ upp) (iv vqq ++ w0)
    have b1 := p.dist _ _ _ hu h2
    have b2 := p.dist _ _ _ h1 h3
    have b3 := p.dist _ _ _ h4 hw
    omega
  refine ⟨rJ, fun P u v hu hv => ?_, fun t ht => ?_, fun t ht => ?_⟩
  · unfold PtJ at hu hv
    by_cases hP : P = k.e
    · rw [if_pos hP] at hu hv
      have eL : LJ L k.e g.e (L k.s) P = L k.e + L g.e + L k.s := by
        unfold LJ
        rw [hP, up_at]
      rw [eL]
      rcases hu with hu | ⟨w0, hw0, rfl⟩
      · rcases hv with hv | ⟨w1, hw1, rfl⟩
        · have z := p.dist _ _ _ hu hv
          omega
        · exact mid _ _ hu hw1
      · rcases hv with hv | ⟨w1, hw1, rfl⟩
        · have e : iv (chg k g ++ w0) ++ v = iv (iv v ++ (chg k g ++ w0)) := by rw [iv_app (iv v), iv_iv]
          rw [e, rl_iv]
          exact mid _ _ hv hw0
        · have e : Eq2 (iv (chg k g ++ w0) ++ (chg k g ++ w1)) (iv w0 ++ w1) := by
            rw [iv_app]
            have z := Eq2.app (Eq2.refl (iv w0)) (Eq2.app (eq2_inv' (chg k g)) (Eq2.refl w1))
            simp only [List.append_assoc, List.nil_append] at z ⊢
            exact z
          rw [rl_eq e]
          have z := p.dist _ _ _ hw0 hw1
          omega
    · rw [if_neg hP] at hu hv
      by_cases hG : P = g.e
      · rw [if_pos hG] at hu hv
        subst hu hv
        exact Nat.zero_le _
      · rw [if_neg hG] at hu hv
        have eL : LJ L k.e g.e (L k.s) P = L P := by
          unfold LJ
          rw [up_ne hP, up_ne hG]
        rw [eL]
        exact p.dist _ _ _ hu hv
  · obtain ⟨t0, ht0, rfl⟩ := List.mem_map.mp ht
    obtain ⟨u, v, hu, hv, he⟩ := p.tie t0 ht0
    -- the start
    have S : ∃ u', PtJ Pt k.e g.e (chg k g) (mvS k g t0).s u' ∧ Eq2 (mvS k g t0).m (u' ++ iv v) := by
      unfold mvS
      by_cases h : t0.s = g.e
      · rw [if_pos h]
        refine ⟨chg k g ++ u, ?_, ?_⟩
        · show PtJ Pt k.e g.e (chg k g) k.e _
          unfold PtJ
          rw [if_pos rfl]
          exact .inr ⟨u, h ▸ hu, rfl⟩
        · show Eq2 (jn (chg k g) t0.m) _
          have z := (eq2_jn (chg k g) t0.m).trans (Eq2.app (Eq2.refl _) he)
          rw [← List.append_assoc] at z
          exact z
      · rw [if_neg h]
        refine ⟨u, ?_, he⟩
        unfold PtJ
        by_cases h' : t0.s = k.e
        · rw [if_pos h']
          exact .inl (h' ▸ hu)
        · rw [if_neg h', if_neg h]
          exact hu
    obtain ⟨u', hu', he'⟩ := S
    unfold mv mvE
    by_cases h : t0.e = g.e
    · rw [if_pos h]
      refine ⟨u', chg k g ++ v, hu', ?_, ?_⟩
      · show PtJ Pt k.e g.e (chg k g) k.e _
        unfold PtJ
        rw [if_pos rfl]
        exact .inr ⟨v, h ▸ hv, rfl⟩
      · show Eq2 (jn (mvS k g t0).m (iv (chg k g))) _
        have z := (eq2_jn (mvS k g t0).m (iv (chg k g))).trans (Eq2.app he' (Eq2.refl _))
        rw [iv_app, ← List.append_assoc]
        exact z
    · rw [if_neg h]
      have ee : (mvS k g t0).e = t0.e := by
        unfold mvS
        split <;> rfl
      refine ⟨u', v, hu', ?_, he'⟩
      rw [ee]
      unfold PtJ
      by_cases h' : t0.e = k.e
      · rw [if_pos h']
        exact .inl (h' ▸ hv)
      · rw [if_neg h', if_neg h]
        exact hv
  · obtain ⟨t0, ht0, rfl⟩ := List.mem_map.mp ht
    have r0 := p.red t0 ht0
    have S : Rd (mvS k g t0).m := by
      unfold mvS
      split
      · exact jn_rd hcr
      · exact r0
    unfold mv mvE
    split
    · exact jn_rd S
    · exact S
/-- the lengths that are met on the way of a join: n bounds the places, five times the whole bounds the lists -/
theorem join_lens {n : Nat} (p : Pot ts Pt L) (hk : k ∈ hf ts) (hg : g ∈ hf ts) (hs : k.s = g.s) (hne : k.e ≠ g.e) (hn : ∀ t ∈ ts, t.s < n ∧ t.e < n) :
    k.m.length + g.m.length ≤ 4 * sm L n ∧ (chg k g).length ≤ 2 * sm L n ∧ ∀ t ∈ ts, (chg k g).length + t.m.length ≤ 4 * sm L n ∧ (mvS k g t).m.length + (chg k g).length ≤ 5 * sm L n ∧ (mv k g t).m.length ≤ 5 * sm L n := by
  have hb : ∀ q ∈ hf ts, q.s < n ∧ q.e < n := fun q hq => by
    obtain ⟨t, ht, e⟩ := mem_hf.mp hq
    have z := hn t ht
    rcases e with rfl | rfl
    · exact z
    · exact ⟨z.2, z.1⟩
  have one : ∀ P, P < n → L P ≤ sm L n := fun P h => sm_one h
  have two := sm_two (f := L) (hb k hk).2 (hb g hg).2 hne
  have l1 := p.len hk
  have l2 := p.len hg
  have o1 := one _ (hb k hk).1
  have o2 := one _ (hb k hk).2
  have o3 := one _ (hb g hg).2
  obtain ⟨u1, v1, u2, v2, h1, h2, h3, h4, hc, hcr⟩ := chg_eq p hk hg
  rw [← hs] at h3
  have cl : (chg k g).length ≤ L k.e + L k.s + L g.e := by
    rw [← rl_rd hcr, rl_eq hc]
    have e : (v1 ++ iv u1) ++ (u2 ++ iv v2) = v1 ++ ((iv u1 ++ u2) ++ iv v2) := by simp only [List.append_assoc]
    rw [e]
    have a1 := rl_app v1 ((iv u1 ++ u2) ++ iv v2)
    have a2 := rl_app (iv u1 ++ u2) (iv v2)
    have b1 := p.one h2
    have b2 := p.dist _ _ _ h1 h3
    have b3 := p.one' h4
    omega
  rw [← hs] at l2
  refine ⟨by omega, by omega, fun t ht => ?_⟩
  have zt := hn t ht
  have tl := p.len (mem_hf.mpr ⟨t, ht, .inl rfl⟩)
  have t1 := one _ zt.1
  have t2 := one _ zt.2
  have pj := pot_join p hk hg hs hne
  -- the tie with its start moved
  have ms : (mvS k g t).m.length ≤ 3 * sm L n := by
    obtain ⟨u, v, hu, hv, he⟩ := p.tie t ht
    have rr : Rd (mvS k g t).m := by
      unfold mvS
      split
      · exact jn_rd hcr
      · exact p.red t ht
    rw [← rl_rd rr]
    unfold mvS
    split
    · rename_i hh
      show rl (jn (chg k g) t.m) ≤ _
      have e2 : Eq2 (jn (chg k g) t.m) ((chg k g ++ u) ++ iv v) := by
        have z := (eq2_jn (chg k g) t.m).trans (Eq2.app (Eq2.refl _) he)
        rw [← List.append_assoc] at z
        exact z
      rw [rl_eq e2]
      have a1 := rl_app (chg k g ++ u) (iv v)
      have a2 := p.one' hv
      have a3 : PtJ Pt k.e g.e (chg k g) k.e (chg k g ++ u) := by
        unfold PtJ
        rw [if_pos rfl]
        exact .inr ⟨u, hh ▸ hu, rfl⟩
      have a4 := pj.one a3
      have eL : LJ L k.e g.e (L k.s) k.e = L k.e + L g.e + L k.s := by
        unfold LJ
        rw [up_at]
      rw [eL] at a4
      omega
    · rw [rl_rd (p.red t ht)]
      omega
  refine ⟨by omega, by omega, ?_⟩
  have m2 : (mv k g t).m.length ≤ (mvS k g t).m.length + (chg k g).length := by
    unfold mv mvE
    split
    · show (jn (mvS k g t).m (iv (chg k g))).length ≤ _
      have z := jn_len (iv (chg k g)) (mvS k g t).m
      rw [iv_len] at z
      exact z
    · omega
  omega
end
end G1
/-! Ways in a web, the fold's universal property, clash, doubles taken out. Plain Lean. -/
set_option Elab.async false
namespace G1
/-! ways -/
def Stp (ts : List Tie) (p c q : Nat) : Prop := ∃ t ∈ hf ts, t.s = p ∧ t.a = c ∧ t.e = q
def Path (ts : List Tie) : Nat → List Nat → Nat → Prop
  | p, [], q => p = q
  | p, c :: r, q => ∃ x, Stp ts p c x ∧ Path ts x r q
def Det (ts : List Tie) : Prop := ∀ p c q q', Stp ts p c q → Stp ts p c q' → q = q'
def Sml (ts : List Tie) : Prop := ∀ t ∈ ts, Small t.a
theorem hf_bk {ts : List Tie} (h : Sml ts) {q : Tie} (hq : q ∈ hf ts) : ∃ q' ∈ hf ts, q'.s = q.e ∧ q'.a = sw q.a ∧ q'.e = q.s := by
  obtain ⟨t, ht, e⟩ := mem_hf.mp hq
  rcases e with rfl | rfl
  · exact ⟨bk q, mem_hf.mpr ⟨q, ht, .inr rfl⟩, rfl, rfl, rfl⟩
  · refine ⟨t, mem_hf.mpr ⟨t, ht, .inl rfl⟩, rfl, ?_, rfl⟩
    show t.a = sw (sw t.a)
    exact (sw_small (h t ht)).2.symm
theorem Stp.back {ts : List Tie} (h : Sml ts) {p c q : Nat} (s : Stp ts p c q) : Stp ts q (sw c) p := by
  obtain ⟨t, ht, h1, h2, h3⟩ := s
  obtain ⟨q', hq, e1, e2, e3⟩ := hf_bk h ht
  exact ⟨q', hq, e1.trans h3, by rw [e2, h2], e3.trans h1⟩
theorem Path.app {ts : List Tie} : ∀ {w v : List Nat} {p q r : Nat}, Path ts p w q → Path ts q v r → Path ts p (w ++ v) r
  | [], _, _, _, _, h, k => by cases (show _ = _ from h); exact k
  | _ :: _, _, _, _, _, ⟨x, s, h⟩, k => ⟨x, s, Path.app h k⟩
theorem Path.split {ts : List Tie} : ∀ {w v : List Nat} {p r : Nat}, Path ts p (w ++ v) r → ∃ q, Path ts p w q ∧ Path ts q v r
  | [], _, p, _, h => ⟨p, rfl, h⟩
  | _ :: _, _, _, _, ⟨x, s, h⟩ => let ⟨q, a, b⟩ := Path.split h; ⟨q, ⟨x, s, a⟩, b⟩
theorem Det.path {ts : List Tie} (d : Det ts) : ∀ {w : List Nat} {p q q' : Nat}, Path ts p w q → Path ts p w q' → q = q'
  | [], _, _, _, h, k => (show _ = _ from h).symm.trans k
  | _ :: _, _, _, _, ⟨x, s, h⟩, ⟨y, s', k⟩ => by
    cases d _ _ _ _ s s'
    exact d.path h k
/-- a map of places that takes steps to steps -/
def Mor (ts us : List Tie) (h : Nat → Nat) : Prop := ∀ p c q, Stp ts p c q → Stp us (h p) c (h q)
theorem Mor.path {ts us : List Tie} {h : Nat → Nat} (m : Mor ts us h) : ∀ {w : List Nat} {p q : Nat}, Path ts p w q → Path us (h p) w (h q)
  | [], _, _, e => congrArg h e
  | _ :: _, _, _, ⟨x, s, k⟩ => ⟨h x, m _ _ _ s, m.path k⟩
theorem mor_of {ts us : List Tie} {h : Nat → Nat} (hu : Sml us) (m : ∀ t ∈ ts, Stp us (h t.s) t.a (h t.e)) : Mor ts us h := by
  rintro p c q ⟨t, ht, rfl, rfl, rfl⟩
  obtain ⟨t0, h0, e⟩ := mem_hf.mp ht
  rcases e with rfl | rfl
  · exact m t h0
  · exact (m t0 h0).back hu
/-! doubles -/
def ky (t : Tie) : Nat × Nat × Nat := (t.s, t.a, t.e)
def dd : List Tie → (Nat × Nat × Nat → Bool) → List Tie
  | [], _ => []
  | t :: r, f => if f (ky t) = true then dd r f else t :: dd r (fun x => f x || decide (x = ky t))
theorem dd_sub : ∀ {r : List Tie} {f : Nat × Nat × Nat → Bool} {t : Tie}, t ∈ dd r f → t ∈ r ∧ f (ky t) = false
  | t0 :: r, f, t, h => by
    unfold dd at h
    split at h
    · obtain ⟨a, b⟩ := dd_sub h
      exact ⟨List.mem_cons_of_mem _ a, b⟩
    · rename_i hf
      rcases List.mem_cons.mp h with rfl | h
      · exact ⟨List.mem_cons_self, by simpa using hf⟩
      · obtain ⟨a, b⟩ := dd_sub h
        have b' : (f (ky t) || decide (ky t = ky t0)) = false := b
        exact ⟨List.mem_cons_of_mem _ a, (Bool.or_eq_false_iff.mp b').1⟩
theorem dd_has : ∀ {r : List Tie} {f : Nat × Nat × Nat → Bool} {t : Tie}, t ∈ r → f (ky t) = true ∨ ∃ t' ∈ dd r f, ky t' = ky t
  | t0 :: r, f, t, h => by
    unfold dd
    rcases List.mem_cons.mp h with rfl | h
    · by_cases hf : f (ky t) = true
      · exact .inl hf
      · rw [if_neg hf]
        exact .inr ⟨t, List.mem_cons_self, rfl⟩
    · by_cases hf : f (ky t0) = true
      · rw [if_pos hf]
        exact dd_has h
      · rw [if_neg hf]
        rcases dd_has (r := r) (f := fun x => f x || decide (x = ky t0)) h with z | ⟨t', h', e⟩
        · rcases (show f (ky t) = true ∨ ky t = ky t0 by simpa using z) with z | z
          · exact .inl z
          · exact .inr ⟨t0, List.mem_cons_self, z.symm⟩
        · exact .inr ⟨t', List.mem_cons_of_mem _ h', e⟩
theorem dd_nodup : ∀ {r : List Tie} {f : Nat × Nat × Nat → Bool}, ((dd r f).map ky).Nodup
  | [], _ => List.nodup_nil
  | t0 :: r, f => by
    unfold dd
    split
    · exact dd_nodup
    · rw [List.map_cons, List.nodup_cons]
      refine ⟨fun hm => ?_, dd_nodup⟩
      obtain ⟨t, ht, e⟩ := List.mem_map.mp hm
      have z := (dd_sub ht).2
      have z' : (f (ky t) || decide (ky t = ky t0)) = false := z
      rw [decide_eq_true e, Bool.or_true] at z'
      cases z'
theorem dd_len : ∀ {r : List Tie} {f : Nat × Nat × Nat → Bool}, (dd r f).length ≤ r.length
  | [], _ => Nat.le_refl _
  | t0 :: r, f => by
    unfold dd
    split
    · exact Nat.le_trans dd_len (Nat.le_succ _)
    · exact Nat.succ_le_succ dd_len
def no : Nat × Nat × Nat → Bool := fun _ => false
theorem dd_stp {ts : List Tie} {p c q : Nat} : Stp (dd ts no) p c q ↔ Stp ts p c q := by
  constructor
  · rintro ⟨t, ht, h⟩
    obtain ⟨t0, h0, e⟩ := mem_hf.mp ht
    exact ⟨t, mem_hf.mpr ⟨t0, (dd_sub h0).1, e⟩, h⟩
  · rintro ⟨t, ht, h1, h2, h3⟩
    obtain ⟨t0, h0, e⟩ := mem_hf.mp ht
    rcases dd_has (f := no) h0 with z | ⟨t', h', k⟩
    · cases z
    · have k1 : t'.s = t0.s := congrArg (·.1) k
      have k2 : t'.a = t0.a := congrArg (·.2.1) k
      have k3 : t'.e = t0.e := congrArg (·.2.2) k
      rcases e with rfl | rfl
      · exact ⟨t', mem_hf.mpr ⟨t', h', .inl rfl⟩, k1.trans h1, k2.trans h2, k3.trans h3⟩
      · refine ⟨bk t', mem_hf.mpr ⟨t', h', .inr rfl⟩, ?_, ?_, ?_⟩
        · exact k3.trans h1
        · show sw t'.a = c
          rw [k2]
          exact h2
        · exact k1.trans h3
theorem path_congr {ts us : List Tie} (h : ∀ p c q, Stp ts p c q → Stp us p c q) : ∀ {w : List Nat} {p q : Nat}, Path ts p w q → Path us p w q
  | [], _, _, e => e
  | _ :: _, _, _, ⟨x, s, k⟩ => ⟨x, h _ _ _ s, path_congr h k⟩
/-! a join, as ways see it -/
theorem mv_stp {ts : List Tie} {k g : Tie} {p c q : Nat} (s : Stp ts p c q) : Stp (ts.map (mv k g)) (rn k.e g.e p) c (rn k.e g.e q) := by
  obtain ⟨t, ht, rfl, rfl, rfl⟩ := s
  obtain ⟨t0, h0, e⟩ := mem_hf.mp ht
  have hm : mv k g t0 ∈ ts.map (mv k g) := List.mem_map.mpr ⟨t0, h0, rfl⟩
  rcases e with rfl | rfl
  · exact ⟨mv k g t, mem_hf.mpr ⟨_, hm, .inl rfl⟩, mv_s _ _ _, mv_a _ _ _, mv_e _ _ _⟩
  · refine ⟨bk (mv k g t0), mem_hf.mpr ⟨_, hm, .inr rfl⟩, mv_e _ _ _, ?_, mv_s _ _ _⟩
    show sw (mv k g t0).a = sw t0.a
    rw [mv_a]
theorem mv_path {ts : List Tie} {k g : Tie} : ∀ {w : List Nat} {p q : Nat}, Path ts p w q → Path (ts.map (mv k g)) (rn k.e g.e p) w (rn k.e g.e q)
  | [], _, _, e => congrArg _ e
  | _ :: _, _, _, ⟨_, s, h⟩ => ⟨_, mv_stp s, mv_path h⟩
/-- the step of the program's join: one and other clash -/
def jst (ts : List Tie) (one other : Tie) : List Tie := dd (ts.map (mv (kpt one other) (gne one other))) no
/-- for every deterministic web that takes all words round from 0 there is a map into it -/
def Univ (ws : List (List Nat)) (ts : List Tie) : Prop := ∀ us : List Tie, Sml us → Det us → (∀ w ∈ ws, Path us 0 w 0) → ∃ h : Nat → Nat, h 0 = 0 ∧ ∀ t ∈ ts, Stp us (h t.s) t.a (h t.e)
structure Clash (ts : List Tie) (one other : Tie) : Prop where
  m1 : one ∈ hf ts
  m2 : other ∈ hf ts
  es : one.s = other.s
  ea : one.a = other.a
  ne : one.e ≠ other.e
section
variable {ts : List Tie} {one other : Tie}
theorem Clash.gone0 (c : Clash ts one other) : (gne one other).e ≠ 0 := by
  unfold gne
  split
  · assumption
  · rename_i h
    have h' : other.e = 0 := by simpa using h
    exact fun z => c.ne (z.trans h'.symm)
theorem Clash.mk_ (c : Clash ts one other) : kpt one other ∈ hf ts := by
  unfold kpt
  split
  · exact c.m1
  · exact c.m2
theorem Clash.mg (c : Clash ts one other) : gne one other ∈ hf ts := by
  unfold gne
  split
  · exact c.m2
  · exact c.m1
theorem Clash.hs (c : Clash ts one other) : (kpt one other).s = (gne one other).s := by
  unfold kpt gne
  split
  · exact c.es
  · exact c.es.symm
theorem Clash.ha (c : Clash ts one other) : (kpt one other).a = (gne one other).a := by
  unfold kpt gne
  split
  · exact c.ea
  · exact c.ea.symm
theorem Clash.hne (c : Clash ts one other) : (kpt one other).e ≠ (gne one other).e := by
  unfold kpt gne
  split
  · exact c.ne
  · exact c.ne.symm
theorem univ_join {ws : List (List Nat)} (u : Univ ws ts) (c : Clash ts one other) : Univ ws (jst ts one other) := by
  intro us hs hd hw
  obtain ⟨h, h0, hm⟩ := u us hs hd hw
  refine ⟨h, h0, fun t ht => ?_⟩
  obtain ⟨t0, ht0, rfl⟩ := List.mem_map.mp (dd_sub ht).1
  have m := mor_of (ts := ts) hs hm
  have e1 := m _ _ _ ⟨_, c.mk_, rfl, rfl, rfl⟩
  have e2 := m _ _ _ ⟨_, c.mg, rfl, rfl, rfl⟩
  rw [c.hs, c.ha] at e1
  have e := hd _ _ _ _ e1 e2
  have r : ∀ p, h (rn (kpt one other).e (gne one other).e p) = h p := fun p => by
    unfold rn
    split
    · rename_i z
      rw [z]
      exact e
    · rfl
  rw [mv_s, mv_a, mv_e, r, r]
  exact hm t0 ht0
theorem path_join {w : List Nat} (c : Clash ts one other) (h : Path ts 0 w 0) : Path (jst ts one other) 0 w 0 := by
  have z := mv_path (k := kpt one other) (g := gne one other) h
  have r : rn (kpt one other).e (gne one other).e 0 = 0 := by
    unfold rn
    rw [if_neg (Ne.symm c.gone0)]
  rw [r] at z
  exact path_congr (fun p c q s => dd_stp.mpr s) z
theorem sml_join (h : Sml ts) : Sml (jst ts one other) := fun t ht => by
  obtain ⟨t0, h0, rfl⟩ := List.mem_map.mp (dd_sub ht).1
  rw [mv_a]
  exact h t0 h0
theorem lt_join {n : Nat} (h : ∀ t ∈ ts, t.s < n ∧ t.e < n) (c : Clash ts one other) : ∀ t ∈ jst ts one other, t.s < n ∧ t.e < n := fun t ht => by
  obtain ⟨t0, h0, rfl⟩ := List.mem_map.mp (dd_sub ht).1
  obtain ⟨t1, h1, e⟩ := mem_hf.mp c.mk_
  have hk : (kpt one other).e < n := by
    rcases e with e | e
    · rw [e]; exact (h t1 h1).2
    · rw [e]; exact (h t1 h1).1
  have r : ∀ p, p < n → rn (kpt one other).e (gne one other).e p < n := fun p hp => by
    unfold rn
    split
    · exact hk
    · exact hp
  rw [mv_s, mv_e]
  exact ⟨r _ (h t0 h0).1, r _ (h t0 h0).2⟩
end
/-! the places other than 0 that are met -/
def occ (ts : List Tie) (p : Nat) : Nat := if p ≠ 0 ∧ ∃ t ∈ ts, t.s = p ∨ t.e = p then 1 else 0
def vs (ts : List Tie) (n : Nat) : Nat := sm (occ ts) n
theorem occ_hf {ts : List Tie} {q : Tie} (h : q ∈ hf ts) : ∃ t ∈ ts, (t.s = q.s ∨ t.e = q.s) ∧ (t.s = q.e ∨ t.e = q.e) := by
  obtain ⟨t, ht, e⟩ := mem_hf.mp h
  rcases e with rfl | rfl
  · exact ⟨q, ht, .inl rfl, .inr rfl⟩
  · exact ⟨t, ht, .inr rfl, .inl rfl⟩
theorem vs_join {ts : List Tie} {one other : Tie} {n : Nat} (c : Clash ts one other) (h : ∀ t ∈ ts, t.s < n ∧ t.e < n) : vs (jst ts one other) n + 1 ≤ vs ts n := by
  obtain ⟨tg, htg, _, hg⟩ := occ_hf c.mg
  obtain ⟨tk, htk, _, hk⟩ := occ_hf c.mk_
  have hgn : (gne one other).e < n := by
    rcases hg with e | e
    · rw [← e]; exact (h tg htg).1
    · rw [← e]; exact (h tg htg).2
  refine sm_lt (i := (gne one other).e) (fun p hp => ?_) hgn ?_
  · unfold occ
    by_cases hn : p ≠ 0 ∧ ∃ t ∈ jst ts one other, t.s = p ∨ t.e = p
    · rw [if_pos hn]
      obtain ⟨h0, t, ht, e⟩ := hn
      obtain ⟨t0, h1, rfl⟩ := List.mem_map.mp (dd_sub ht).1
      rw [mv_s, mv_e] at e
      rw [if_pos]
      · exact Nat.le_refl _
      · refine ⟨h0, ?_⟩
        have key : ∀ x, rn (kpt one other).e (gne one other).e x = p → x = p ∨ (kpt one other).e = p := fun x z => by
          unfold rn at z
          split at z
          · exact .inr z
          · exact .inl z
        rcases e with e | e
        · rcases key _ e with z | z
          · exact ⟨t0, h1, .inl z⟩
          · exact ⟨tk, htk, hk.imp (·.trans z) (·.trans z)⟩
        · rcases key _ e with z | z
          · exact ⟨t0, h1, .inr z⟩
          · exact ⟨tk, htk, hk.imp (·.trans z) (·.trans z)⟩
    · rw [if_neg hn]
      exact Nat.zero_le _
  · unfold occ
    rw [if_neg, if_pos]
    · exact Nat.zero_lt_one
    · exact ⟨c.gone0, tg, htg, hg⟩
    · rintro ⟨_, t, ht, e⟩
      obtain ⟨t0, h1, rfl⟩ := List.mem_map.mp (dd_sub ht).1
      rw [mv_s, mv_e] at e
      have key : ∀ x, rn (kpt one other).e (gne one other).e x ≠ (gne one other).e := fun x z => by
        unfold rn at z
        split at z
        · exact c.hne z
        · contradiction
      rcases e with e | e
      · exact key _ e
      · exact key _ e
/-! clash: known is a function -/
abbrev Kn := Nat → Nat → Option Tie
def kn0 : Kn := fun _ _ => none
def knPut (k : Kn) (q : Tie) : Kn := fun s a => if s = q.s ∧ a = q.a then some q else k s a
def ck : List Tie → Kn → Option (Tie × Tie)
  | [], _ => none
  | q :: r, k => match k q.s q.a with
    | some o => if o.e = q.e then ck r (knPut k q) else some (o, q)
    | none => ck r (knPut k q)
def KnOk (ps : List Tie) (k : Kn) : Prop := (∀ s a o, k s a = some o → o ∈ ps ∧ o.s = s ∧ o.a = a) ∧ (∀ q ∈ ps, ∃ o, k q.s q.a = some o ∧ o.e = q.e)
theorem knOk_put {ps : List Tie} {k : Kn} {q : Tie} (h : KnOk ps k) (hq : ∀ o, k q.s q.a = some o → o.e = q.e) : KnOk (ps ++ [q]) (knPut k q) := by
  refine ⟨fun s a o e => ?_, fun p hp => ?_⟩
  · unfold knPut at e
    split at e
    · rename_i z
      cases e
      exact ⟨List.mem_append_right _ List.mem_cons_self, z.1.symm, z.2.symm⟩
    · obtain ⟨a1, a2, a3⟩ := h.1 s a o e
      exact ⟨List.mem_append_left _ a1, a2, a3⟩
  · unfold knPut
    by_cases z : p.s = q.s ∧ p.a = q.a
    · rw [if_pos z]
      refine ⟨q, rfl, ?_⟩
      rcases List.mem_append.mp hp with hp | hp
      · obtain ⟨o, e1, e2⟩ := h.2 p hp
        rw [z.1, z.2] at e1
        exact (hq o e1).symm.trans e2
      · cases List.mem_singleton.mp hp
        rfl
    · rw [if_neg z]
      rcases List.mem_append.mp hp with hp | hp
      · exact h.2 p hp
      · cases List.mem_singleton.mp hp
        exact absurd ⟨rfl, rfl⟩ z
theorem ck_some : ∀ {r ps : List Tie} {k : Kn} {o q : Tie}, KnOk ps k → ck r k = some (o, q) → o ∈ ps ++ r ∧ q ∈ r ∧ o.s = q.s ∧ o.a = q.a ∧ o.e ≠ q.e
  | [], _, _, _, _, _, h => by cases h
  | q0 :: r, ps, k, o, q, hk, h => by
    have next : ∀ (_ : ∀ o, k q0.s q0.a = some o → o.e = q0.e), ck r (knPut k q0) = some (o, q) → o ∈ ps ++ q0 :: r ∧ q ∈ q0 :: r ∧ o.s = q.s ∧ o.a = q.a ∧ o.e ≠ q.e := fun hq e => by
      obtain ⟨a1, a2, a3⟩ := ck_some (knOk_put hk hq) e
      rw [List.append_assoc] at a1
      exact ⟨a1, List.mem_cons_of_mem _ a2, a3⟩
    unfold ck at h
    split at h
    · rename_i o' e
      split at h
      · rename_i hh
        exact next (fun o z => by rw [e] at z; cases z; exact hh) h
      · rename_i hh
        cases h
        obtain ⟨a1, a2, a3⟩ := hk.1 _ _ _ e
        exact ⟨List.mem_append_left _ a1, List.mem_cons_self, a2, a3, hh⟩
    · rename_i e
      exact next (fun o z => by rw [e] at z; cases z) h
theorem ck_none : ∀ {r ps : List Tie} {k : Kn}, KnOk ps k → ck r k = none → ∃ k', KnOk (ps ++ r) k'
  | [], ps, k, hk, _ => ⟨k, by rw [List.append_nil]; exact hk⟩
  | q0 :: r, ps, k, hk, h => by
    have next : ∀ (_ : ∀ o, k q0.s q0.a = some o → o.e = q0.e), ck r (knPut k q0) = none → ∃ k', KnOk (ps ++ q0 :: r) k' := fun hq e => by
      obtain ⟨k', z⟩ := ck_none (knOk_put hk hq) e
      rw [List.append_assoc] at z
      exact ⟨k', z⟩
    unfold ck at h
    split at h
    · rename_i o' e
      split at h
      · rename_i hh
        exact next (fun o z => by rw [e] at z; cases z; exact hh) h
      · cases h
    · rename_i e
      exact next (fun o z => by rw [e] at z; cases z) h
theorem knOk0 : KnOk [] kn0 := ⟨fun _ _ _ h => (by cases h), fun _ h => (by cases h)⟩
def clash (ts : List Tie) : Option (Tie × Tie) := ck (hf ts) kn0
theorem clash_some {ts : List Tie} {one other : Tie} (h : clash ts = some (one, other)) : Clash ts one other := by
  obtain ⟨a1, a2, a3, a4, a5⟩ := ck_some knOk0 h
  exact ⟨a1, a2, a3, a4, a5⟩
theorem clash_none {ts : List Tie} (h : clash ts = none) : Det ts := by
  obtain ⟨k, _, hk⟩ := ck_none knOk0 h
  rintro p c q q' ⟨t, ht, rfl, rfl, rfl⟩ ⟨t', ht', e1, e2, rfl⟩
  obtain ⟨o, z1, z2⟩ := hk t ht
  obtain ⟨o', z1', z2'⟩ := hk t' ht'
  rw [e1, e2, z1] at z1'
  cases z1'
  exact z2.symm.trans z2'
end G1
/-! The rings of told words; lots whose folding keeps the marks short. Plain Lean. -/
set_option Elab.async false
namespace G1
def lw (c : Nat) : Bool := decide (97 ≤ c ∧ c ≤ 122)
theorem lw_true {c : Nat} : lw c = true ↔ Small c := by
  unfold lw Small
  exact decide_eq_true_iff
def told (h c t : Nat) (m : Wd) : Tie := if lw c = true then ⟨h, c, t, m⟩ else ⟨t, sw c, h, iv m⟩
def ringT : Wd → List Nat → Nat → Nat → List Tie
  | _, [], _, _ => []
  | m, [c], h, _ => [told h c 0 m]
  | m, c :: d :: r, h, k => told h c k m :: ringT [] (d :: r) k (k + 1)
def rgs : List (List Nat) → Nat → Nat → List Tie
  | [], _, _ => []
  | w :: r, i, k => ringT [((i : Int), 1)] w 0 k ++ rgs r (i + 1) (k + (w.length - 1))
def SS (ws : List (List Nat)) : Nat := (ws.map fun w => w.length - 1).sum
/-- a letter's code -/
def Lt (c : Nat) : Prop := Small c ∨ Big c
def LW (w : List Nat) : Prop := ∀ c ∈ w, Lt c
theorem told_stp {us : List Tie} {h c t : Nat} {m : Wd} {f : Nat → Nat} (hs : Sml us) (hc : Lt c) (s : Stp us (f h) c (f t)) : Stp us (f (told h c t m).s) (told h c t m).a (f (told h c t m).e) := by
  unfold told
  split
  · exact s
  · exact s.back hs
theorem told_in {ts : List Tie} {h c t : Nat} {m : Wd} (hc : Lt c) (hm : told h c t m ∈ ts) : Stp ts h c t := by
  unfold told at hm
  split at hm
  · exact ⟨_, mem_hf.mpr ⟨_, hm, .inl rfl⟩, rfl, rfl, rfl⟩
  · rename_i hl
    refine ⟨_, mem_hf.mpr ⟨_, hm, .inr rfl⟩, rfl, ?_, rfl⟩
    show sw (sw c) = c
    rcases hc with z | z
    · exact absurd (lw_true.mpr z) hl
    · exact (sw_big z).2
theorem told_small {h c t : Nat} {m : Wd} (hc : Lt c) : Small (told h c t m).a := by
  unfold told
  split
  · rename_i z
    exact lw_true.mp z
  · rename_i hl
    rcases hc with z | z
    · exact absurd (lw_true.mpr z) hl
    · exact (sw_big z).1
theorem told_ends (h c t : Nat) (m : Wd) : ((told h c t m).s = h ∧ (told h c t m).e = t) ∨ ((told h c t m).s = t ∧ (told h c t m).e = h) := by
  unfold told
  split
  · exact .inl ⟨rfl, rfl⟩
  · exact .inr ⟨rfl, rfl⟩
/-! a ring -/
theorem ring_small : ∀ {w : List Nat} {m : Wd} {h k : Nat}, LW w → Sml (ringT m w h k)
  | [], _, _, _, _ => fun t ht => by cases ht
  | [c], m, h, k, hw => fun t ht => by
    rw [List.mem_singleton.mp (show t ∈ [told h c 0 m] from ht)]
    exact told_small (hw c List.mem_cons_self)
  | c :: d :: r, m, h, k, hw => fun t ht => by
    rcases List.mem_cons.mp (show t ∈ told h c k m :: ringT [] (d :: r) k (k + 1) from ht) with e | ht
    · rw [e]
      exact told_small (hw c List.mem_cons_self)
    · exact ring_small (w := d :: r) (fun c hc => hw c (List.mem_cons_of_mem _ hc)) t ht
theorem ring_ends : ∀ {w : List Nat} {m : Wd} {h k : Nat}, h < k → ∀ t ∈ ringT m w h k, (t.s < k + (w.length - 1) ∧ t.e < k + (w.length - 1)) ∧ ((t.s = h ∨ t.s = 0 ∨ k ≤ t.s) ∧ (t.e = h ∨ t.e = 0 ∨ k ≤ t.e))
  | [], _, _, _, _ => fun t ht => by cases ht
  | [c], m, h, k, hk => fun t ht => by
    rw [List.mem_singleton.mp (show t ∈ [told h c 0 m] from ht)]
    rcases told_ends h c 0 m with ⟨a, b⟩ | ⟨a, b⟩
    · rw [a, b]
      exact ⟨⟨by omega, by omega⟩, .inl rfl, .inr (.inl rfl)⟩
    · rw [a, b]
      exact ⟨⟨by omega, by omega⟩, .inr (.inl rfl), .inl rfl⟩
  | c :: d :: r, m, h, k, hk => fun t ht => by
    have el : (c :: d :: r).length - 1 = (d :: r).length - 1 + 1 := by simp only [List.length_cons]; omega
    rcases List.mem_cons.mp (show t ∈ told h c k m :: ringT [] (d :: r) k (k + 1) from ht) with e | ht
    · rw [e, el]
      rcases told_ends h c k m with ⟨a, b⟩ | ⟨a, b⟩
      · rw [a, b]
        exact ⟨⟨by omega, by omega⟩, .inl rfl, .inr (.inr (Nat.le_refl _))⟩
      · rw [a, b]
        exact ⟨⟨by omega, by omega⟩, .inr (.inr (Nat.le_refl _)), .inl rfl⟩
    · obtain ⟨⟨a, b⟩, c1, c2⟩ := ring_ends (w := d :: r) (m := []) (h := k) (k := k + 1) (by omega) t ht
      rw [el]
      refine ⟨⟨by omega, by omega⟩, ?_, ?_⟩
      · rcases c1 with z | z | z
        · exact .inr (.inr (by omega))
        · exact .inr (.inl z)
        · exact .inr (.inr (by omega))
      · rcases c2 with z | z | z
        · exact .inr (.inr (by omega))
        · exact .inr (.inl z)
        · exact .inr (.inr (by omega))
theorem ring_path : ∀ {w : List Nat} {m : Wd} {h k : Nat} {ts : List Tie}, LW w → w ≠ [] → (∀ t ∈ ringT m w h k, t ∈ ts) → Path ts h w 0
  | [], _, _, _, _, _, h, _ => absurd rfl h
  | [c], m, h, k, ts, hw, _, hm => ⟨0, told_in (hw c List.mem_cons_self) (hm _ (List.mem_singleton.mpr rfl)), rfl⟩
  | c :: d :: r, m, h, k, ts, hw, _, hm => ⟨k, told_in (hw c List.mem_cons_self) (hm _ List.mem_cons_self),
      ring_path (m := []) (k := k + 1) (fun c hc => hw c (List.mem_cons_of_mem _ hc)) (List.cons_ne_nil _ _) fun t ht => hm t (List.mem_cons_of_mem _ ht)⟩
theorem ring_univ {us : List Tie} (hs : Sml us) : ∀ {w : List Nat} {m : Wd} {h k : Nat} {f : Nat → Nat}, LW w → h < k → 0 < k → f 0 = 0 → (w ≠ [] → Path us (f h) w 0) →
    ∃ f' : Nat → Nat, (∀ p, p < k → f' p = f p) ∧ ∀ t ∈ ringT m w h k, Stp us (f' t.s) t.a (f' t.e)
  | [], _, _, _, f, _, _, _, _, _ => ⟨f, fun _ _ => rfl, fun t ht => by cases ht⟩
  | [c], m, h, k, f, hw, _, _, f0, hp => by
    obtain ⟨x, s, e⟩ := hp (List.cons_ne_nil _ _)
    have e' : x = 0 := e
    subst e'
    refine ⟨f, fun _ _ => rfl, fun t ht => ?_⟩
    rw [List.mem_singleton.mp (show t ∈ [told h c 0 m] from ht)]
    exact told_stp hs (hw c List.mem_cons_self) (by rw [f0]; exact s)
  | c :: d :: r, m, h, k, f, hw, hk, k0, f0, hp => by
    obtain ⟨x, s, q⟩ := hp (List.cons_ne_nil _ _)
    obtain ⟨f', h1, h2⟩ := ring_univ hs (w := d :: r) (m := []) (h := k) (k := k + 1) (f := fun p => if p = k then x else f p) (fun c hc => hw c (List.mem_cons_of_mem _ hc)) (by omega) (by omega)
      (by rw [if_neg (by omega)]; exact f0) (fun _ => by rw [if_pos rfl]; exact q)
    refine ⟨f', fun p hp => by rw [h1 p (by omega), if_neg (by omega)], fun t ht => ?_⟩
    rcases List.mem_cons.mp (show t ∈ told h c k m :: ringT [] (d :: r) k (k + 1) from ht) with e | ht
    · rw [e]
      refine told_stp hs (hw c List.mem_cons_self) ?_
      rw [h1 h (by omega), h1 k (by omega), if_pos rfl, if_neg (by omega)]
      exact s
    · exact h2 t ht
theorem ring_len : ∀ {w : List Nat} {m : Wd} {h k : Nat}, (ringT m w h k).length = w.length
  | [], _, _, _ => rfl
  | [_], _, _, _ => rfl
  | c :: d :: r, m, h, k => congrArg Nat.succ (ring_len (w := d :: r) (m := []) (h := k) (k := k + 1))
/-! all rings -/
theorem SS_cons (w : List Nat) (r : List (List Nat)) : SS (w :: r) = (w.length - 1) + SS r := by
  unfold SS
  rw [List.map_cons, List.sum_cons]
theorem rgs_small : ∀ {ws : List (List Nat)} {i k : Nat}, (∀ w ∈ ws, LW w) → Sml (rgs ws i k)
  | [], _, _, _ => fun t ht => by cases ht
  | w :: r, i, k, h => fun t ht => by
    rcases List.mem_append.mp (show t ∈ ringT _ w 0 k ++ rgs r (i + 1) _ from ht) with ht | ht
    · exact ring_small (h w List.mem_cons_self) t ht
    · exact rgs_small (fun w hw => h w (List.mem_cons_of_mem _ hw)) t ht
theorem rgs_ends : ∀ {ws : List (List Nat)} {i k : Nat}, 0 < k → ∀ t ∈ rgs ws i k, t.s < k + SS ws ∧ t.e < k + SS ws
  | [], _, _, _ => fun t ht => by cases ht
  | w :: r, i, k, hk => fun t ht => by
    rw [SS_cons]
    rcases List.mem_append.mp (show t ∈ ringT _ w 0 k ++ rgs r (i + 1) _ from ht) with ht | ht
    · have z := (ring_ends hk t ht).1
      omega
    · have z := rgs_ends (ws := r) (by omega) t ht
      omega
theorem rgs_path : ∀ {ws : List (List Nat)} {i k : Nat} {ts : List Tie}, (∀ w ∈ ws, LW w) → (∀ t ∈ rgs ws i k, t ∈ ts) → ∀ w ∈ ws, Path ts 0 w 0
  | [], _, _, _, _, _ => fun w hw => by cases hw
  | w0 :: r, i, k, ts, h, hm => fun w hw => by
    rcases List.mem_cons.mp hw with e | hw
    · subst e
      by_cases he : w = []
      · subst he
        exact rfl
      · exact ring_path (h w List.mem_cons_self) he fun t ht => hm t (List.mem_append_left _ ht)
    · exact rgs_path (ws := r) (fun w hw => h w (List.mem_cons_of_mem _ hw)) (fun t ht => hm t (List.mem_append_right _ ht)) w hw
theorem rgs_univ {us : List Tie} (hs : Sml us) : ∀ {ws : List (List Nat)} {i k : Nat} {f : Nat → Nat}, (∀ w ∈ ws, LW w) → 0 < k → f 0 = 0 → (∀ w ∈ ws, Path us 0 w 0) →
    ∃ f' : Nat → Nat, (∀ p, p < k → f' p = f p) ∧ ∀ t ∈ rgs ws i k, Stp us (f' t.s) t.a (f' t.e)
  | [], _, _, f, _, _, _, _ => ⟨f, fun _ _ => rfl, fun t ht => by cases ht⟩
  | w :: r, i, k, f, h, hk, f0, hp => by
    obtain ⟨f1, a1, a2⟩ := ring_univ hs (w := w) (m := [((i : Int), 1)]) (h := 0) (k := k) (f := f) (h w List.mem_cons_self) hk hk f0 (fun _ => by rw [f0]; exact hp w List.mem_cons_self)
    obtain ⟨f2, b1, b2⟩ := rgs_univ hs (ws := r) (i := i + 1) (k := k + (w.length - 1)) (f := f1) (fun w hw => h w (List.mem_cons_of_mem _ hw)) (by omega) (by rw [a1 0 hk]; exact f0) fun w hw => hp w (List.mem_cons_of_mem _ hw)
    refine ⟨f2, fun p hp => by rw [b1 p (by omega), a1 p hp], fun t ht => ?_⟩
    rcases List.mem_append.mp (show t ∈ ringT _ w 0 k ++ rgs r (i + 1) _ from ht) with ht | ht
    · have z := (ring_ends hk t ht).1
      rw [b1 t.s z.1, b1 t.e z.2]
      exact a2 t ht
    · exact b2 t ht
theorem rgs_len : ∀ {ws : List (List Nat)} {i k : Nat}, (rgs ws i k).length = (ws.map List.length).sum
  | [], _, _ => rfl
  | w :: r, i, k => by
    show (ringT _ w 0 k ++ rgs r (i + 1) _).length = _
    rw [List.length_append, ring_len, rgs_len, List.map_cons, List.sum_cons]
/-! the potential at the start -/
def Pt0 (P : Nat) (w : Wd) : Prop := w = [] ∨ (P = 0 ∧ ∃ i : Int, w = [(i, 1)])
def L0 (P : Nat) : Nat := if P = 0 then 2 else 0
theorem pt0_dist (P : Nat) (u v : Wd) (hu : Pt0 P u) (hv : Pt0 P v) : rl (iv u ++ v) ≤ L0 P := by
  unfold L0
  by_cases h : P = 0
  · rw [if_pos h]
    refine Nat.le_trans (rl_le _) ?_
    rw [List.length_append, iv_len]
    have z : ∀ x, Pt0 P x → x.length ≤ 1 := fun x hx => by
      rcases hx with e | ⟨_, i, e⟩
      · rw [e]; exact Nat.zero_le _
      · rw [e]; exact Nat.le_refl _
    have z1 := z u hu
    have z2 := z v hv
    omega
  · rw [if_neg h]
    have z : ∀ x, Pt0 P x → x = [] := fun x hx => by
      rcases hx with e | ⟨e, _⟩
      · exact e
      · exact absurd e h
    rw [z u hu, z v hv]
    exact Nat.le_refl _
theorem told_pot {h c t : Nat} {m : Wd} (hm : m = [] ∨ (h = 0 ∧ ∃ i : Int, m = [(i, 1)])) : (∃ u v, Pt0 (told h c t m).s u ∧ Pt0 (told h c t m).e v ∧ Eq2 (told h c t m).m (u ++ iv v)) ∧ Rd (told h c t m).m := by
  have hr : Rd m ∧ Rd (iv m) := by
    rcases hm with e | ⟨_, i, e⟩
    · rw [e]; exact ⟨trivial, trivial⟩
    · rw [e]; exact ⟨trivial, trivial⟩
  unfold told
  split
  · refine ⟨⟨m, [], hm, .inl rfl, ?_⟩, hr.1⟩
    show Eq2 m (m ++ [])
    rw [List.append_nil]
    exact Eq2.refl _
  · exact ⟨⟨[], m, .inl rfl, hm, Eq2.refl _⟩, hr.2⟩
theorem ring_pot : ∀ {w : List Nat} {m : Wd} {h k : Nat}, (m = [] ∨ (h = 0 ∧ ∃ i : Int, m = [(i, 1)])) → ∀ t ∈ ringT m w h k, (∃ u v, Pt0 t.s u ∧ Pt0 t.e v ∧ Eq2 t.m (u ++ iv v)) ∧ Rd t.m
  | [], _, _, _, _ => fun t ht => by cases ht
  | [c], m, h, k, hm => fun t ht => by
    rw [List.mem_singleton.mp (show t ∈ [told h c 0 m] from ht)]
    exact told_pot hm
  | c :: d :: r, m, h, k, hm => fun t ht => by
    rcases List.mem_cons.mp (show t ∈ told h c k m :: ringT [] (d :: r) k (k + 1) from ht) with e | ht
    · rw [e]
      exact told_pot hm
    · exact ring_pot (w := d :: r) (.inl rfl) t ht
theorem rgs_pot : ∀ {ws : List (List Nat)} {i k : Nat}, ∀ t ∈ rgs ws i k, (∃ u v, Pt0 t.s u ∧ Pt0 t.e v ∧ Eq2 t.m (u ++ iv v)) ∧ Rd t.m
  | [], _, _ => fun t ht => by cases ht
  | w :: r, i, k => fun t ht => by
    rcases List.mem_append.mp (show t ∈ ringT _ w 0 k ++ rgs r (i + 1) _ from ht) with ht | ht
    · exact ring_pot (.inr ⟨rfl, _, rfl⟩) t ht
    · exact rgs_pot t ht
theorem pot0 {ts : List Tie} {ws : List (List Nat)} {i k : Nat} (h : ∀ t ∈ ts, t ∈ rgs ws i k) : Pot ts Pt0 L0 :=
  ⟨fun _ => .inl rfl, pt0_dist, fun t ht => (rgs_pot t (h t ht)).1, fun t ht => (rgs_pot t (h t ht)).2⟩
theorem sm_L0 : ∀ n : Nat, sm L0 (n + 1) = 2
  | 0 => rfl
  | n + 1 => by
    show sm L0 (n + 1) + L0 (n + 1) = 2
    rw [sm_L0 n]
    unfold L0
    rw [if_neg (by omega)]
theorem vs_le {ts : List Tie} : ∀ n : Nat, vs ts (n + 1) ≤ n
  | 0 => by
    show sm (occ ts) 0 + occ ts 0 ≤ 0
    have z : occ ts 0 = 0 := by
      unfold occ
      rw [if_neg (fun h => h.1 rfl)]
    rw [z]
    exact Nat.le_refl _
  | n + 1 => by
    show sm (occ ts) (n + 1) + occ ts (n + 1) ≤ n + 1
    have z : occ ts (n + 1) ≤ 1 := by
      unfold occ
      split
      · exact Nat.le_refl _
      · exact Nat.zero_le _
    have h := vs_le (ts := ts) n
    unfold vs at h
    omega
/-! how long the lists of a join may be -/
def MX : Nat := 16700000
structure Lens (ts : List Tie) (one other : Tie) : Prop where
  two : (kpt one other).m.length + (gne one other).m.length ≤ MX
  chg : (chg (kpt one other) (gne one other)).length ≤ MX
  each : ∀ t ∈ ts, (G1.chg (kpt one other) (gne one other)).length + t.m.length ≤ MX ∧ (mvS (kpt one other) (gne one other) t).m.length + (G1.chg (kpt one other) (gne one other)).length ≤ MX ∧ (mv (kpt one other) (gne one other) t).m.length ≤ MX
/-- folding goes on with short lists -/
def Safe (ts : List Tie) : Prop := ∃ G : List Tie → Prop, G ts ∧ ∀ us, G us → ∀ one other, clash us = some (one, other) → Lens us one other ∧ G (jst us one other)
def BB : Nat := 6600000
structure GoodB (n : Nat) (us : List Tie) : Prop where
  lt : ∀ t ∈ us, t.s < n ∧ t.e < n
  pot : ∃ Pt L, Pot us Pt L ∧ sm L n * 2 ^ vs us n ≤ BB
theorem lens_of {us : List Tie} {Pt : Nat → Wd → Prop} {L : Nat → Nat} {one other : Tie} {n : Nat} (p : Pot us Pt L) (lt : ∀ t ∈ us, t.s < n ∧ t.e < n) (c : Clash us one other) (h : 5 * sm L n ≤ MX) : Lens us one other := by
  obtain ⟨a, b, d⟩ := join_lens p c.mk_ c.mg c.hs c.hne lt
  exact ⟨by omega, by omega, fun t ht => by
    obtain ⟨d1, d2, d3⟩ := d t ht
    omega⟩
/-- the potential behind a join -/
theorem pot_jst {us : List Tie} {Pt : Nat → Wd → Prop} {L : Nat → Nat} {one other : Tie} {n : Nat} (p : Pot us Pt L) (lt : ∀ t ∈ us, t.s < n ∧ t.e < n) (c : Clash us one other) :
    ∃ Pt', Pot (jst us one other) Pt' (LJ L (kpt one other).e (gne one other).e (L (kpt one other).s)) ∧ sm (LJ L (kpt one other).e (gne one other).e (L (kpt one other).s)) n = sm L n + L (kpt one other).s ∧ L (kpt one other).s ≤ sm L n := by
  have z := pot_join p c.mk_ c.mg c.hs c.hne
  have bnd : ∀ q ∈ hf us, q.s < n ∧ q.e < n := fun q hq => by
    obtain ⟨t, ht, e⟩ := mem_hf.mp hq
    rcases e with rfl | rfl
    · exact lt q ht
    · exact ⟨(lt t ht).2, (lt t ht).1⟩
  exact ⟨_, z.sub fun t ht => (dd_sub ht).1, sm_LJ (bnd _ c.mk_).2 (bnd _ c.mg).2 c.hne, sm_one (bnd _ c.mk_).1⟩
theorem goodB_step {n : Nat} {us : List Tie} {one other : Tie} (g : GoodB n us) (c : Clash us one other) : Lens us one other ∧ GoodB n (jst us one other) := by
  obtain ⟨Pt, L, p, hb⟩ := g.pot
  have v := vs_join c g.lt
  obtain ⟨Pt', p', e, l⟩ := pot_jst p g.lt c
  have h2 : sm L n * 2 ≤ BB := by
    have e1 : 2 ^ 1 ≤ 2 ^ vs us n := Nat.pow_le_pow_right (by decide) (by omega)
    exact Nat.le_trans (Nat.mul_le_mul_left _ e1) hb
  refine ⟨lens_of p g.lt c (by unfold BB at h2; unfold MX; omega), lt_join g.lt c, _, _, p', ?_⟩
  rw [e]
  have e1 : 2 * 2 ^ vs (jst us one other) n ≤ 2 ^ vs us n := by
    have z : 2 ^ (vs (jst us one other) n + 1) ≤ 2 ^ vs us n := Nat.pow_le_pow_right (by decide) v
    rw [Nat.pow_succ] at z
    omega
  have e2 : (sm L n + L (kpt one other).s) * 2 ^ vs (jst us one other) n ≤ (sm L n * 2) * 2 ^ vs (jst us one other) n := Nat.mul_le_mul_right _ (by omega)
  have e3 : sm L n * (2 * 2 ^ vs (jst us one other) n) ≤ sm L n * 2 ^ vs us n := Nat.mul_le_mul_left _ e1
  rw [Nat.mul_assoc] at e2
  omega
theorem goodB_safe {n : Nat} {us : List Tie} (g : GoodB n us) : Safe us := ⟨GoodB n, g, fun _ g _ _ h => goodB_step g (clash_some h)⟩
def init (ws : List (List Nat)) : List Tie := dd (rgs ws 0 1) no
theorem init_lt (ws : List (List Nat)) : ∀ t ∈ init ws, t.s < SS ws + 1 ∧ t.e < SS ws + 1 := fun t ht => by
  have z := rgs_ends (ws := ws) (i := 0) (k := 1) (by decide) t (dd_sub ht).1
  omega
theorem safe21 {ws : List (List Nat)} (h : SS ws ≤ 21) : Safe (init ws) := by
  refine goodB_safe (n := SS ws + 1) ⟨init_lt ws, Pt0, L0, pot0 fun t ht => (dd_sub ht).1, ?_⟩
  rw [sm_L0]
  have z : 2 ^ vs (init ws) (SS ws + 1) ≤ 2 ^ 21 := Nat.pow_le_pow_right (by decide) (Nat.le_trans (vs_le _) h)
  unfold BB
  omega
/-! one more, where no told word is a letter alone -/
structure St0 (n : Nat) (us : List Tie) : Prop where
  lt : ∀ t ∈ us, t.s < n ∧ t.e < n
  n0 : 0 < n
  v : vs us n ≤ 22
  noloop : ∀ t ∈ us, ¬ (t.s = 0 ∧ t.e = 0)
  pot : Pot us Pt0 L0
structure St1 (n : Nat) (us : List Tie) : Prop where
  lt : ∀ t ∈ us, t.s < n ∧ t.e < n
  v : vs us n ≤ 21
  pot : ∃ Pt L, Pot us Pt L ∧ (∀ P, L P ≤ 2) ∧ sm L n ≤ 4
theorem st1_step {n : Nat} {us : List Tie} {one other : Tie} (g : St1 n us) (c : Clash us one other) : Lens us one other ∧ GoodB n (jst us one other) := by
  obtain ⟨Pt, L, p, h2, h4⟩ := g.pot
  have v := vs_join c g.lt
  obtain ⟨Pt', p', e, l⟩ := pot_jst p g.lt c
  refine ⟨lens_of p g.lt c (by unfold MX; omega), lt_join g.lt c, _, _, p', ?_⟩
  rw [e]
  have z : 2 ^ vs (jst us one other) n ≤ 2 ^ 20 := Nat.pow_le_pow_right (by decide) (by have := g.v; omega)
  have z2 := h2 (kpt one other).s
  have z3 : (sm L n + L (kpt one other).s) * 2 ^ vs (jst us one other) n ≤ 6 * 2 ^ 20 := Nat.mul_le_mul (by omega) z
  unfold BB
  omega
theorem st0_step {n : Nat} {us : List Tie} {one other : Tie} (g : St0 n us) (c : Clash us one other) : Lens us one other ∧ (GoodB n (jst us one other) ∨ St1 n (jst us one other)) := by
  have v := vs_join c g.lt
  have gv := g.v
  have n0 := g.n0
  obtain ⟨m, rfl⟩ : ∃ m, n = m + 1 := ⟨n - 1, by omega⟩
  obtain ⟨Pt', p', e, l⟩ := pot_jst g.pot g.lt c
  rw [sm_L0] at e
  refine ⟨lens_of g.pot g.lt c (by rw [sm_L0]; decide), ?_⟩
  by_cases hs : (kpt one other).s = 0
  · right
    refine ⟨lt_join g.lt c, by omega, _, _, p', fun P => ?_, ?_⟩
    · have k0 : (kpt one other).e ≠ 0 := fun z => by
        obtain ⟨t, ht, ee⟩ := mem_hf.mp c.mk_
        rcases ee with ee | ee
        · exact g.noloop t ht ⟨by rw [← ee]; exact hs, by rw [← ee]; exact z⟩
        · exact g.noloop t ht ⟨by rw [ee] at z; exact z, by rw [ee] at hs; exact hs⟩
      have g0 := c.gone0
      unfold LJ up L0
      rw [if_neg k0, if_neg g0, if_pos hs]
      split
      · omega
      · split
        · omega
        · split
          · omega
          · omega
    · rw [e]
      unfold L0
      split <;> omega
  · left
    refine ⟨lt_join g.lt c, _, _, p', ?_⟩
    rw [e]
    have z : 2 ^ vs (jst us one other) (m + 1) ≤ 2 ^ 21 := Nat.pow_le_pow_right (by decide) (by omega)
    unfold L0
    rw [if_neg hs]
    unfold BB
    omega
theorem rgs_noloop : ∀ {ws : List (List Nat)} {i k : Nat}, 0 < k → (∀ w ∈ ws, w.length ≠ 1) → ∀ t ∈ rgs ws i k, ¬ (t.s = 0 ∧ t.e = 0)
  | [], _, _, _, _ => fun t ht => by cases ht
  | w :: r, i, k, hk, h => fun t ht => by
    rcases List.mem_append.mp (show t ∈ ringT _ w 0 k ++ rgs r (i + 1) _ from ht) with ht | ht
    · have key : ∀ {w : List Nat} {m : Wd} {h k : Nat}, h < k → (h = 0 → w.length ≠ 1) → ∀ t ∈ ringT m w h k, ¬ (t.s = 0 ∧ t.e = 0) := by
        intro w
        induction w with
        | nil => intro m h k _ _ t ht; cases ht
        | cons c r ih =>
          intro m h k hk hl t ht
          cases r with
          | nil =>
            rw [List.mem_singleton.mp (show t ∈ [told h c 0 m] from ht)]
            have h0 : h ≠ 0 := fun z => hl z rfl
            rcases told_ends h c 0 m with ⟨a, b⟩ | ⟨a, b⟩
            · rw [a]; exact fun z => h0 z.1
            · rw [b]; exact fun z => h0 z.2
          | cons d r =>
            rcases List.mem_cons.mp (show t ∈ told h c k m :: ringT [] (d :: r) k (k + 1) from ht) with e | ht
            · rw [e]
              rcases told_ends h c k m with ⟨a, b⟩ | ⟨a, b⟩
              · rw [b]; exact fun z => by omega
              · rw [a]; exact fun z => by omega
            · exact ih (m := []) (h := k) (k := k + 1) (by omega) (fun z => by omega) t ht
      exact key hk (fun _ => h w List.mem_cons_self) t ht
    · exact rgs_noloop (ws := r) (by omega) (fun w hw => h w (List.mem_cons_of_mem _ hw)) t ht
theorem safe22 {ws : List (List Nat)} (h : SS ws ≤ 22) (h1 : ∀ w ∈ ws, w.length ≠ 1) : Safe (init ws) := by
  refine ⟨fun us => GoodB (SS ws + 1) us ∨ St1 (SS ws + 1) us ∨ St0 (SS ws + 1) us, .inr (.inr ⟨init_lt ws, by omega, Nat.le_trans (vs_le _) h, fun t ht => ?_, pot0 fun t ht => (dd_sub ht).1⟩), fun us hg one other hc => ?_⟩
  · exact rgs_noloop (by decide) h1 t (dd_sub ht).1
  · have c := clash_some hc
    rcases hg with g | g | g
    · obtain ⟨a, b⟩ := goodB_step g c
      exact ⟨a, .inl b⟩
    · obtain ⟨a, b⟩ := st1_step g c
      exact ⟨a, .inl b⟩
    · obtain ⟨a, b⟩ := st0_step g c
      exact ⟨a, b.elim .inl fun z => .inr (.inl z)⟩
end G1
/-! The lot whose last word goes along an earlier one. Plain Lean. -/
set_option Elab.async false
set_option linter.unusedVariables false
namespace G1
/-- a reduced word -/
def RW : List Nat → Prop
  | [] => True
  | [_] => True
  | a :: b :: r => b ≠ sw a ∧ RW (b :: r)
theorem rd_uniq {a b : Wd} (ha : Rd a) (hb : Rd b) (h : Eq2 a b) : a = b := by
  have z := h [] trivial
  have e1 : jn [] a = a := rd_of ha
  have e2 : jn [] b = b := rd_of hb
  rw [e1, e2] at z
  exact z
theorem jn_iv {c m : Wd} (hc : Rd c) (hm : Rd m) : jn (iv m) (iv c) = iv (jn c m) := by
  refine rd_uniq (jn_rd (iv_rd hm)) (iv_rd (jn_rd hc)) ?_
  have z := eq2_iv (eq2_jn c m)
  rw [iv_app] at z
  exact (eq2_jn _ _).trans z.symm
theorem rgs_app : ∀ {a b : List (List Nat)} {i k : Nat}, rgs (a ++ b) i k = rgs a i k ++ rgs b (i + a.length) (k + SS a)
  | [], b, i, k => by
    show rgs b i k = rgs b (i + 0) (k + 0)
    rfl
  | w :: a, b, i, k => by
    show ringT _ w 0 k ++ rgs (a ++ b) (i + 1) _ = (ringT _ w 0 k ++ rgs a (i + 1) _) ++ _
    rw [rgs_app, List.append_assoc, SS_cons, List.length_cons]
    have e1 : i + 1 + a.length = i + (a.length + 1) := by omega
    have e2 : k + (w.length - 1) + SS a = k + (w.length - 1 + SS a) := by omega
    rw [e1, e2]
theorem dd_step (t : Tie) (r : List Tie) (f : Nat × Nat × Nat → Bool) : dd (t :: r) f = if f (ky t) = true then dd r f else t :: dd r (fun x => f x || decide (x = ky t)) := rfl
theorem dd_app : ∀ {a b : List Tie} {f : Nat × Nat × Nat → Bool}, dd (a ++ b) f = dd a f ++ dd b (fun x => f x || decide (x ∈ a.map ky))
  | [], b, f => by
    show dd b f = dd b _
    have e : (fun x => f x || decide (x ∈ ([] : List Tie).map ky)) = f := funext fun x => by simp
    rw [e]
  | t :: a, b, f => by
    rw [List.cons_append, dd_step, dd_step]
    by_cases hf : f (ky t) = true
    · rw [if_pos hf, if_pos hf, dd_app]
      have e : (fun x => f x || decide (x ∈ a.map ky)) = fun x => f x || decide (x ∈ (t :: a).map ky) := funext fun x => by
        by_cases hx : x = ky t
        · subst hx; rw [hf]; rfl
        · simp [hx]
      rw [e]
    · rw [if_neg hf, if_neg hf, dd_app]
      have e : (fun x => (f x || decide (x = ky t)) || decide (x ∈ a.map ky)) = fun x => f x || decide (x ∈ (t :: a).map ky) := funext fun x => by
        by_cases hx : x = ky t
        · subst hx; simp
        · simp [hx]
      rw [e, List.cons_append]
theorem dd_id : ∀ {b : List Tie} {f : Nat × Nat × Nat → Bool}, (b.map ky).Nodup → (∀ t ∈ b, f (ky t) = false) → dd b f = b
  | [], _, _, _ => rfl
  | t :: b, f, h, hf => by
    rw [List.map_cons, List.nodup_cons] at h
    unfold dd
    have e0 : f (ky t) = false := hf t List.mem_cons_self
    rw [if_neg (by rw [e0]; exact Bool.false_ne_true), dd_id h.2 fun t' ht' => ?_]
    show (f (ky t') || decide (ky t' = ky t)) = false
    rw [hf t' (List.mem_cons_of_mem _ ht'), Bool.false_or]
    exact decide_eq_false fun e => h.1 (e ▸ List.mem_map.mpr ⟨t', ht', rfl⟩)
/-- ties of a ring of two letters and more: each has a new place -/
theorem ring_new : ∀ {r : List Nat} {m : Wd} {x y : Nat}, 2 ≤ r.length → ∀ t ∈ ringT m r x y, y ≤ t.s ∨ y ≤ t.e
  | c :: d :: r, m, x, y, _ => fun t ht => by
    rcases List.mem_cons.mp (show t ∈ told x c y m :: ringT [] (d :: r) y (y + 1) from ht) with e | ht
    · rw [e]
      rcases told_ends x c y m with ⟨a, b⟩ | ⟨a, b⟩
      · rw [b]; exact .inr (Nat.le_refl _)
      · rw [a]; exact .inl (Nat.le_refl _)
    · cases r with
      | nil =>
        rw [List.mem_singleton.mp (show t ∈ [told y d 0 []] from ht)]
        rcases told_ends y d 0 [] with ⟨a, b⟩ | ⟨a, b⟩
        · rw [a]; exact .inl (Nat.le_refl _)
        · rw [b]; exact .inr (Nat.le_refl _)
      | cons e r =>
        have z := ring_new (r := d :: e :: r) (m := []) (x := y) (y := y + 1) (by simp) t ht
        omega
theorem ring_keys : ∀ {r : List Nat} {m : Wd} {x y : Nat}, x < y → LW r → RW r → ((ringT m r x y).map ky).Nodup
  | [], _, _, _, _, _, _ => List.nodup_nil
  | [c], m, x, y, _, _, _ => by
    show ([told x c 0 m].map ky).Nodup
    rw [List.map_cons, List.map_nil]
    exact List.nodup_cons.mpr ⟨fun h => (by cases h), List.nodup_nil⟩
  | c :: d :: r, m, x, y, hx, hw, hr => by
    show ((told x c y m :: ringT [] (d :: r) y (y + 1)).map ky).Nodup
    rw [List.map_cons, List.nodup_cons]
    refine ⟨fun hm => ?_, ring_keys (r := d :: r) (by omega) (fun c hc => hw c (List.mem_cons_of_mem _ hc)) hr.2⟩
    obtain ⟨t, ht, e⟩ := List.mem_map.mp hm
    have e1 : t.s = (told x c y m).s := congrArg (·.1) e
    have e2 : t.a = (told x c y m).a := congrArg (·.2.1) e
    have e3 : t.e = (told x c y m).e := congrArg (·.2.2) e
    cases r with
    | cons d' r =>
      have z := ring_new (r := d :: d' :: r) (m := []) (x := y) (y := y + 1) (by simp) t ht
      rw [e1, e3] at z
      rcases told_ends x c y m with ⟨a, b⟩ | ⟨a, b⟩
      · rw [a, b] at z; omega
      · rw [a, b] at z; omega
    | nil =>
      rw [List.mem_singleton.mp (show t ∈ [told y d 0 []] from ht)] at e1 e2 e3
      have hc := hw c List.mem_cons_self
      have hd := hw d (List.mem_cons_of_mem _ List.mem_cons_self)
      unfold told at e1 e2 e3
      by_cases lc : lw c = true
      · by_cases ld : lw d = true
        · rw [if_pos lc, if_pos ld] at e1 e3
          have z1 : y = x := e1
          omega
        · rw [if_pos lc, if_neg ld] at e2
          have z : sw d = c := e2
          refine hr.1 ?_
          rw [← z]
          rcases hd with q | q
          · exact absurd (lw_true.mpr q) ld
          · exact (sw_big q).2.symm
      · by_cases ld : lw d = true
        · rw [if_neg lc, if_pos ld] at e2
          have z : d = sw c := e2
          exact hr.1 z
        · rw [if_neg lc, if_neg ld] at e1 e3
          have z1 : 0 = y := e1
          omega
theorem ck_step (q : Tie) (r : List Tie) (k : Kn) : ck (q :: r) k = (match k q.s q.a with
    | some o => if o.e = q.e then ck r (knPut k q) else some (o, q)
    | none => ck r (knPut k q)) := rfl
theorem ck_app : ∀ {a b : List Tie} {k : Kn}, ck (a ++ b) k = match ck a k with | some z => some z | none => ck b (a.foldl knPut k)
  | [], b, k => rfl
  | q :: a, b, k => by
    rw [List.cons_append, ck_step, ck_step, List.foldl_cons]
    have ih := ck_app (a := a) (b := b) (k := knPut k q)
    cases e : k q.s q.a with
    | none => exact ih
    | some o =>
      by_cases h : o.e = q.e
      · simp only [h, if_true]
        exact ih
      · simp only [h, if_false]
theorem ck_end : ∀ {r ps : List Tie} {k : Kn}, KnOk ps k → ck r k = none → KnOk (ps ++ r) (r.foldl knPut k)
  | [], ps, k, hk, _ => by rw [List.append_nil]; exact hk
  | q0 :: r, ps, k, hk, h => by
    have next : ∀ (_ : ∀ o, k q0.s q0.a = some o → o.e = q0.e), ck r (knPut k q0) = none → KnOk (ps ++ q0 :: r) ((q0 :: r).foldl knPut k) := fun hq e => by
      have z := ck_end (knOk_put hk hq) e
      rw [List.append_assoc] at z
      exact z
    unfold ck at h
    split at h
    · rename_i o' e
      split at h
      · rename_i hh
        exact next (fun o z => by rw [e] at z; cases z; exact hh) h
      · cases h
    · rename_i e
      exact next (fun o z => by rw [e] at z; cases z) h
/-! the state: A, the rest of the last ring -/
structure Tail (k : Nat) (v : List Nat) (A : List Tie) (r : List Nat) (x y : Nat) (m : Wd) (l : Nat) : Prop where
  sml : Sml A
  lt : ∀ t ∈ A, t.s < k ∧ t.e < k
  nd : (A.map ky).Nodup
  hx : x < k
  hy : k ≤ y
  lw_ : LW r
  rw_ : RW r
  len : l + r.length ≤ 8
  rm : Rd m
  way : Path A x (r ++ v) 0
  pot : ∃ Pt L, Pot A Pt L ∧ sm L k * 2 ^ vs A k ≤ 2 ^ 18 ∧ ∃ ρ, Pt x ρ ∧ rl (iv ρ ++ m) ≤ 1 + l * sm L k
theorem mv_id {k g t : Tie} (h1 : t.s ≠ g.e) (h2 : t.e ≠ g.e) : mv k g t = t := by
  unfold mv mvE mvS
  rw [if_neg h2, if_neg h1]
/-- the first tie of the rest, moved -/
theorem mv_told {k g : Tie} {x c y : Nat} {m : Wd} (hy : y ≠ g.e) (hc : Rd (chg k g)) (hm : Rd m) : mv k g (told x c y m) = told (rn k.e g.e x) c y (if x = g.e then jn (chg k g) m else m) := by
  unfold told
  by_cases lc : lw c = true
  · rw [if_pos lc, if_pos lc]
    unfold mv mvE mvS rn
    rw [if_neg (show ¬ (⟨x, c, y, m⟩ : Tie).e = g.e from hy)]
    by_cases hx : x = g.e
    · rw [if_pos (show (⟨x, c, y, m⟩ : Tie).s = g.e from hx), if_pos hx, if_pos hx]
    · rw [if_neg (show ¬ (⟨x, c, y, m⟩ : Tie).s = g.e from hx), if_neg hx, if_neg hx]
  · rw [if_neg lc, if_neg lc]
    unfold mv mvE mvS rn
    rw [if_neg (show ¬ (⟨y, sw c, x, iv m⟩ : Tie).s = g.e from hy)]
    by_cases hx : x = g.e
    · rw [if_pos (show (⟨y, sw c, x, iv m⟩ : Tie).e = g.e from hx), if_pos hx, if_pos hx]
      show (⟨y, sw c, k.e, jn (iv m) (iv (chg k g))⟩ : Tie) = ⟨y, sw c, k.e, iv (jn (chg k g) m)⟩
      rw [jn_iv hc hm]
    · rw [if_neg (show ¬ (⟨y, sw c, x, iv m⟩ : Tie).e = g.e from hx), if_neg hx, if_neg hx]
theorem nd_keys {A R : List Tie} {k y : Nat} (ha : ∀ t ∈ A, t.s < k ∧ t.e < k) (hk : k ≤ y) (hr : ∀ t ∈ R, y ≤ t.s ∨ y ≤ t.e) : ∀ t ∈ R, decide (ky t ∈ A.map ky) = false := fun t ht => decide_eq_false fun hm => by
  obtain ⟨t', ht', e⟩ := List.mem_map.mp hm
  have e1 : t'.s = t.s := congrArg (·.1) e
  have e3 : t'.e = t.e := congrArg (·.2.2) e
  have z1 := ha t' ht'
  have z2 := hr t ht
  omega
theorem vs_congr {A B : List Tie} {n : Nat} (h : ∀ p, occ A p ≤ occ B p) : vs A n ≤ vs B n := sm_mono fun i _ => h i
theorem told_rd {h c t : Nat} {m : Wd} (hm : Rd m) : Rd (told h c t m).m := by
  unfold told
  split
  · exact hm
  · exact iv_rd hm
theorem told_ml (h c t : Nat) (m : Wd) : (told h c t m).m.length = m.length := by
  unfold told
  split
  · rfl
  · exact iv_len m
/-- one tie is left of the rest: all is as ever -/
theorem tail_one {k : Nat} {v : List Nat} {A us : List Tie} {c x y : Nat} {m : Wd} {l : Nat} (T : Tail k v A [c] x y m l) (hu : ∀ t ∈ us, t ∈ A ∨ t = told x c 0 m) (k17 : k ≤ 18) : GoodB k us := by
  obtain ⟨Pt, L, p, hb, ρ, hρ, hω⟩ := T.pot
  have k0 : 0 < k := by have := T.hx; omega
  have kl := T.hx
  refine ⟨fun t ht => ?_, ?_⟩
  · rcases hu t ht with h | h
    · exact T.lt t h
    · rw [h]
      rcases told_ends x c 0 m with ⟨a, b⟩ | ⟨a, b⟩
      · rw [a, b]; exact ⟨T.hx, k0⟩
      · rw [a, b]; exact ⟨k0, T.hx⟩
  refine ⟨fun P w => Pt P w ∨ (P = x ∧ w = m), up L x (L x + (1 + l * sm L k)), ⟨fun P => .inl (p.root P), fun P u w ju jw => ?_, fun t ht => ?_, fun t ht => ?_⟩, ?_⟩
  · have near : ∀ w, Pt x w → rl (iv w ++ m) ≤ L x + (1 + l * sm L k) := fun w hw => by
      have e : Eq2 (iv w ++ m) ((iv w ++ ρ) ++ (iv ρ ++ m)) := by
        have z := Eq2.app (Eq2.refl (iv w)) (Eq2.app (eq2_inv ρ).symm (Eq2.refl m))
        simp only [List.append_assoc, List.nil_append] at z ⊢
        exact z
      rw [rl_eq e]
      have a1 := rl_app (iv w ++ ρ) (iv ρ ++ m)
      have a2 := p.dist _ _ _ hw hρ
      omega
    by_cases hP : P = x
    · subst hP
      rw [up_at]
      rcases ju with ju | ⟨_, rfl⟩
      · rcases jw with jw | ⟨_, rfl⟩
        · have z := p.dist _ _ _ ju jw
          omega
        · exact near _ ju
      · rcases jw with jw | ⟨_, rfl⟩
        · have e : iv u ++ w = iv (iv w ++ u) := by rw [iv_app, iv_iv]
          rw [e, rl_iv]
          exact near _ jw
        · rw [rl_eq (eq2_inv' w)]
          exact Nat.zero_le _
    · rw [up_ne hP]
      have hu' : Pt P u := ju.elim (fun z => z) fun z => absurd z.1 hP
      have hw' : Pt P w := jw.elim (fun z => z) fun z => absurd z.1 hP
      exact p.dist _ _ _ hu' hw'
  · rcases hu t ht with h | h
    · obtain ⟨u, w, a, b, e⟩ := p.tie t h
      exact ⟨u, w, .inl a, .inl b, e⟩
    · rw [h]
      unfold told
      split
      · refine ⟨m, [], .inr ⟨rfl, rfl⟩, .inl (p.root _), ?_⟩
        show Eq2 m (m ++ [])
        rw [List.append_nil]
        exact Eq2.refl _
      · exact ⟨[], m, .inl (p.root _), .inr ⟨rfl, rfl⟩, Eq2.refl _⟩
  · rcases hu t ht with h | h
    · exact p.red t h
    · rw [h]
      exact told_rd T.rm
  · have e1 := sm_up (f := L) (x := L x + (1 + l * sm L k)) T.hx
    have e2 : sm (up L x (L x + (1 + l * sm L k))) k = sm L k + (1 + l * sm L k) := by omega
    rw [e2]
    have hl : l ≤ 7 := by
      have z := T.len
      simp only [List.length_cons, List.length_nil] at z
      omega
    have e3 : l * sm L k ≤ 7 * sm L k := Nat.mul_le_mul_right _ hl
    have v1 : vs us k ≤ vs A k := vs_congr fun q => by
      unfold occ
      by_cases hq : q ≠ 0 ∧ ∃ t ∈ us, t.s = q ∨ t.e = q
      · rw [if_pos hq]
        obtain ⟨q0, t, ht, e⟩ := hq
        rw [if_pos]
        · exact Nat.le_refl _
        · refine ⟨q0, ?_⟩
          rcases hu t ht with h | h
          · exact ⟨t, h, e⟩
          · rw [h] at e
            have ex : q = x := by
              rcases told_ends x c 0 m with ⟨a, b⟩ | ⟨a, b⟩
              · rw [a, b] at e; omega
              · rw [a, b] at e; omega
            obtain ⟨z, ⟨t', ht', s1, _, _⟩, _⟩ := (show Path A x (c :: ([] ++ v)) 0 from T.way)
            obtain ⟨t'', h2, h3, _⟩ := occ_hf ht'
            exact ⟨t'', h2, by rw [ex, ← s1]; exact h3⟩
      · rw [if_neg hq]
        exact Nat.zero_le _
    have v2 : vs A k ≤ 17 := by
      obtain ⟨n, rfl⟩ : ∃ n, k = n + 1 := ⟨k - 1, by omega⟩
      exact Nat.le_trans (vs_le n) (by omega)
    have e4 : 2 ^ vs us k ≤ 2 ^ vs A k := Nat.pow_le_pow_right (by decide) v1
    have e5 : 2 ^ vs A k ≤ 2 ^ 17 := Nat.pow_le_pow_right (by decide) v2
    have e6 : (sm L k + (1 + l * sm L k)) * 2 ^ vs us k ≤ (8 * sm L k + 1) * 2 ^ vs A k := Nat.mul_le_mul (by omega) e4
    have e7 : (8 * sm L k + 1) * 2 ^ vs A k = 8 * (sm L k * 2 ^ vs A k) + 2 ^ vs A k := by rw [Nat.add_mul, Nat.mul_assoc, Nat.one_mul]
    unfold BB
    omega
def TailG (k : Nat) (v : List Nat) (us : List Tie) : Prop := ∃ A r x y m l, Tail k v A r x y m l ∧ 2 ≤ r.length ∧ us = A ++ ringT m r x y
end G1
/-! The steps of that lot's folding. Plain Lean. -/
set_option Elab.async false
set_option linter.unusedVariables false
namespace G1
theorem hf_app (a b : List Tie) : hf (a ++ b) = hf a ++ hf b := by
  unfold hf
  rw [List.flatMap_append]
theorem lens_gen {us : List Tie} {one other : Tie} {C M : Nat} (h2 : (kpt one other).m.length + (gne one other).m.length ≤ MX) (hc : (chg (kpt one other) (gne one other)).length ≤ C) (hm : ∀ t ∈ us, t.m.length ≤ M) (h : 3 * C + M ≤ MX) : Lens us one other := by
  refine ⟨h2, by omega, fun t ht => ?_⟩
  have a := hm t ht
  have b : (mvS (kpt one other) (gne one other) t).m.length ≤ C + M := by
    unfold mvS
    split
    · show (jn _ t.m).length ≤ _
      have z := jn_len t.m (chg (kpt one other) (gne one other))
      omega
    · omega
  have d : (mv (kpt one other) (gne one other) t).m.length ≤ C + M + C := by
    unfold mv mvE
    split
    · show (jn _ (iv _)).length ≤ _
      have z := jn_len (iv (chg (kpt one other) (gne one other))) (mvS (kpt one other) (gne one other) t).m
      rw [iv_len] at z
      omega
    · omega
  exact ⟨by omega, by omega, by omega⟩
theorem ring_m0 : ∀ {r : List Nat} {x y : Nat}, ∀ t ∈ ringT [] r x y, t.m = []
  | [], _, _ => fun t ht => by cases ht
  | [c], x, y => fun t ht => by
    rw [List.mem_singleton.mp (show t ∈ [told x c 0 []] from ht)]
    unfold told
    split <;> rfl
  | c :: d :: r, x, y => fun t ht => by
    rcases List.mem_cons.mp (show t ∈ told x c y [] :: ringT [] (d :: r) y (y + 1) from ht) with e | ht
    · rw [e]
      unfold told
      split <;> rfl
    · exact ring_m0 (r := d :: r) t ht
/-- ties whose ends are not the gone place -/
theorem map_mv_id {k g : Tie} {R : List Tie} (h : ∀ t ∈ R, t.s ≠ g.e ∧ t.e ≠ g.e) : R.map (mv k g) = R := by
  have e : R.map (mv k g) = R.map id := List.map_congr_left fun t ht => mv_id (h t ht).1 (h t ht).2
  rw [e, List.map_id]
theorem ring_off {r : List Nat} {m : Wd} {x y G : Nat} (hx : x < y) (h1 : x ≠ G) (h2 : G < y) (h0 : G ≠ 0) : ∀ t ∈ ringT m r x y, t.s ≠ G ∧ t.e ≠ G := fun t ht => by
  have z := (ring_ends hx t ht).2
  omega
theorem mv_told2 {k g : Tie} {d z : Nat} (hz : z ≠ g.e) (hc : Rd (chg k g)) : mv k g (told g.e d z []) = told k.e d z (chg k g) := by
  unfold told
  by_cases lc : lw d = true
  · rw [if_pos lc, if_pos lc]
    unfold mv mvE mvS
    rw [if_neg (show ¬ (⟨g.e, d, z, []⟩ : Tie).e = g.e from hz), if_pos (show (⟨g.e, d, z, []⟩ : Tie).s = g.e from rfl)]
    rfl
  · rw [if_neg lc, if_neg lc]
    unfold mv mvE mvS
    rw [if_pos (show (⟨z, sw d, g.e, iv []⟩ : Tie).e = g.e from rfl), if_neg (show ¬ (⟨z, sw d, g.e, iv []⟩ : Tie).s = g.e from hz)]
    show (⟨z, sw d, k.e, rd (iv (chg k g))⟩ : Tie) = ⟨z, sw d, k.e, iv (chg k g)⟩
    rw [rd_of (iv_rd hc)]
section
variable {k : Nat} {v : List Nat} {A : List Tie} {r : List Nat} {x y : Nat} {m : Wd} {l : Nat}
theorem Tail.mlen (T : Tail k v A r x y m l) {Pt : Nat → Wd → Prop} {L : Nat → Nat} {ρ : Wd} (p : Pot A Pt L) (hρ : Pt x ρ) (hω : rl (iv ρ ++ m) ≤ 1 + l * sm L k) : m.length ≤ 9 * sm L k + 1 := by
  rw [← rl_rd T.rm]
  have e : Eq2 m (ρ ++ (iv ρ ++ m)) := by
    have z := Eq2.app (eq2_inv ρ).symm (Eq2.refl m)
    simp only [List.append_assoc, List.nil_append] at z
    exact z
  rw [rl_eq e]
  have a1 := rl_app ρ (iv ρ ++ m)
  have a2 := p.one hρ
  have a3 := sm_one (f := L) T.hx
  have a4 : l ≤ 8 := by have := T.len; omega
  have a5 : l * sm L k ≤ 8 * sm L k := Nat.mul_le_mul_right _ a4
  omega
/-- a clash within A -/
theorem tail_in (T : Tail k v A r x y m l) (h2 : 2 ≤ r.length) {one other : Tie} (c : Clash A one other) : Lens (A ++ ringT m r x y) one other ∧ TailG k v (jst (A ++ ringT m r x y) one other) := by
  obtain ⟨Pt, L, p, hb, ρ, hρ, hω⟩ := T.pot
  have ml := T.mlen p hρ hω
  have v0 : 1 ≤ 2 ^ vs A k := Nat.one_le_two_pow
  have tb : sm L k ≤ 2 ^ 18 := Nat.le_trans (by have z := Nat.mul_le_mul_left (sm L k) v0; omega) hb
  obtain ⟨j1, j2, j3⟩ := join_lens p c.mk_ c.mg c.hs c.hne T.lt
  have bnd : ∀ q ∈ hf A, q.s < k ∧ q.e < k := fun q hq => by
    obtain ⟨t, ht, e⟩ := mem_hf.mp hq
    rcases e with rfl | rfl
    · exact T.lt q ht
    · exact ⟨(T.lt t ht).2, (T.lt t ht).1⟩
  have hG := (bnd _ c.mg).2
  have hK := (bnd _ c.mk_).2
  have G0 := c.gone0
  have ky_ := T.hy
  have kx := T.hx
  constructor
  · refine lens_gen (C := 2 * sm L k) (M := 9 * sm L k + 1) (by unfold MX; omega) j2 (fun t ht => ?_) (by unfold MX; omega)
    rcases List.mem_append.mp ht with ht | ht
    · have z := p.len (mem_hf.mpr ⟨t, ht, .inl rfl⟩)
      have z1 := sm_one (f := L) (T.lt t ht).1
      have z2 := sm_one (f := L) (T.lt t ht).2
      omega
    · cases r with
      | nil => cases ht
      | cons c0 r =>
        cases r with
        | nil => simp at h2
        | cons d r =>
          rcases List.mem_cons.mp (show t ∈ told x c0 y m :: ringT [] (d :: r) y (y + 1) from ht) with e | ht
          · rw [e, told_ml]
            exact ml
          · rw [ring_m0 t ht]
            exact Nat.zero_le _
  · generalize hk : kpt one other = K at *
    generalize hg : gne one other = G at *
    have hcr : Rd (chg K G) := jn_rd (iv_rd (p.half (hk ▸ c.mk_)).2)
    -- the rest, moved
    have eR : (ringT m r x y).map (mv K G) = ringT (if x = G.e then jn (chg K G) m else m) r (rn K.e G.e x) y := by
      cases r with
      | nil => rfl
      | cons c0 r =>
        cases r with
        | nil => simp at h2
        | cons d r =>
          show (told x c0 y m :: ringT [] (d :: r) y (y + 1)).map (mv K G) = told _ c0 y _ :: ringT [] (d :: r) y (y + 1)
          rw [List.map_cons, mv_told (by omega) hcr T.rm, map_mv_id (ring_off (by omega) (by omega) (by omega) G0)]
    have rx : rn K.e G.e x < k := by
      unfold rn
      split
      · exact hK
      · exact kx
    have ltA : ∀ t ∈ A.map (mv K G), t.s < k ∧ t.e < k := fun t ht => by
      obtain ⟨t0, h0, rfl⟩ := List.mem_map.mp ht
      have z : ∀ q, q < k → rn K.e G.e q < k := fun q hq => by
        unfold rn
        split
        · exact hK
        · exact hq
      rw [mv_s, mv_e]
      exact ⟨z _ (T.lt t0 h0).1, z _ (T.lt t0 h0).2⟩
    have eJ : jst (A ++ ringT m r x y) one other = jst A one other ++ ringT (if x = G.e then jn (chg K G) m else m) r (rn K.e G.e x) y := by
      unfold jst
      rw [hk, hg, List.map_append, eR, dd_app]
      rw [dd_id (b := ringT _ r _ y) (ring_keys (by omega) T.lw_ T.rw_) fun t ht => ?_]
      show (no (ky t) || _) = false
      rw [show no (ky t) = false from rfl, Bool.false_or]
      exact nd_keys ltA ky_ (ring_new h2) t ht
    have rm' : Rd (if x = G.e then jn (chg K G) m else m) := by
      split
      · exact jn_rd hcr
      · exact T.rm
    have ltJ := lt_join T.lt c
    refine ⟨jst A one other, r, rn K.e G.e x, y, _, l, ⟨sml_join T.sml, ltJ, dd_nodup, rx, ky_, T.lw_, T.rw_, T.len, rm', ?_, ?_⟩, h2, eJ⟩
    · have z := mv_path (k := K) (g := G) T.way
      have r0 : rn K.e G.e 0 = 0 := by
        unfold rn
        rw [if_neg (Ne.symm G0)]
      rw [r0] at z
      have z2 := path_congr (us := dd (A.map (mv K G)) no) (fun p c q s => dd_stp.mpr s) z
      unfold jst
      rw [hk, hg]
      exact z2
    · have pj := (pot_join p (hk ▸ c.mk_ : K ∈ hf A) (hg ▸ c.mg : G ∈ hf A) (hk ▸ hg ▸ c.hs : K.s = G.s) (hk ▸ hg ▸ c.hne : K.e ≠ G.e)).sub (us := jst A one other) (fun t ht => by
        unfold jst at ht
        rw [hk, hg] at ht
        exact (dd_sub ht).1)
      have hne : K.e ≠ G.e := hk ▸ hg ▸ c.hne
      have e := sm_LJ (L := L) (w := L K.s) hK hG hne
      have lS := sm_one (f := L) (bnd K (hk ▸ c.mk_)).1
      have vj := vs_join c T.lt
      refine ⟨_, _, pj, ?_, ?_⟩
      · rw [e]
        have e1 : 2 * 2 ^ vs (jst A one other) k ≤ 2 ^ vs A k := by
          have z : 2 ^ (vs (jst A one other) k + 1) ≤ 2 ^ vs A k := Nat.pow_le_pow_right (by decide) vj
          rw [Nat.pow_succ] at z
          omega
        have e2 : (sm L k + L K.s) * 2 ^ vs (jst A one other) k ≤ (sm L k * 2) * 2 ^ vs (jst A one other) k := Nat.mul_le_mul_right _ (by omega)
        have e3 : sm L k * (2 * 2 ^ vs (jst A one other) k) ≤ sm L k * 2 ^ vs A k := Nat.mul_le_mul_left _ e1
        rw [Nat.mul_assoc] at e2
        omega
      · have lm : l * sm L k ≤ l * sm (LJ L K.e G.e (L K.s)) k := Nat.mul_le_mul_left _ (by omega)
        unfold rn
        by_cases hx : x = G.e
        · rw [if_pos hx, if_pos hx]
          refine ⟨chg K G ++ ρ, ?_, ?_⟩
          · unfold PtJ
            rw [if_pos rfl]
            exact .inr ⟨ρ, hx ▸ hρ, rfl⟩
          · have e4 : Eq2 (iv (chg K G ++ ρ) ++ jn (chg K G) m) (iv ρ ++ m) := by
              rw [iv_app]
              have z := Eq2.app (Eq2.refl (iv ρ ++ iv (chg K G))) (eq2_jn (chg K G) m)
              refine z.trans ?_
              have z2 := Eq2.app (Eq2.refl (iv ρ)) (Eq2.app (eq2_inv' (chg K G)) (Eq2.refl m))
              simp only [List.append_assoc, List.nil_append] at z2 ⊢
              exact z2
            rw [rl_eq e4]
            omega
        · rw [if_neg hx, if_neg hx]
          refine ⟨ρ, ?_, by omega⟩
          unfold PtJ
          by_cases hx2 : x = K.e
          · rw [if_pos hx2]
            exact .inl (hx2 ▸ hρ)
          · rw [if_neg hx2, if_neg hx]
            exact hρ
/-- none within A: the rest's first tie clashes -/
theorem tail_on {c d : Nat} {r' : List Nat} (k18 : k ≤ 18) (T : Tail k v A (c :: d :: r') x y m l) (hA : clash A = none) {one other : Tie} (h : clash (A ++ ringT m (c :: d :: r') x y) = some (one, other)) :
    Lens (A ++ ringT m (c :: d :: r') x y) one other ∧ (GoodB k (jst (A ++ ringT m (c :: d :: r') x y) one other) ∨ TailG k v (jst (A ++ ringT m (c :: d :: r') x y) one other)) := by
  obtain ⟨Pt, L, p, hb, ρ, hρ, hω⟩ := T.pot
  have ml := T.mlen p hρ hω
  have v0 : 1 ≤ 2 ^ vs A k := Nat.one_le_two_pow
  have tb : sm L k ≤ 2 ^ 18 := Nat.le_trans (by have z := Nat.mul_le_mul_left (sm L k) v0; omega) hb
  have bnd : ∀ q ∈ hf A, q.s < k ∧ q.e < k := fun q hq => by
    obtain ⟨t, ht, e⟩ := mem_hf.mp hq
    rcases e with rfl | rfl
    · exact T.lt q ht
    · exact ⟨(T.lt t ht).2, (T.lt t ht).1⟩
  have ky_ := T.hy
  have kx := T.hx
  have hc := T.lw_ c List.mem_cons_self
  -- the known step
  obtain ⟨Q, s, w'⟩ := (show Path A x (c :: (d :: r' ++ v)) 0 from T.way)
  have kE := ck_end knOk0 (show ck (hf A) kn0 = none from hA)
  rw [List.nil_append] at kE
  obtain ⟨t0, ht0, e1, e2, e3⟩ := id s
  obtain ⟨o, ko, oe⟩ := kE.2 t0 ht0
  rw [e1, e2] at ko
  rw [e3] at oe
  obtain ⟨om, os, oa⟩ := kE.1 _ _ _ ko
  have hQ : Q < k := oe ▸ (bnd o om).2
  have eC : clash (A ++ ringT m (c :: d :: r') x y) = some (o, ⟨x, c, y, m⟩) := by
    unfold clash
    rw [hf_app, ck_app, show ck (hf A) kn0 = none from hA]
    show ck (hf (told x c y m :: ringT [] (d :: r') y (y + 1))) ((hf A).foldl knPut kn0) = _
    show ck (told x c y m :: bk (told x c y m) :: hf (ringT [] (d :: r') y (y + 1))) _ = _
    have nq : ¬ o.e = y := by omega
    unfold told
    by_cases lc : lw c = true
    · rw [if_pos lc, ck_step]
      show (match (hf A).foldl knPut kn0 x c with | some o => _ | none => _) = _
      rw [ko]
      exact if_neg nq
    · have hs : sw (sw c) = c := by
        rcases hc with z | z
        · exact absurd (lw_true.mpr z) lc
        · exact (sw_big z).2
      have eb : bk ⟨y, sw c, x, iv m⟩ = ⟨x, c, y, m⟩ := by
        show (⟨x, sw (sw c), y, iv (iv m)⟩ : Tie) = _
        rw [hs, iv_iv]
      rw [if_neg lc, eb, ck_step]
      have n1 : (hf A).foldl knPut kn0 y (sw c) = none := by
        cases q : (hf A).foldl knPut kn0 y (sw c) with
        | none => rfl
        | some o' =>
          obtain ⟨z1, z2, _⟩ := kE.1 _ _ _ q
          have z3 := (bnd o' z1).1
          omega
      show (match (hf A).foldl knPut kn0 y (sw c) with | some o => _ | none => _) = _
      rw [n1]
      show ck (⟨x, c, y, m⟩ :: _) (knPut _ _) = _
      rw [ck_step]
      have n2 : knPut ((hf A).foldl knPut kn0) ⟨y, sw c, x, iv m⟩ x c = some o := by
        unfold knPut
        rw [if_neg (fun z => by have z1 : x = y := z.1; omega)]
        exact ko
      show (match knPut ((hf A).foldl knPut kn0) ⟨y, sw c, x, iv m⟩ x c with | some o => _ | none => _) = _
      rw [n2]
      exact if_neg nq
  rw [eC] at h
  obtain ⟨rfl, rfl⟩ := Prod.mk.inj (Option.some.inj h)
  have hk : kpt o ⟨x, c, y, m⟩ = o := by
    unfold kpt
    rw [if_pos (show y ≠ 0 by omega)]
  have hg : gne o ⟨x, c, y, m⟩ = ⟨x, c, y, m⟩ := by
    unfold gne
    rw [if_pos (show y ≠ 0 by omega)]
  have ol := p.len om
  have ol1 := sm_one (f := L) (bnd o om).1
  have ol2 := sm_one (f := L) (bnd o om).2
  have cl : (chg o ⟨x, c, y, m⟩).length ≤ 11 * sm L k + 1 := by
    have z := jn_len m (iv o.m)
    rw [iv_len] at z
    show (jn (iv o.m) m).length ≤ _
    omega
  have hcr : Rd (chg o ⟨x, c, y, m⟩) := jn_rd (iv_rd (p.half om).2)
  constructor
  · refine lens_gen (C := 11 * sm L k + 1) (M := 9 * sm L k + 1) (by
      rw [hk, hg]
      show o.m.length + m.length ≤ MX
      unfold MX
      omega) (by rw [hk, hg]; exact cl) (fun t ht => ?_) (by unfold MX; omega)
    rcases List.mem_append.mp ht with ht | ht
    · have z := p.len (mem_hf.mpr ⟨t, ht, .inl rfl⟩)
      have z1 := sm_one (f := L) (T.lt t ht).1
      have z2 := sm_one (f := L) (T.lt t ht).2
      omega
    · rcases List.mem_cons.mp (show t ∈ told x c y m :: ringT [] (d :: r') y (y + 1) from ht) with e | ht
      · rw [e, told_ml]
        exact ml
      · rw [ring_m0 t ht]
        exact Nat.zero_le _
  · generalize hch : chg o ⟨x, c, y, m⟩ = ch at *
    -- the new rest
    have T' : Tail k v A (d :: r') Q (y + 1) ch (l + 1) := by
      refine ⟨T.sml, T.lt, T.nd, hQ, by omega, fun c hc => T.lw_ c (List.mem_cons_of_mem _ hc), T.rw_.2, ?_, hcr, w', Pt, L, p, hb, ?_⟩
      · have z := T.len
        simp only [List.length_cons] at z ⊢
        omega
      · obtain ⟨⟨u, vq, hu, hv, he⟩, _⟩ := p.half om
        rw [os] at hu
        rw [oe] at hv
        refine ⟨vq, hv, ?_⟩
        have e4 : Eq2 (iv vq ++ ch) ((iv u ++ ρ) ++ (iv ρ ++ m)) := by
          rw [← hch]
          have z1 : Eq2 (iv o.m) (vq ++ iv u) := by
            have z := eq2_iv he
            rw [iv_app, iv_iv] at z
            exact z
          have z2 : Eq2 (iv vq ++ chg o ⟨x, c, y, m⟩) (iv vq ++ ((vq ++ iv u) ++ m)) := Eq2.app (Eq2.refl _) ((eq2_jn (iv o.m) m).trans (Eq2.app z1 (Eq2.refl m)))
          refine z2.trans ?_
          have z3 := Eq2.app (eq2_inv' vq) (Eq2.app (Eq2.refl (iv u)) (Eq2.app (eq2_inv ρ).symm (Eq2.refl m)))
          simp only [List.append_assoc, List.nil_append] at z3 ⊢
          exact z3
        rw [rl_eq e4]
        have a1 := rl_app (iv u ++ ρ) (iv ρ ++ m)
        have a2 := p.dist _ _ _ hu hρ
        have a3 := sm_one (f := L) kx
        have a4 : (l + 1) * sm L k = l * sm L k + sm L k := by rw [Nat.add_mul, Nat.one_mul]
        omega
    have eR : (ringT [] (d :: r') y (y + 1)).map (mv o ⟨x, c, y, m⟩) = ringT ch (d :: r') Q (y + 1) := by
      cases r' with
      | nil =>
        show [mv o ⟨x, c, y, m⟩ (told y d 0 [])] = [told Q d 0 ch]
        have z := mv_told2 (k := o) (g := ⟨x, c, y, m⟩) (d := d) (z := 0) (show 0 ≠ y by omega) (by rw [hch]; exact hcr)
        rw [hch, oe] at z
        exact congrArg (fun t => [t]) z
      | cons e r' =>
        show (told y d (y + 1) [] :: ringT [] (e :: r') (y + 1) (y + 1 + 1)).map (mv o ⟨x, c, y, m⟩) = told Q d (y + 1) ch :: ringT [] (e :: r') (y + 1) (y + 1 + 1)
        have z := mv_told2 (k := o) (g := ⟨x, c, y, m⟩) (d := d) (z := y + 1) (show y + 1 ≠ y by omega) (by rw [hch]; exact hcr)
        rw [hch, oe] at z
        rw [List.map_cons]
        have z2 : (ringT [] (e :: r') (y + 1) (y + 1 + 1)).map (mv o ⟨x, c, y, m⟩) = ringT [] (e :: r') (y + 1) (y + 1 + 1) := map_mv_id (ring_off (by omega) (show y + 1 ≠ y by omega) (show y < y + 1 + 1 by omega) (show y ≠ 0 by omega))
        rw [z2]
        exact congrArg (fun t => t :: _) z
    have eA : A.map (mv o ⟨x, c, y, m⟩) = A := map_mv_id fun t ht => by
      have z := T.lt t ht
      show t.s ≠ y ∧ t.e ≠ y
      omega
    have dup : ky (mv o ⟨x, c, y, m⟩ (told x c y m)) ∈ A.map ky := by
      obtain ⟨t1, h1, ee⟩ := mem_hf.mp om
      have ks := mv_s o ⟨x, c, y, m⟩ (told x c y m)
      have ka := mv_a o ⟨x, c, y, m⟩ (told x c y m)
      have ke := mv_e o ⟨x, c, y, m⟩ (told x c y m)
      have ry : rn o.e y y = Q := by
        unfold rn
        rw [if_pos rfl, oe]
      have rx : rn o.e y x = x := by
        unfold rn
        rw [if_neg (by omega)]
      have sm1 := T.sml t1 h1
      refine List.mem_map.mpr ⟨t1, h1, ?_⟩
      unfold ky
      rw [ks, ka, ke]
      by_cases lc : lw c = true
      · have et : told x c y m = ⟨x, c, y, m⟩ := by
          unfold told
          rw [if_pos lc]
        rw [et]
        show (t1.s, t1.a, t1.e) = (rn o.e y x, c, rn o.e y y)
        rw [rx, ry]
        rcases ee with ee | ee
        · rw [← ee, os, oa, oe]
        · exfalso
          rw [ee] at oa
          have z : sw t1.a = c := oa
          have z2 := (sw_small sm1).1
          rw [z] at z2
          exact small_big (lw_true.mp lc) z2
      · have et : told x c y m = ⟨y, sw c, x, iv m⟩ := by
          unfold told
          rw [if_neg lc]
        rw [et]
        show (t1.s, t1.a, t1.e) = (rn o.e y y, sw c, rn o.e y x)
        rw [rx, ry]
        rcases ee with ee | ee
        · exfalso
          rw [ee] at oa
          rw [oa] at sm1
          exact lc (lw_true.mpr sm1)
        · rw [ee] at os oa oe
          have z1 : t1.e = x := os
          have z2 : sw t1.a = c := oa
          have z3 : t1.s = Q := oe
          rw [z1, z3, ← z2, (sw_small sm1).2]
    have eJ : jst (A ++ ringT m (c :: d :: r') x y) o ⟨x, c, y, m⟩ = A ++ dd (ringT ch (d :: r') Q (y + 1)) (fun z => no z || decide (z ∈ A.map ky)) := by
      unfold jst
      rw [hk, hg, List.map_append, eA, dd_app]
      rw [dd_id (f := no) T.nd fun t ht => rfl]
      show A ++ dd ((told x c y m :: ringT [] (d :: r') y (y + 1)).map (mv o ⟨x, c, y, m⟩)) _ = _
      rw [List.map_cons, eR, dd_step]
      have e5 : (no (ky (mv o ⟨x, c, y, m⟩ (told x c y m))) || decide (ky (mv o ⟨x, c, y, m⟩ (told x c y m)) ∈ A.map ky)) = true := by
        rw [decide_eq_true dup, Bool.or_true]
      rw [if_pos e5]
    cases r' with
    | nil =>
      left
      refine tail_one T' (fun t ht => ?_) k18
      rw [eJ] at ht
      rcases List.mem_append.mp ht with ht | ht
      · exact .inl ht
      · exact .inr (List.mem_singleton.mp (dd_sub ht).1)
    | cons e r' =>
      right
      have h2 : 2 ≤ (d :: e :: r').length := by simp
      refine ⟨A, d :: e :: r', Q, y + 1, ch, l + 1, T', h2, ?_⟩
      rw [eJ, dd_id (ring_keys (by omega) T'.lw_ T'.rw_) fun t ht => ?_]
      show (no (ky t) || _) = false
      rw [show no (ky t) = false from rfl, Bool.false_or]
      exact nd_keys T.lt (by omega) (ring_new h2) t ht
end
theorem tail_safe {k : Nat} {v : List Nat} {us : List Tie} (k18 : k ≤ 18) (g : TailG k v us) : Safe us := by
  refine ⟨fun us => GoodB k us ∨ TailG k v us, .inr g, fun us hg one other h => ?_⟩
  rcases hg with g | ⟨A, r, x, y, m, l, T, h2, rfl⟩
  · obtain ⟨a, b⟩ := goodB_step g (clash_some h)
    exact ⟨a, .inl b⟩
  · cases hA : clash A with
    | none =>
      cases r with
      | nil => simp at h2
      | cons c r =>
        cases r with
        | nil => simp at h2
        | cons d r => exact tail_on k18 T hA h
    | some z =>
      obtain ⟨o1, o2⟩ := z
      have e : clash (A ++ ringT m r x y) = some (o1, o2) := by
        unfold clash
        rw [hf_app, ck_app, show ck (hf A) kn0 = some (o1, o2) from hA]
      rw [e] at h
      cases h
      obtain ⟨a, b⟩ := tail_in T h2 (clash_some hA)
      exact ⟨a, .inr b⟩
/-- the last word goes along an earlier one -/
theorem safe_along {vs0 : List (List Nat)} {p v : List Nat} (hl : ∀ w ∈ vs0, LW w) (hp : LW p) (hr : RW p) (hin : p ++ v ∈ vs0) (h17 : SS vs0 ≤ 17) (h8 : p.length ≤ 8) (h3 : 3 ≤ p.length) : Safe (init (vs0 ++ [p])) := by
  have kk : 0 + 1 + SS vs0 = SS vs0 + 1 := by omega
  have e : init (vs0 ++ [p]) = init vs0 ++ ringT [(((0 + vs0.length : Nat) : Int), 1)] p 0 (1 + SS vs0) := by
    unfold init
    rw [rgs_app, dd_app]
    show dd (rgs vs0 0 1) no ++ dd (ringT _ p 0 (1 + SS vs0) ++ []) _ = _
    rw [List.append_nil, dd_id (ring_keys (by omega) hp hr) fun t ht => ?_]
    show (no (ky t) || _) = false
    rw [show no (ky t) = false from rfl, Bool.false_or]
    refine nd_keys (k := 1 + SS vs0) (fun t ht => ?_) (Nat.le_refl _) (ring_new (by omega)) t ht
    exact rgs_ends (by decide) t ht
  rw [e]
  refine tail_safe (k := 1 + SS vs0) (v := v) (by omega) ⟨init vs0, p, 0, 1 + SS vs0, [(((0 + vs0.length : Nat) : Int), 1)], 0, ⟨?_, ?_, dd_nodup, by omega, Nat.le_refl _, hp, hr, by omega, trivial, ?_, Pt0, L0, pot0 fun t ht => (dd_sub ht).1, ?_, [], .inl rfl, ?_⟩, by omega, rfl⟩
  · exact fun t ht => rgs_small hl t (dd_sub ht).1
  · exact fun t ht => rgs_ends (by decide) t (dd_sub ht).1
  · exact path_congr (fun p c q s => dd_stp.mpr s) (rgs_path hl (fun t ht => ht) _ hin)
  · rw [show 1 + SS vs0 = SS vs0 + 1 by omega, sm_L0]
    have z : 2 ^ vs (init vs0) (SS vs0 + 1) ≤ 2 ^ 17 := Nat.pow_le_pow_right (by decide) (Nat.le_trans (vs_le _) h17)
    omega
  · refine Nat.le_trans (rl_le _) ?_
    show 1 ≤ 1 + 0 * _
    omega
end G1
/-! What both folds come to; the law's fold; first met places; forms. Plain Lean. -/
set_option Elab.async false
set_option linter.unusedVariables false
namespace G1
/-- a folded web of some words -/
structure Fld (wl : List (List Nat)) (ts : List Tie) : Prop where
  sml : Sml ts
  det : Det ts
  univ : Univ wl ts
  way : ∀ w ∈ wl, Path ts 0 w 0
theorem Fld.mor {wl wm : List (List Nat)} {ts us : List Tie} (F : Fld wl ts) (G : Fld wm us) (h : ∀ w ∈ wl, Path us 0 w 0) : ∃ f : Nat → Nat, f 0 = 0 ∧ Mor ts us f := by
  obtain ⟨f, f0, fm⟩ := F.univ us G.sml G.det h
  exact ⟨f, f0, mor_of G.sml fm⟩
theorem Fld.acc {wl wm : List (List Nat)} {ts us : List Tie} (F : Fld wl ts) (G : Fld wm us) (h : ∀ w ∈ wl, Path us 0 w 0) {w : List Nat} (p : Path ts 0 w 0) : Path us 0 w 0 := by
  obtain ⟨f, f0, fm⟩ := F.mor G h
  have z := fm.path p
  rw [f0] at z
  exact z
theorem Fld.same {wl : List (List Nat)} {ts us : List Tie} (F : Fld wl ts) (G : Fld wl us) (w : List Nat) : Path ts 0 w 0 ↔ Path us 0 w 0 := ⟨F.acc G G.way, G.acc F F.way⟩
/-! the program's fold: kept by each join -/
structure Und (wl : List (List Nat)) (n : Nat) (ts : List Tie) : Prop where
  sml : Sml ts
  lt : ∀ t ∈ ts, t.s < n ∧ t.e < n
  univ : Univ wl ts
  way : ∀ w ∈ wl, Path ts 0 w 0
  nd : (ts.map ky).Nodup
theorem univ0 {wl : List (List Nat)} (h : ∀ w ∈ wl, LW w) : Univ wl (rgs wl 0 1) := fun us hs hd hw => by
  obtain ⟨f, a, b⟩ := rgs_univ hs (ws := wl) (i := 0) (k := 1) (f := fun _ => 0) h (by decide) rfl hw
  exact ⟨f, a 0 (by decide), b⟩
theorem und0 {wl : List (List Nat)} (h : ∀ w ∈ wl, LW w) : Und wl (SS wl + 1) (init wl) := by
  refine ⟨fun t ht => rgs_small h t (dd_sub ht).1, init_lt wl, fun us hs hd hw => ?_, fun w hw => ?_, dd_nodup⟩
  · obtain ⟨f, a, b⟩ := univ0 h us hs hd hw
    exact ⟨f, a, fun t ht => b t (dd_sub ht).1⟩
  · exact path_congr (fun p c q s => dd_stp.mpr s) (rgs_path h (fun t ht => ht) w hw)
theorem und_join {wl : List (List Nat)} {n : Nat} {ts : List Tie} {one other : Tie} (U : Und wl n ts) (c : Clash ts one other) : Und wl n (jst ts one other) :=
  ⟨sml_join U.sml, lt_join U.lt c, univ_join U.univ c, fun w hw => path_join c (U.way w hw), dd_nodup⟩
theorem Und.fld {wl : List (List Nat)} {n : Nat} {ts : List Tie} (U : Und wl n ts) (h : clash ts = none) : Fld wl ts := ⟨U.sml, clash_none h, U.univ, U.way⟩
/-! the law's fold: no marks, doubles stay till the end -/
def pln (t : Tie) : Tie := ⟨t.s, t.a, t.e, []⟩
def lrn (lo hi : Nat) (t : Tie) : Tie := ⟨rn lo hi t.s, t.a, rn lo hi t.e, []⟩
structure LUnd (wl : List (List Nat)) (n : Nat) (ts : List Tie) : Prop where
  sml : Sml ts
  lt : ∀ t ∈ ts, t.s < n ∧ t.e < n
  univ : Univ wl ts
  way : ∀ w ∈ wl, Path ts 0 w 0
theorem pln_stp {ts : List Tie} {p c q : Nat} : Stp (ts.map pln) p c q ↔ Stp ts p c q := by
  constructor
  · rintro ⟨t, ht, rfl, rfl, rfl⟩
    obtain ⟨t0, h0, e⟩ := mem_hf.mp ht
    obtain ⟨t1, h1, rfl⟩ := List.mem_map.mp h0
    rcases e with rfl | rfl
    · exact ⟨t1, mem_hf.mpr ⟨t1, h1, .inl rfl⟩, rfl, rfl, rfl⟩
    · exact ⟨bk t1, mem_hf.mpr ⟨t1, h1, .inr rfl⟩, rfl, rfl, rfl⟩
  · rintro ⟨t, ht, rfl, rfl, rfl⟩
    obtain ⟨t0, h0, e⟩ := mem_hf.mp ht
    have hm : pln t0 ∈ ts.map pln := List.mem_map.mpr ⟨t0, h0, rfl⟩
    rcases e with rfl | rfl
    · exact ⟨pln t, mem_hf.mpr ⟨_, hm, .inl rfl⟩, rfl, rfl, rfl⟩
    · exact ⟨bk (pln t0), mem_hf.mpr ⟨_, hm, .inr rfl⟩, rfl, rfl, rfl⟩
theorem lund0 {wl : List (List Nat)} (h : ∀ w ∈ wl, LW w) : LUnd wl (SS wl + 1) ((rgs wl 0 1).map pln) := by
  refine ⟨fun t ht => ?_, fun t ht => ?_, fun us hs hd hw => ?_, fun w hw => ?_⟩
  · obtain ⟨t0, h0, rfl⟩ := List.mem_map.mp ht
    exact rgs_small h t0 h0
  · obtain ⟨t0, h0, rfl⟩ := List.mem_map.mp ht
    have z := rgs_ends (ws := wl) (i := 0) (k := 1) (by decide) t0 h0
    show t0.s < _ ∧ t0.e < _
    omega
  · obtain ⟨f, a, b⟩ := univ0 h us hs hd hw
    refine ⟨f, a, fun t ht => ?_⟩
    obtain ⟨t0, h0, rfl⟩ := List.mem_map.mp ht
    exact b t0 h0
  · exact path_congr (fun p c q s => pln_stp.mpr s) (rgs_path h (fun t ht => ht) w hw)
theorem lrn_stp {ts : List Tie} {lo hi p c q : Nat} (s : Stp ts p c q) : Stp (ts.map (lrn lo hi)) (rn lo hi p) c (rn lo hi q) := by
  obtain ⟨t, ht, rfl, rfl, rfl⟩ := s
  obtain ⟨t0, h0, e⟩ := mem_hf.mp ht
  have hm : lrn lo hi t0 ∈ ts.map (lrn lo hi) := List.mem_map.mpr ⟨t0, h0, rfl⟩
  rcases e with rfl | rfl
  · exact ⟨lrn lo hi t, mem_hf.mpr ⟨_, hm, .inl rfl⟩, rfl, rfl, rfl⟩
  · exact ⟨bk (lrn lo hi t0), mem_hf.mpr ⟨_, hm, .inr rfl⟩, rfl, rfl, rfl⟩
theorem lrn_path {ts : List Tie} {lo hi : Nat} : ∀ {w : List Nat} {p q : Nat}, Path ts p w q → Path (ts.map (lrn lo hi)) (rn lo hi p) w (rn lo hi q)
  | [], _, _, e => congrArg _ e
  | _ :: _, _, _, ⟨_, s, h⟩ => ⟨_, lrn_stp s, lrn_path h⟩
section
variable {wl : List (List Nat)} {n : Nat} {ts : List Tie} {one other : Tie}
theorem lund_step (U : LUnd wl n ts) (c : Clash ts one other) : LUnd wl n (ts.map (lrn (min one.e other.e) (max one.e other.e))) ∧ vs (ts.map (lrn (min one.e other.e) (max one.e other.e))) n + 1 ≤ vs ts n := by
  have hne := c.ne
  obtain ⟨lo, hi, elo, ehi, hor, h0, hlh⟩ : ∃ lo hi : Nat, min one.e other.e = lo ∧ max one.e other.e = hi ∧ ((lo = one.e ∧ hi = other.e) ∨ (lo = other.e ∧ hi = one.e)) ∧ hi ≠ 0 ∧ lo ≠ hi := ⟨_, _, rfl, rfl, by omega, by omega, by omega⟩
  rw [elo, ehi]
  clear elo ehi
  obtain ⟨t1, ht1, _, x1⟩ := occ_hf c.m1
  obtain ⟨t2, ht2, _, x2⟩ := occ_hf c.m2
  have hon : ∃ t ∈ ts, t.s = hi ∨ t.e = hi := by
    rcases hor with ⟨_, e⟩ | ⟨_, e⟩
    · rw [e]; exact ⟨t2, ht2, x2⟩
    · rw [e]; exact ⟨t1, ht1, x1⟩
  have lon : ∃ t ∈ ts, t.s = lo ∨ t.e = lo := by
    rcases hor with ⟨e, _⟩ | ⟨e, _⟩
    · rw [e]; exact ⟨t1, ht1, x1⟩
    · rw [e]; exact ⟨t2, ht2, x2⟩
  have bnd : ∀ p, (∃ t ∈ ts, t.s = p ∨ t.e = p) → p < n := fun p ⟨t, ht, e⟩ => by
    have z := U.lt t ht
    rcases e with e | e
    · rw [← e]; exact z.1
    · rw [← e]; exact z.2
  have r : ∀ p, p < n → rn lo hi p < n := fun p hp => by
    unfold rn
    split
    · exact bnd _ lon
    · exact hp
  refine ⟨⟨fun t ht => ?_, fun t ht => ?_, fun us hs hd hw => ?_, fun w hw => ?_⟩, ?_⟩
  · obtain ⟨t0, h1, rfl⟩ := List.mem_map.mp ht
    exact U.sml t0 h1
  · obtain ⟨t0, h1, rfl⟩ := List.mem_map.mp ht
    exact ⟨r _ (U.lt t0 h1).1, r _ (U.lt t0 h1).2⟩
  · obtain ⟨f, f0, fm⟩ := U.univ us hs hd hw
    refine ⟨f, f0, fun t ht => ?_⟩
    obtain ⟨t0, h1, rfl⟩ := List.mem_map.mp ht
    have m := mor_of (ts := ts) hs fm
    have e1 := m _ _ _ ⟨_, c.m1, rfl, rfl, rfl⟩
    have e2 := m _ _ _ ⟨_, c.m2, rfl, rfl, rfl⟩
    rw [c.es, c.ea] at e1
    have e := hd _ _ _ _ e1 e2
    have el : f lo = f hi := by
      rcases hor with ⟨a, b⟩ | ⟨a, b⟩
      · rw [a, b]; exact e
      · rw [a, b]; exact e.symm
    have q : ∀ p, f (rn lo hi p) = f p := fun p => by
      unfold rn
      split
      · rename_i z
        rw [z]
        exact el
      · rfl
    show Stp us (f (rn lo hi t0.s)) t0.a (f (rn lo hi t0.e))
    rw [q, q]
    exact fm t0 h1
  · have z := lrn_path (lo := lo) (hi := hi) (U.way w hw)
    have r0 : rn lo hi 0 = 0 := by
      unfold rn
      rw [if_neg (Ne.symm h0)]
    rw [r0] at z
    exact z
  · refine sm_lt (i := hi) (fun p hp => ?_) (bnd _ hon) ?_
    · unfold occ
      by_cases hn : p ≠ 0 ∧ ∃ t ∈ ts.map (lrn lo hi), t.s = p ∨ t.e = p
      · rw [if_pos hn]
        obtain ⟨p0, t, ht, e⟩ := hn
        obtain ⟨t0, h1, rfl⟩ := List.mem_map.mp ht
        have key : ∀ x, rn lo hi x = p → x = p ∨ lo = p := fun x z => by
          unfold rn at z
          split at z
          · exact .inr z
          · exact .inl z
        rw [if_pos]
        · exact Nat.le_refl _
        · refine ⟨p0, ?_⟩
          rcases e with e | e
          · rcases key _ e with z | z
            · exact ⟨t0, h1, .inl z⟩
            · exact z ▸ lon
          · rcases key _ e with z | z
            · exact ⟨t0, h1, .inr z⟩
            · exact z ▸ lon
      · rw [if_neg hn]
        exact Nat.zero_le _
    · unfold occ
      rw [if_neg, if_pos ⟨h0, hon⟩]
      · exact Nat.zero_lt_one
      · rintro ⟨_, t, ht, e⟩
        obtain ⟨t0, h1, rfl⟩ := List.mem_map.mp ht
        have key : ∀ x, rn lo hi x ≠ hi := fun x z => by
          unfold rn at z
          split at z
          · exact hlh z
          · contradiction
        rcases e with e | e
        · exact key _ e
        · exact key _ e
end
/-! places as they are met -/
def ltrs : List Nat := [97, 65, 98, 66, 99, 67, 100, 68]
abbrev Sf := Nat → Nat → Option Nat
def vis (st : Sf) (here : Nat) : List Nat → List Nat → List Nat
  | [], f => f
  | c :: r, f => match st here c with
    | some q => if q ∈ f then vis st here r f else vis st here r (f ++ [q])
    | none => vis st here r f
inductive Bfs (st : Sf) : List Nat → Nat → List Nat → Prop where
  | done {f : List Nat} {i : Nat} (h : i = f.length) : Bfs st f i f
  | step {f res : List Nat} {i here : Nat} (h : f[i]? = some here) (r : Bfs st (vis st here ltrs f) (i + 1) res) : Bfs st f i res
theorem vis_pre (st : Sf) (here : Nat) : ∀ (r f : List Nat), ∃ more, vis st here r f = f ++ more
  | [], f => ⟨[], by rw [List.append_nil]; rfl⟩
  | c :: r, f => by
    unfold vis
    split
    · split
      · exact vis_pre st here r f
      · rename_i q _ _
        obtain ⟨m, e⟩ := vis_pre st here r (f ++ [q])
        exact ⟨q :: m, by rw [e, List.append_assoc]; rfl⟩
    · exact vis_pre st here r f
theorem vis_nodup {st : Sf} {here : Nat} : ∀ {r f : List Nat}, f.Nodup → (vis st here r f).Nodup
  | [], f, h => h
  | c :: r, f, h => by
    unfold vis
    split
    · split
      · exact vis_nodup h
      · rename_i q _ hq
        refine vis_nodup (List.nodup_append.mpr ⟨h, List.nodup_cons.mpr ⟨fun z => (by cases z), List.nodup_nil⟩, fun a ha b hb => ?_⟩)
        rw [List.mem_singleton.mp hb]
        exact fun e => hq (e ▸ ha)
    · exact vis_nodup h
theorem vis_has {st : Sf} {here : Nat} : ∀ {r f : List Nat} {c q : Nat}, c ∈ r → st here c = some q → q ∈ vis st here r f
  | c0 :: r, f, c, q, hc, hq => by
    have keep : ∀ g : List Nat, q ∈ g → q ∈ vis st here r g := fun g hg => by
      obtain ⟨m, e⟩ := vis_pre st here r g
      rw [e]
      exact List.mem_append_left _ hg
    unfold vis
    rcases List.mem_cons.mp hc with e | hc
    · subst e
      rw [hq]
      show q ∈ if q ∈ f then vis st here r f else vis st here r (f ++ [q])
      split
      · exact keep _ (by assumption)
      · exact keep _ (List.mem_append_right _ List.mem_cons_self)
    · split
      · split
        · exact vis_has hc hq
        · exact vis_has hc hq
      · exact vis_has hc hq
theorem vis_all {st : Sf} {here : Nat} {C : Nat → Prop} : ∀ {r f : List Nat}, (∀ c q, st here c = some q → C q) → (∀ p ∈ f, C p) → ∀ p ∈ vis st here r f, C p
  | [], f, _, h => h
  | c :: r, f, hs, h => by
    unfold vis
    split
    · rename_i q hq
      split
      · exact vis_all hs h
      · refine vis_all hs fun p hp => ?_
        rcases List.mem_append.mp hp with hp | hp
        · exact h p hp
        · rw [List.mem_singleton.mp hp]
          exact hs c q hq
    · exact vis_all hs h
theorem Bfs.pre {st : Sf} {f res : List Nat} {i : Nat} (b : Bfs st f i res) : ∃ more, res = f ++ more := by
  induction b with
  | done _ => exact ⟨[], by rw [List.append_nil]⟩
  | step _ _ ih =>
    obtain ⟨m, e⟩ := ih
    obtain ⟨m', e'⟩ := vis_pre _ _ ltrs _
    exact ⟨m' ++ m, by rw [e, e', List.append_assoc]⟩
theorem Bfs.nodup {st : Sf} {f res : List Nat} {i : Nat} (b : Bfs st f i res) : f.Nodup → res.Nodup := by
  induction b with
  | done _ => exact id
  | step _ _ ih => exact fun h => ih (vis_nodup h)
theorem Bfs.all {st : Sf} {C : Nat → Prop} {f res : List Nat} {i : Nat} (b : Bfs st f i res) (hs : ∀ p c q, C p → st p c = some q → C q) : (∀ p ∈ f, C p) → ∀ p ∈ res, C p := by
  induction b with
  | done _ => exact id
  | step h _ ih => exact fun hf => ih (vis_all (fun c q => hs _ c q (hf _ (List.mem_of_getElem? h))) hf)
/-- closed: what is met from met places is met -/
theorem Bfs.closed {st : Sf} {f res : List Nat} {i : Nat} (b : Bfs st f i res) : (∀ j p, j < i → f[j]? = some p → ∀ c ∈ ltrs, ∀ q, st p c = some q → q ∈ f) → ∀ p ∈ res, ∀ c ∈ ltrs, ∀ q, st p c = some q → q ∈ res := by
  induction b with
  | done h =>
    intro hf p hp c hc q hq
    obtain ⟨j, hj, e⟩ := List.mem_iff_getElem.mp hp
    exact hf j p (by omega) (by rw [List.getElem?_eq_getElem hj, e]) c hc q hq
  | @step f res i here h r ih =>
    intro hf
    refine ih fun j p hj hp c hc q hq => ?_
    obtain ⟨m, e⟩ := vis_pre st here ltrs f
    have hi : i < f.length := (List.getElem?_eq_some_iff.mp h).1
    have hp' : f[j]? = some p := by
      rw [e, List.getElem?_append_left (by omega)] at hp
      exact hp
    by_cases hji : j = i
    · subst hji
      rw [h] at hp'
      cases hp'
      exact vis_has hc hq
    · rw [e]
      exact List.mem_append_left _ (hf j p (by omega) hp' c hc q hq)
theorem Bfs.uniq {st : Sf} {f r1 r2 : List Nat} {i : Nat} (a : Bfs st f i r1) : Bfs st f i r2 → r1 = r2 := by
  induction a with
  | done h =>
    intro b
    cases b with
    | done _ => rfl
    | step h2 _ =>
      have z := (List.getElem?_eq_some_iff.mp h2).1
      omega
  | step h _ ih =>
    intro b
    cases b with
    | done h2 =>
      have z := (List.getElem?_eq_some_iff.mp h).1
      omega
    | step h2 r2 =>
      rw [h] at h2
      cases h2
      exact ih r2
/-- a map that takes steps to steps, both ways, on places with C -/
theorem vis_map {st su : Sf} {f : Nat → Nat} {C : Nat → Prop} (inj : ∀ p q, C p → C q → f p = f q → p = q) (hC : ∀ p c q, C p → st p c = some q → C q) (hs : ∀ p c, C p → c ∈ ltrs → su (f p) c = (st p c).map f) {here : Nat} (h0 : C here) :
    ∀ {r g : List Nat}, (∀ c ∈ r, c ∈ ltrs) → (∀ p ∈ g, C p) → vis su (f here) r (g.map f) = (vis st here r g).map f
  | [], g, _, _ => rfl
  | c :: r, g, hr, hg => by
    have hr' : ∀ c ∈ r, c ∈ ltrs := fun c hc => hr c (List.mem_cons_of_mem _ hc)
    have e := hs here c h0 (hr c List.mem_cons_self)
    unfold vis
    rw [e]
    cases q : st here c with
    | none => exact vis_map inj hC hs h0 hr' hg
    | some x =>
      have hx := hC _ _ _ h0 q
      show (if f x ∈ g.map f then vis su (f here) r (g.map f) else vis su (f here) r (g.map f ++ [f x])) = (if x ∈ g then vis st here r g else vis st here r (g ++ [x])).map f
      by_cases hm : x ∈ g
      · rw [if_pos hm, if_pos (List.mem_map.mpr ⟨x, hm, rfl⟩)]
        exact vis_map inj hC hs h0 hr' hg
      · rw [if_neg hm, if_neg]
        · have z := vis_map inj hC hs h0 (r := r) (g := g ++ [x]) hr' (fun p hp => by
            rcases List.mem_append.mp hp with hp | hp
            · exact hg p hp
            · rw [List.mem_singleton.mp hp]
              exact hx)
          rw [List.map_append] at z
          exact z
        · intro hm'
          obtain ⟨y, hy, ey⟩ := List.mem_map.mp hm'
          exact hm (inj _ _ (hg y hy) hx ey ▸ hy)
theorem Bfs.map {st su : Sf} {f : Nat → Nat} {C : Nat → Prop} (inj : ∀ p q, C p → C q → f p = f q → p = q) (hC : ∀ p c q, C p → st p c = some q → C q) (hs : ∀ p c, C p → c ∈ ltrs → su (f p) c = (st p c).map f)
    {g res : List Nat} {i : Nat} (b : Bfs st g i res) : (∀ p ∈ g, C p) → Bfs su (g.map f) i (res.map f) := by
  induction b with
  | done h => exact fun _ => .done (by rw [List.length_map]; exact h)
  | @step g res i here h r ih =>
    intro hg
    have hh := hg _ (List.mem_of_getElem? h)
    have z := ih (vis_all (fun c q => hC _ c q hh) hg)
    rw [← vis_map inj hC hs hh (fun c hc => hc) hg] at z
    refine .step (here := f here) ?_ z
    rw [List.getElem?_map, h]
    rfl
end G1
/-! Forms: they tell just what is made, and are told by it. Plain Lean. -/
set_option Elab.async false
set_option linter.unusedVariables false
namespace G1
/-- where letters go from places: the last tie that says so -/
def stk (ts : List Tie) : Kn := (hf ts).foldl knPut kn0
def sf (ts : List Tie) : Sf := fun p c => (stk ts p c).map (·.e)
theorem stk_fold : ∀ (r ps : List Tie) (k : Kn), (∀ s a o, k s a = some o → o ∈ ps ∧ o.s = s ∧ o.a = a) → (∀ q ∈ ps, ∃ o, k q.s q.a = some o) →
    (∀ s a o, r.foldl knPut k s a = some o → o ∈ ps ++ r ∧ o.s = s ∧ o.a = a) ∧ (∀ q ∈ ps ++ r, ∃ o, r.foldl knPut k q.s q.a = some o)
  | [], ps, k, h1, h2 => by
    rw [List.append_nil]
    exact ⟨h1, h2⟩
  | q :: r, ps, k, h1, h2 => by
    have z := stk_fold r (ps ++ [q]) (knPut k q) (fun s a o e => by
      unfold knPut at e
      split at e
      · rename_i y
        cases e
        exact ⟨List.mem_append_right _ List.mem_cons_self, y.1.symm, y.2.symm⟩
      · obtain ⟨a1, a2, a3⟩ := h1 s a o e
        exact ⟨List.mem_append_left _ a1, a2, a3⟩) (fun p hp => by
      unfold knPut
      by_cases y : p.s = q.s ∧ p.a = q.a
      · rw [if_pos y]
        exact ⟨q, rfl⟩
      · rw [if_neg y]
        rcases List.mem_append.mp hp with hp | hp
        · exact h2 p hp
        · cases List.mem_singleton.mp hp
          exact absurd ⟨rfl, rfl⟩ y)
    rw [List.append_assoc] at z
    exact z
theorem stk_some {ts : List Tie} {p c : Nat} {o : Tie} (h : stk ts p c = some o) : o ∈ hf ts ∧ o.s = p ∧ o.a = c := by
  have z := (stk_fold (hf ts) [] kn0 (fun _ _ _ e => by cases e) (fun _ e => by cases e)).1 p c o h
  exact z
theorem stk_has {ts : List Tie} {q : Tie} (h : q ∈ hf ts) : ∃ o, stk ts q.s q.a = some o :=
  (stk_fold (hf ts) [] kn0 (fun _ _ _ e => by cases e) (fun _ e => by cases e)).2 q h
theorem sf_iff {ts : List Tie} (d : Det ts) {p c q : Nat} : sf ts p c = some q ↔ Stp ts p c q := by
  unfold sf
  constructor
  · intro h
    obtain ⟨o, e, rfl⟩ := Option.map_eq_some_iff.mp h
    obtain ⟨a1, a2, a3⟩ := stk_some e
    exact ⟨o, a1, a2, a3, rfl⟩
  · rintro ⟨t, ht, rfl, rfl, rfl⟩
    obtain ⟨o, e⟩ := stk_has ht
    obtain ⟨a1, a2, a3⟩ := stk_some e
    rw [e]
    exact congrArg some (d _ _ _ _ ⟨o, a1, a2, a3, rfl⟩ ⟨t, ht, rfl, rfl, rfl⟩)
/-- letters of four -/
def L4 (ts : List Tie) : Prop := ∀ t ∈ ts, t.a ∈ [97, 98, 99, 100]
theorem l4_in {ts : List Tie} (h : L4 ts) {p c q : Nat} (s : Stp ts p c q) : c ∈ ltrs := by
  obtain ⟨t, ht, rfl, rfl, rfl⟩ := s
  obtain ⟨t0, h0, e⟩ := mem_hf.mp ht
  have z := h t0 h0
  rcases e with rfl | rfl
  · unfold ltrs
    simp only [List.mem_cons, List.not_mem_nil, or_false] at z ⊢
    omega
  · have z2 : sw t0.a = t0.a - 32 := by
      unfold sw
      simp only [List.mem_cons, List.not_mem_nil, or_false] at z
      rw [if_pos (by omega)]
    show sw t0.a ∈ ltrs
    rw [z2]
    unfold ltrs
    simp only [List.mem_cons, List.not_mem_nil, or_false] at z ⊢
    omega
theorem l4_sml {ts : List Tie} (h : L4 ts) : Sml ts := fun t ht => by
  have z := h t ht
  simp only [List.mem_cons, List.not_mem_nil, or_false] at z
  unfold Small
  omega
def num (M : List Nat) (t : Tie) : Tie := ⟨M.idxOf t.s, t.a, M.idxOf t.e, []⟩
def tle (t u : Tie) : Prop := t.s < u.s ∨ (t.s = u.s ∧ (t.a < u.a ∨ (t.a = u.a ∧ t.e ≤ u.e)))
/-- the form of a web's ties -/
structure Form (ts F : List Tie) : Prop where
  ex : ∃ M, Bfs (sf ts) [0] 0 M ∧ F.Perm ((ts.filter fun t => decide (t.s ∈ M)).map (num M))
  srt : F.Pairwise tle
theorem idx_at {M : List Nat} {p : Nat} (h : p ∈ M) : M[M.idxOf p]? = some p := by
  have z := List.idxOf_lt_length_iff.mpr h
  rw [List.getElem?_eq_getElem z, List.getElem_idxOf]
theorem idx_inj {M : List Nat} {p q : Nat} (hp : p ∈ M) (hq : q ∈ M) (h : M.idxOf p = M.idxOf q) : p = q := by
  have a := idx_at hp
  rw [h, idx_at hq] at a
  exact (Option.some.inj a).symm
theorem idx_map {f : Nat → Nat} : ∀ {M : List Nat} {p : Nat}, (∀ a ∈ M, ∀ b ∈ M, f a = f b → a = b) → p ∈ M → (M.map f).idxOf (f p) = M.idxOf p
  | a :: M, p, h, hp => by
    rw [List.map_cons, List.idxOf_cons, List.idxOf_cons]
    by_cases e : a = p
    · subst e
      simp
    · have ne : f a ≠ f p := fun z => e (h a List.mem_cons_self p hp z)
      have hp' : p ∈ M := (List.mem_cons.mp hp).resolve_left (Ne.symm e)
      rw [beq_false_of_ne ne, beq_false_of_ne e]
      show (M.map f).idxOf (f p) + 1 = M.idxOf p + 1
      rw [idx_map (fun a ha b hb => h a (List.mem_cons_of_mem _ ha) b (List.mem_cons_of_mem _ hb)) hp']
section
variable {ts F M : List Nat}
end
theorem bfs_closed {ts : List Tie} {M : List Nat} (d : Det ts) (l : L4 ts) (b : Bfs (sf ts) [0] 0 M) {p c q : Nat} (hp : p ∈ M) (s : Stp ts p c q) : q ∈ M :=
  b.closed (fun j p hj => by omega) p hp c (l4_in l s) q ((sf_iff d).mpr s)
theorem bfs_zero {st : Sf} {M : List Nat} (b : Bfs st [0] 0 M) : 0 ∈ M ∧ M.idxOf 0 = 0 := by
  obtain ⟨m, e⟩ := b.pre
  rw [e]
  exact ⟨List.mem_cons_self, by simp⟩
theorem form_mem {ts F : List Tie} {M : List Nat} (hp : F.Perm ((ts.filter fun t => decide (t.s ∈ M)).map (num M))) {x : Tie} : x ∈ F ↔ ∃ t ∈ ts, t.s ∈ M ∧ x = num M t := by
  rw [hp.mem_iff, List.mem_map]
  constructor
  · rintro ⟨t, ht, rfl⟩
    obtain ⟨a, b⟩ := List.mem_filter.mp ht
    exact ⟨t, a, of_decide_eq_true b, rfl⟩
  · rintro ⟨t, a, b, rfl⟩
    exact ⟨t, List.mem_filter.mpr ⟨a, decide_eq_true b⟩, rfl⟩
theorem form_stp {ts F : List Tie} {M : List Nat} (d : Det ts) (l : L4 ts) (b : Bfs (sf ts) [0] 0 M) (hp : F.Perm ((ts.filter fun t => decide (t.s ∈ M)).map (num M))) {a c z : Nat} :
    Stp F a c z ↔ ∃ p q, p ∈ M ∧ q ∈ M ∧ M.idxOf p = a ∧ M.idxOf q = z ∧ Stp ts p c q := by
  constructor
  · rintro ⟨t, ht, rfl, rfl, rfl⟩
    obtain ⟨x, hx, e⟩ := mem_hf.mp ht
    obtain ⟨t0, h0, hM, rfl⟩ := (form_mem hp).mp hx
    have s : Stp ts t0.s t0.a t0.e := ⟨t0, mem_hf.mpr ⟨t0, h0, .inl rfl⟩, rfl, rfl, rfl⟩
    have hE := bfs_closed d l b hM s
    rcases e with rfl | rfl
    · exact ⟨t0.s, t0.e, hM, hE, rfl, rfl, s⟩
    · exact ⟨t0.e, t0.s, hE, hM, rfl, rfl, s.back (l4_sml l)⟩
  · rintro ⟨p, q, hpM, hqM, rfl, rfl, t, ht, rfl, rfl, rfl⟩
    obtain ⟨t0, h0, e⟩ := mem_hf.mp ht
    rcases e with rfl | rfl
    · exact ⟨num M t, mem_hf.mpr ⟨_, (form_mem hp).mpr ⟨t, h0, hpM, rfl⟩, .inl rfl⟩, rfl, rfl, rfl⟩
    · exact ⟨bk (num M t0), mem_hf.mpr ⟨_, (form_mem hp).mpr ⟨t0, h0, hqM, rfl⟩, .inr rfl⟩, rfl, rfl, rfl⟩
/-- what a form lets round is what the web lets round -/
theorem form_path {ts F : List Tie} {M : List Nat} (d : Det ts) (l : L4 ts) (b : Bfs (sf ts) [0] 0 M) (hp : F.Perm ((ts.filter fun t => decide (t.s ∈ M)).map (num M))) :
    ∀ {w : List Nat} {p q : Nat}, p ∈ M → q ∈ M → (Path F (M.idxOf p) w (M.idxOf q) ↔ Path ts p w q)
  | [], p, q, h1, h2 => ⟨fun e => idx_inj h1 h2 e, fun e => congrArg (fun z => M.idxOf z) (show p = q from e)⟩
  | c :: w, p, q, h1, h2 => by
    constructor
    · rintro ⟨x, s, r⟩
      obtain ⟨p', q', a1, a2, a3, rfl, s'⟩ := (form_stp d l b hp).mp s
      have e := idx_inj a1 h1 a3
      subst e
      exact ⟨q', s', (form_path d l b hp a2 h2).mp r⟩
    · rintro ⟨x, s, r⟩
      have hx := bfs_closed d l b h1 s
      exact ⟨M.idxOf x, (form_stp d l b hp).mpr ⟨p, x, h1, hx, rfl, rfl, s⟩, (form_path d l b hp hx h2).mpr r⟩
theorem Form.acc {ts F : List Tie} (f : Form ts F) (d : Det ts) (l : L4 ts) (w : List Nat) : Path F 0 w 0 ↔ Path ts 0 w 0 := by
  obtain ⟨M, b, hp⟩ := f.ex
  obtain ⟨h0, e0⟩ := bfs_zero b
  have z := form_path d l b hp (w := w) h0 h0
  rw [e0] at z
  exact z
theorem Form.l4 {ts F : List Tie} (f : Form ts F) (l : L4 ts) : L4 F := fun x hx => by
  obtain ⟨M, b, hp⟩ := f.ex
  obtain ⟨t, ht, _, rfl⟩ := (form_mem hp).mp hx
  exact l t ht
theorem Form.det {ts F : List Tie} (f : Form ts F) (d : Det ts) (l : L4 ts) : Det F := fun p c q q' s s' => by
  obtain ⟨M, b, hp⟩ := f.ex
  obtain ⟨a1, a2, a3, a4, rfl, a6, a7⟩ := (form_stp d l b hp).mp s
  obtain ⟨b1, b2, b3, b4, b5, b6, b7⟩ := (form_stp d l b hp).mp s'
  have e := idx_inj b3 a3 b5
  subst e
  rw [← a6, ← b6, d _ _ _ _ a7 b7]
/-! one form -/
theorem tle_anti {t u : Tie} (ht : t.m = []) (hu : u.m = []) (h : tle t u) (k : tle u t) : t = u := by
  obtain ⟨s, a, e, m⟩ := t
  obtain ⟨s', a', e', m'⟩ := u
  unfold tle at h k
  simp only at ht hu h k
  have e1 : s = s' := by omega
  have e2 : a = a' := by omega
  have e3 : e = e' := by omega
  rw [e1, e2, e3, ht, hu]
theorem form_nd {ts F : List Tie} {M : List Nat} (d : Det ts) (l : L4 ts) (nd : (ts.map ky).Nodup) (b : Bfs (sf ts) [0] 0 M) (hp : F.Perm ((ts.filter fun t => decide (t.s ∈ M)).map (num M))) : F.Nodup := by
  rw [hp.nodup_iff]
  have key : ∀ (us : List Tie), (∀ t ∈ us, t ∈ ts) → (us.map ky).Nodup → ((us.filter fun t => decide (t.s ∈ M)).map (num M)).Nodup := by
    intro us
    induction us with
    | nil => intro _ _; exact List.nodup_nil
    | cons t us ih =>
      intro hs hn
      rw [List.map_cons, List.nodup_cons] at hn
      have ih' := ih (fun t ht => hs t (List.mem_cons_of_mem _ ht)) hn.2
      rw [List.filter_cons]
      split
      · rename_i hM
        have hM' : t.s ∈ M := of_decide_eq_true hM
        rw [List.map_cons, List.nodup_cons]
        refine ⟨fun hm => ?_, ih'⟩
        obtain ⟨u, hu, e⟩ := List.mem_map.mp hm
        obtain ⟨hu1, hu2⟩ := List.mem_filter.mp hu
        have hu2' : u.s ∈ M := of_decide_eq_true hu2
        have e1 : M.idxOf u.s = M.idxOf t.s := congrArg Tie.s e
        have e2 : u.a = t.a := (congrArg Tie.a e : (num M u).a = (num M t).a)
        have e3 : M.idxOf u.e = M.idxOf t.e := congrArg Tie.e e
        have st : ∀ x ∈ ts, Stp ts x.s x.a x.e := fun x hx => ⟨x, mem_hf.mpr ⟨x, hx, .inl rfl⟩, rfl, rfl, rfl⟩
        have f1 := idx_inj hu2' hM' e1
        have f3 := idx_inj (bfs_closed d l b hu2' (st u (hs u (List.mem_cons_of_mem _ hu1)))) (bfs_closed d l b hM' (st t (hs t List.mem_cons_self))) e3
        refine hn.1 (List.mem_map.mpr ⟨u, hu1, ?_⟩)
        unfold ky
        rw [f1, e2, f3]
      · exact ih'
  exact key ts (fun _ h => h) nd
theorem form_eq {wl wm : List (List Nat)} {ts us F G : List Tie} (A : Fld wl ts) (B : Fld wm us) (la : L4 ts) (lb : L4 us) (na : (ts.map ky).Nodup) (nb : (us.map ky).Nodup) (f : Form ts F) (g : Form us G)
    (h1 : ∀ w ∈ wl, Path us 0 w 0) (h2 : ∀ w ∈ wm, Path ts 0 w 0) : F = G := by
  obtain ⟨p, p0, mp⟩ := A.mor B h1
  obtain ⟨q, q0, mq⟩ := B.mor A h2
  obtain ⟨M, bM, pM⟩ := f.ex
  obtain ⟨N, bN, pN⟩ := g.ex
  -- to and fro
  have fro : ∀ x, (∃ w, Path ts 0 w x) → q (p x) = x := fun x ⟨w, hw⟩ => by
    have z1 := mp.path hw
    have z2 := mq.path z1
    rw [p0, q0] at z2
    exact A.det.path z2 hw
  have to : ∀ x, (∃ w, Path us 0 w x) → p (q x) = x := fun x ⟨w, hw⟩ => by
    have z1 := mq.path hw
    have z2 := mp.path z1
    rw [q0, p0] at z2
    exact B.det.path z2 hw
  have reach : ∀ {ts : List Tie} {x c y : Nat}, (∃ w, Path ts 0 w x) → Stp ts x c y → ∃ w, Path ts 0 w y := fun {ts x c y} ⟨w, hw⟩ s => ⟨w ++ [c], hw.app ⟨y, s, rfl⟩⟩
  have steps : ∀ {ts us : List Tie} {p q : Nat → Nat}, Det ts → Det us → Mor ts us p → Mor us ts q → (∀ x, (∃ w, Path ts 0 w x) → q (p x) = x) → ∀ x c, (∃ w, Path ts 0 w x) → c ∈ ltrs → sf us (p x) c = (sf ts x c).map p := by
    intro ts us p q dt du mp mq fro x c hx _
    cases e : sf ts x c with
    | some y => exact (sf_iff du).mpr (mp _ _ _ ((sf_iff dt).mp e))
    | none =>
      cases e2 : sf us (p x) c with
      | none => rfl
      | some y =>
        have z := mq _ _ _ ((sf_iff du).mp e2)
        rw [fro x hx] at z
        rw [(sf_iff dt).mpr z] at e
        cases e
  have zero : ∀ {ts : List Tie}, ∃ w, Path ts 0 w 0 := ⟨[], rfl⟩
  have NM : N = M.map p := by
    have z := bM.map (st := sf ts) (su := sf us) (f := p) (C := fun x => ∃ w, Path ts 0 w x) (fun a b ha hb e => by rw [← fro a ha, ← fro b hb, e]) (fun a c b ha e => reach ha ((sf_iff A.det).mp e)) (steps A.det B.det mp mq fro) (fun x hx => by
      rw [List.mem_singleton.mp hx]
      exact zero)
    rw [List.map_cons, List.map_nil, p0] at z
    exact bN.uniq z
  have MN : M = N.map q := by
    have z := bN.map (st := sf us) (su := sf ts) (f := q) (C := fun x => ∃ w, Path us 0 w x) (fun a b ha hb e => by rw [← to a ha, ← to b hb, e]) (fun a c b ha e => reach ha ((sf_iff B.det).mp e)) (steps B.det A.det mq mp to) (fun x hx => by
      rw [List.mem_singleton.mp hx]
      exact zero)
    rw [List.map_cons, List.map_nil, q0] at z
    exact bM.uniq z
  have allR : ∀ {ts : List Tie} {M : List Nat}, Det ts → Bfs (sf ts) [0] 0 M → ∀ x ∈ M, ∃ w, Path ts 0 w x := fun {ts M} d b => b.all (C := fun x => ∃ w, Path ts 0 w x) (fun a c y ha e => reach ha ((sf_iff d).mp e)) (fun x hx => by
    rw [List.mem_singleton.mp hx]
    exact zero)
  -- each of the one is of the other
  have sub : ∀ {ts us F G : List Tie} {M N : List Nat} {p q : Nat → Nat}, Det ts → L4 ts → L4 us → Mor ts us p → (∀ x, (∃ w, Path ts 0 w x) → q (p x) = x) → N = M.map p → Bfs (sf ts) [0] 0 M →
      F.Perm ((ts.filter fun t => decide (t.s ∈ M)).map (num M)) → G.Perm ((us.filter fun t => decide (t.s ∈ N)).map (num N)) → ∀ x ∈ F, x ∈ G := by
    intro ts us F G M N p q dt lt lu mp fro NM bM pM pN x hx
    obtain ⟨t, ht, hM, rfl⟩ := (form_mem pM).mp hx
    have s : Stp ts t.s t.a t.e := ⟨t, mem_hf.mpr ⟨t, ht, .inl rfl⟩, rfl, rfl, rfl⟩
    have hE := bfs_closed dt lt bM hM s
    obtain ⟨u, hu, e1, e2, e3⟩ := mp _ _ _ s
    obtain ⟨u0, h0, e⟩ := mem_hf.mp hu
    have inj : ∀ a ∈ M, ∀ b ∈ M, p a = p b → a = b := fun a ha b hb e => by rw [← fro a (allR dt bM a ha), ← fro b (allR dt bM b hb), e]
    rcases e with rfl | rfl
    · refine (form_mem pN).mpr ⟨u, h0, ?_, ?_⟩
      · rw [e1, NM]
        exact List.mem_map.mpr ⟨_, hM, rfl⟩
      · unfold num
        rw [e1, e2, e3, NM, idx_map inj hM, idx_map inj hE]
    · exfalso
      have z1 := (sw_small (l4_sml lu u0 h0)).1
      have z2 : sw u0.a = t.a := e2
      rw [z2] at z1
      exact small_big (l4_sml lt t ht) z1
  have mem : ∀ x, x ∈ F ↔ x ∈ G := fun x => ⟨sub A.det la lb mp fro NM bM pM pN x, sub B.det lb la mq to MN bN pN pM x⟩
  have hP := (List.perm_ext_iff_of_nodup (form_nd A.det la na bM pM) (form_nd B.det lb nb bN pN)).mpr mem
  have m0 : ∀ {ts F : List Tie} {M : List Nat}, F.Perm ((ts.filter fun t => decide (t.s ∈ M)).map (num M)) → ∀ x ∈ F, x.m = [] := fun {ts F M} hp x hx => by
    obtain ⟨t, _, _, rfl⟩ := (form_mem hp).mp hx
    rfl
  exact hP.eq_of_pairwise (fun a b ha hb h k => tle_anti (m0 pM a ha) (m0 pN b hb) h k) f.srt g.srt
end G1
set_option Elab.async false
set_option linter.all false
set_option maxRecDepth 100000
set_option maxHeartbeats 2000000
/-! Rules that the layer lacks: len and str of an own instance, swapcase. -/
namespace G1
open PySem PySem.Spec PyProof.Rows L2
section
variable {X : Cx} {CX : CXT} {k : Nat} {C f : Addr} {fd : FuncData} {ps : List Str} {sp : Sp} {E : XK}
theorem run_at {A' : Around} {pins : List (Addr × Obj)} {σ : L2.St} {H : Hp} {s : Shared} {Q : VK} {us : List Value} {vs : List V} (F : FnOk X.prog X.w X.K X.mg X.base CX k f fd ps sp) (hr : Room k A')
    (he : Env0 X.prog X.w X.K X.mg X.base A' X.stack s H) (hb : Binds X.K fd ps []) (hx : Passes CX X E) (I : Inv X pins σ H s) (r : Vals vs us) (h : sp vs H Q E) : wpAny (model X.prog X.w) A' (call (.ref f) us) (EP X pins σ Q) X.xe s := by
  have hl : us.length = ps.length := (r.length).symm.trans (F.len _ _ _ _ h)
  have hbi := hb s us I.kIn (by rw [List.append_nil]; exact hl)
  rw [List.append_nil] at hbi
  refine wpAny_call (codeAny_mono (F.run A' X.stack s H ⟨us, []⟩ us vs Q E hr he hbi r h) fun r s' hq => ?_)
  cases r with
  | error er => exact hx pins σ H s er s' I hq
  | ok fl =>
    cases fl with
    | ret u => exact I.after hq
    | next => exact False.elim hq
    | brk => exact False.elim hq
    | cont => exact False.elim hq
/-- len(o), o of a class with an own __len__ -/
def rLenI (C : Addr) (sp : Sp) (E : XK) : List V → Hp → VK → Prop := fun xs H Q => ∃ a dx fs, xs = [.ref a] ∧ H a = some (.ins C dx fs) ∧ sp [.ref a] H (fun v H' => ∃ n : Nat, v = .int n ∧ n < 2 ^ 62 ∧ Q (.int n) H') E
theorem call_lenI (F : FnOk X.prog X.w X.K X.mg X.base CX k f fd ps sp) (hm : Meth X.K C "__len__" f) (hr : Room (k + 1) X.A) (hb : Binds X.K fd ps []) (hx : Passes CX X E) : CallR X (.builtin "len") (rLenI C sp E) := by
  intro pins s σ H xs us Q I r h
  obtain ⟨a, dx, fs, rfl, ha, q⟩ := h
  cases r with
  | cons r1 r2 =>
    cases r2
    cases (show _ = Value.ref a from r1)
    obtain ⟨mA, O, _⟩ := ins_get I.hok ha
    obtain ⟨od, J, _⟩ := O.look
    obtain ⟨m0, Fr0⟩ := I.fr
    refine PySem.W.len_K Fr0 I.mod.kin J hm.at_ hm.fn (wpAny_mono (run_at F hr.in1 I.env0.in1 hb hx I (.cons (show RelV (V.ref a) (Value.ref a) from rfl) .nil) q) (fun v s' hv => ?_) fun _ _ z => z)
    obtain ⟨x, H', I', rx, n, rfl, hn, q'⟩ := hv
    obtain ⟨t, rfl⟩ := (show ∃ t, v = Value.int (n : Int) t from rx)
    refine ⟨⟨by omega, by omega⟩, ?_⟩
    exact ⟨.int n, H', I'.tok _, ⟨_, rfl⟩, q'⟩
end
section
variable {prog : Program} {w : World} {A : Around} {E : Value → Shared → Prop} {s : Shared} {K : PySem.W.Frag} {x C f : Addr} {ox : Obj} {od : Option Obj}
open PySem.W Builtin Builtin.Str in
/-- str(o), o of a class with an own __str__, over the library's own machine -/
theorem str_own {R : Value → Shared → Prop} (room : A.in1.in1.units < cLine) (XK : K.In s.heap) (IA : InstAt s.heap x ox C od) (hs : findIn K (.ref C) "__str__" = some (some (.ref f))) (hf : isFn K (.ref f) = true)
    (h : wpAny (model prog w) A.in1.in1 (call (.ref f) [.ref x]) (StrBack R) E s) : wpAny (model prog w) A (call (.type "str") [.ref x]) R E s := by
  refine callType_codes (T := "str") (Bi := Builtin.«object.__init__») (Q₁ := fun b s₁ => ∃ y u, b = .str y u ∧ R b s₁) PySem.F.called_str (PySem.F.typeCall_str_1 _) PySem.F.entry_object_init ?tree ?init
  case tree =>
    refine codeAny_of_tree ?_
    show wpAny _ A.in1.in1 (do
      checkBuiltinCall "str.__new__" ⟨[.type "str", .ref x], []⟩
      again (.builtin "str.__new__" ⟨[.type "str", .ref x], []⟩)) _ _ s
    refine wpAny_bind (wpAny_of_eq (PySem.F.newCall_str_1 _) (wpAny_pure ⟨plainId_quiet (by decide +kernel) _, codeAny_builtin PySem.F.entry_str_new ?_⟩))
    rw [Around.under_plainId (by decide +kernel) _, str_new_tree]
    refine wpAny_bind (wpAny_pure ?_)
    refine wpAny_bind (wpAny_of_eq isSubtype_str_str ?_)
    have own : wpAny (model prog w) A.in1.in1 (PySem.Builtin.Str.strOf (.ref x)) (fun b s₁ => ∃ y u, b = .str y u ∧ R b s₁) E s := by
      unfold PySem.Builtin.Str.strOf
      rw [show isExactStr (.ref x) = false from rfl]
      refine wpAny_bind (m := cRoomFor _ _) (wpAny_cRoomFor room ?_)
      refine wpAny_bind (m := callSpecial? (.ref x) (PySem.Str.ofString "__str__")) (special_fn XK IA hs (beq_iff_eq.mp hf) (wpAny_mono h (fun b s' z => ?_) fun _ _ y => y))
      cases b <;> first | exact z.elim | exact wpAny_pure ⟨_, _, rfl, z⟩
    exact wpAny_bind (wpAny_mono own (fun _ _ hb => wpAny_pure hb) fun _ _ y => y)
  case init =>
    rintro obj s₁ ⟨y, u, rfl, hq⟩
    exact ⟨typeIs_str _ _ _, PySem.F.args_object_init_2 _ _, object_init_meets PySem.F.called_str.init.lookup PySem.F.called_str.made (by decide) prog w A.in1 _ s₁ ⟨typeIs_str _ _ _, rfl, hq⟩⟩
end
section
variable {X : Cx} {CX : CXT} {k : Nat} {C f : Addr} {fd : FuncData} {ps : List Str} {sp : Sp} {E : XK}
def rStrI (C : Addr) (sp : Sp) (E : XK) : List V → Hp → VK → Prop := fun xs H Q => ∃ a dx fs, xs = [.ref a] ∧ H a = some (.ins C dx fs) ∧ sp [.ref a] H (fun v H' => ∃ z, v = .str z ∧ Q (.str z) H') E
theorem call_strI (F : FnOk X.prog X.w X.K X.mg X.base CX k f fd ps sp) (hm : Meth X.K C "__str__" f) (hr : Room (k + 2) X.A) (hb : Binds X.K fd ps []) (hx : Passes CX X E) : CallR X (.type "str") (rStrI C sp E) := by
  intro pins s σ H xs us Q I r h
  obtain ⟨a, dx, fs, rfl, ha, q⟩ := h
  cases r with
  | cons r1 r2 =>
    cases r2
    cases (show _ = Value.ref a from r1)
    obtain ⟨mA, O, _⟩ := ins_get I.hok ha
    obtain ⟨od, J, _⟩ := O.look
    have hr2 : Room k X.A.in1.in1 := hr.in1.in1
    have hu : X.A.in1.in1.units < cLine := by have z := hr2.un; omega
    refine str_own hu I.kIn J hm.at_ hm.fn (wpAny_mono (run_at F hr2 I.env0.in1.in1 hb hx I (.cons (show RelV (V.ref a) (Value.ref a) from rfl) .nil) q) (fun v s' hv => ?_) fun _ _ z => z)
    obtain ⟨y, H', I', ry, z, rfl, q'⟩ := hv
    obtain ⟨t, rfl⟩ := (show ∃ t, v = Value.str z t from ry)
    exact ⟨.str z, H', I', ⟨_, rfl⟩, q'⟩
end
#check @L2.mt_lower
#print L2.Meth
end G1
set_option Elab.async false
set_option linter.all false
set_option maxRecDepth 100000
set_option maxHeartbeats 2000000
/-! Rules that the layer lacks: swapcase, enumerate of a text and of a tuple. -/
namespace G1
open PySem PySem.Spec PyProof.Rows L2
theorem mt_swapcase {X : Cx} : MtR X "str.swapcase" (fun x xs H Q => ∃ a, x = .str a ∧ xs = [] ∧ a.length ≤ 5592405 ∧ Q (.str (Txt.swapcase a)) H) :=
  mt0 (C := fun a => a.length ≤ 5592405) (g := fun a => .str (Txt.swapcase a)) fun a _ s _ hc q =>
    PySem.SC.swapcase (PyProof.Rows.fit_swapcase hc) (q _ (s.toks + 1) ⟨_, rfl⟩)
/-! enumerate(text) -/
def EnS (z : Str) : It :=
  ⟨fun i _ => i < z.cps.size, fun i H v H' => ∃ T c, v = .ref T ∧ H T = none ∧ H' = upd H T (.tup [.int (i : Nat), .str ⟨#[c]⟩]) ∧ z.cps[i]? = some c, fun i _ => i = z.cps.size⟩
theorem turn_enS {P : Program} {w : World} {K : PySem.W.Frag} {elts : List Expr} {kk : Nat} {tpos : Pos} (z : Str) (tk0 : Tok) (e it : Addr) :
    Turn P w K (.Tuple elts kk tpos) (EnS z) [e, it] e (fun i h => (∃ old, IsEnum h e it (i : Nat) old) ∧ h.IsStrIter it (strIterType z) z tk0 i ∧ e ≠ it) where
  mem := by simp
  obj := fun i h st b hb => by
    obtain ⟨⟨old, he⟩, ⟨o, ho, hc, hd⟩, _⟩ := st
    rcases (show b = e ∨ b = it by simpa using hb) with y | y
    · rw [y]
      exact ⟨_, he, fun v q => nomatch q⟩
    · rw [y]
      exact ⟨o, ho, fun v q => by rw [hd] at q; cases q⟩
  keep := fun i h h' st kp => by
    obtain ⟨⟨old, he⟩, ⟨o, ho, r⟩, hne⟩ := st
    exact ⟨⟨old, kp e (by simp) _ he⟩, ⟨o, kp it (by simp) _ ho, r⟩, hne⟩
  item := by
    intro X hP hw hK hc i pins s σ H E I hf st hg
    subst hP hw hK
    obtain ⟨⟨old, he⟩, hit, hne⟩ := st
    have hel := Heap.lt_size he
    have hil : it < s.heap.objs.size := by obtain ⟨_, q, _⟩ := id hit; exact Heap.lt_size q
    refine wpAny_pyNext_enum_itemD (Draws.text (show X.A.in1.handled = none from I.ok.hd hc) it z tk0) he hit hg hne (by simp [hne]) fun y h' tk hP ho hit' hT hsz hk => ?_
    obtain ⟨c, u, hcp, rfl⟩ := hP
    refine ⟨_, rfl, wpAny_letOwnedTupleGo_enum (s := { s with heap := h', toks := tk + 1 }) ho fun h2 he' sb => ?_⟩
    have hT2 : h2.get? s.heap.objs.size = some { cls := .type "tuple", data := .seq #[.int i tk, .str ⟨#[c]⟩ u] } := (sb.2 _ (Nat.ne_of_gt hel)).trans hT
    have fresh : ObjOk X.prog X.w (upd H s.heap.objs.size (.tup [.int (i : Nat), .str ⟨#[c]⟩])) h2 s.heap.objs.size (.tup [.int (i : Nat), .str ⟨#[c]⟩]) :=
      ⟨by show 2 ≤ sizeLine; decide, [.int i tk, .str ⟨#[c]⟩ u], .cons ⟨_, rfl⟩ (.cons ⟨_, rfl⟩ .nil), ⟨_, hT2, rfl, _, rfl⟩⟩
    have I1 : Inv X pins σ (upd H s.heap.objs.size (.tup [.int (i : Nat), .str ⟨#[c]⟩])) { s with heap := h2, toks := tk + 1 } :=
      I.turnedNew (ch := [e, it]) (fun b ob hb q => (sb.2 b (fun y => hb (by simp [y]))).trans (hk b ob (fun y => hb (by simp [y])) (fun y => hb (by simp [y])) q)) hf (Nat.le_refl _) fresh
    refine ⟨.ref s.heap.objs.size, _, I1, rfl, ⟨_, c, rfl, I.hok.fresh (Nat.le_refl _), rfl, hcp⟩, ⟨⟨.str ⟨#[c]⟩ u, ?_⟩, ?_, hne⟩, fun b hb => ?_⟩
    · have e1 : ((i + 1 : Nat) : Int) = (i : Int) + 1 := by omega
      rw [e1]
      exact he'
    · obtain ⟨o2, ho2, r2⟩ := hit'
      exact ⟨o2, (sb.2 it (Ne.symm hne)).trans ho2, r2⟩
    · have hb' : b < s.heap.objs.size := by
        rcases (show b = e ∨ b = it by simpa using hb) with y | y
        · rw [y]; exact hel
        · rw [y]; exact hil
      rw [upd_ne (Nat.ne_of_lt hb')]
      exact (hf b hb).1
  done := by
    intro X hP hw hK hc i pins s σ H E I hf st hg
    subst hP hw hK
    obtain ⟨⟨old, he⟩, hit, hne⟩ := st
    have hi : i = z.cps.size := hg
    subst hi
    obtain ⟨f0, f1, f2, f3, f4, f5⟩ := hf it (by simp)
    exact wpAny_pyNext_enum_endD (Draws.text (show X.A.in1.handled = none from I.ok.hd hc) it z tk0) he hit fun h' eb => ⟨rfl, I.turned (t' := s.toks) (fun b o hb q => eb b o hb q) f0 f1 f3 f4 f5⟩
  self := fun A i s Q E st h => by
    obtain ⟨⟨_, he⟩, _⟩ := st
    exact wpAny_pyIter_enum he h
def iEnumS (ta : TA) : TI := fun σ H R => ta σ H fun vs H1 => ∃ z, vs = [.str z] ∧ R (EnS z) H1
theorem pi_enumS {X : Cx} {e : Expr} {ta : TA} {p pos tpos : Pos} {elts : List Expr} {kk : Nat} (hg : Gl X "enumerate") (hm : X.mg "enumerate" = none) (ha : PA X [e] ta) (hst : starEach [e] X.env = [(false, eval e X.env)] := by rfl) :
    PI X (.Tuple elts kk tpos) (.Call (.Name "enumerate" p) [e] [] pos) (iEnumS ta) := by
  refine ⟨fun pins s σ H R I h => ?_⟩
  refine Call_ (ld_blt I hg hm boot_enumerate (PyProof.Rows.callWith_type1 (thn (ha.run pos pins s σ H _ I h) fun us s1 ⟨vs, H1, I1, r1, q1⟩ => ?_) hst rfl))
  obtain ⟨z, ex, q⟩ := q1
  subst ex
  cases r1 with
  | cons r rr =>
    cases rr
    obtain ⟨tk0, rfl⟩ := (show ∃ t, _ = Value.str z t from r)
    refine call_enumerate_str fun h' he hit hsz hk => wpAny_pyIter_enum he ?_
    have I2 : Inv X pins σ H1 { s1 with heap := h' } := I1.kept (t' := s1.toks) hk
    refine ⟨s1.heap.objs.size + 1, [s1.heap.objs.size + 1, s1.heap.objs.size], _, _, H1, rfl, I2, turn_enS z tk0 (s1.heap.objs.size + 1) s1.heap.objs.size, ⟨⟨.none, he⟩, hit, Nat.succ_ne_self _⟩, fun b hb => ?_, q⟩
    have hle : s1.heap.objs.size ≤ b := by
      rcases (show b = s1.heap.objs.size + 1 ∨ b = s1.heap.objs.size by simpa using hb) with y | y
      · rw [y]; exact Nat.le_add_right _ _
      · rw [y]; exact Nat.le_refl _
    exact I1.fpOk hle (I1.hok.fresh hle)
theorem walk_enS {z : Str} : Walk (EnS z) z.cps.size (fun _ => True) (YPair (fun i => some (.int (i : Nat))) (fun i => (z.cps[i]?).map fun c => .str ⟨#[c]⟩)) := by
  refine ⟨fun _ _ hi _ => hi, fun _ _ => rfl, fun i H v H' _ _ y => ?_⟩
  obtain ⟨T, c, h1, h2, h3, h4⟩ := y
  exact ⟨T, .int (i : Nat), .str ⟨#[c]⟩, h1, h2, h3, rfl, by
    show (z.cps[i]?).map _ = _
    rw [h4]
    rfl⟩
/-! enumerate(tuple) -/
set_option maxHeartbeats 1000000 in
theorem meets_en1 {v : Value} {o : Obj} {G : Heap → Prop} (B : Begins v o G) :
    Meets (Builtin.«enumerate.__new__» ⟨[.type "enumerate", v], []⟩) (fun _ R s => G s.heap ∧
      R (.ok (.ret (.ref (s.heap.push o).objs.size)))
        { s with heap := (s.heap.push o).push { cls := .type "enumerate", data := .fields #[.none, .bool false, .ref s.heap.objs.size, rawInt 0, .none, .none] } }) :=
  .of_wp fun prog w A R s h => by
    obtain ⟨hp, gn, dr, tk, os⟩ := s
    obtain ⟨h1, h⟩ := h
    have hsub := sub_enumerate
    have qi : ∀ {A' : Around} {E : Value → Shared → Prop} {Q : Value → Shared → Prop}, Q (.ref hp.objs.size) ⟨hp.push o, gn, dr, tk, os⟩ → wpAny (model prog w) A' (pyIter v) Q E ⟨hp, gn, dr, tk, os⟩ :=
      fun q => B.iter prog w _ _ ⟨hp, gn, dr, tk, os⟩ _ h1 q
    wp_walk using qi
    refine wpAny_stack_any fun stk => wpAny_pure ?_
    split
    · rename_i cc _ _ _ _ _
      cases (cc == Value.type "enumerate")
      · wp_walk using qi
        exact ⟨_, rfl, h⟩
      · wp_walk using qi
        exact ⟨_, rfl, h⟩
    · wp_walk using qi
      exact ⟨_, rfl, h⟩
theorem en1_begins {prog : Program} {w : World} {A : Around} {E : Value → Shared → Prop} {s : Shared} {v : Value} {o : Obj} {G : Heap → Prop} {Q : Value → Shared → Prop} (B : Begins v o G) (h1 : G s.heap)
    (h : ∀ h', IsEnum h' (s.heap.objs.size + 1) s.heap.objs.size 0 .none → h'.get? s.heap.objs.size = some o → (∀ b ob, s.heap.get? b = some ob → h'.get? b = some ob) → Q (.ref (s.heap.objs.size + 1)) { s with heap := h' }) :
    wpAny (model prog w) A (call (.type "enumerate") [v]) Q E s := by
  refine callType_new F.called_enumerate (by decide) (F.typeCall_enumerate_1 _) (F.newCall_enumerate_1 _) (fun ob => F.args_object_init_2 ob _) F.entry_enumerate_new (meets_en1 B) ⟨h1, ?_⟩
  have sz : (s.heap.push o).objs.size = s.heap.objs.size + 1 := Heap.size_push ..
  show _ ∧ _
  rw [sz]
  have he : IsEnum ((s.heap.push o).push { cls := .type "enumerate", data := .fields #[.none, .bool false, .ref s.heap.objs.size, rawInt 0, .none, .none] }) (s.heap.objs.size + 1) s.heap.objs.size 0 .none := by
    have z := Heap.get?_push_size (s.heap.push o) (o := { cls := .type "enumerate", data := .fields #[.none, .bool false, .ref s.heap.objs.size, rawInt 0, .none, .none] }) rfl
    rw [sz] at z
    exact z
  exact ⟨⟨_, he, rfl⟩, h _ he (Heap.get?_push_of_some _ (Heap.get?_push_size _ B.free)) fun b ob y => Heap.get?_push_of_some _ (Heap.get?_push_of_some _ y)⟩
def EnT (K : PySem.W.Frag) (a : Addr) : It :=
  ⟨fun i H => ∃ (xs : List V) (x : V), SqT K H a xs ∧ xs[i]? = some x, fun i H v H' => ∃ T x, v = .ref T ∧ H T = none ∧ H' = upd H T (.tup [.int (i : Nat), x]) ∧ ∀ xs, SqT K H a xs → xs[i]? = some x, fun i H => ∃ xs : List V, SqT K H a xs ∧ xs.length = i⟩
theorem turn_enT {P : Program} {w : World} {K : PySem.W.Frag} {elts : List Expr} {kk : Nat} {tpos : Pos} (a e it : Addr) :
    Turn P w K (.Tuple elts kk tpos) (EnT K a) [e, it] e (fun i h => (∃ old, IsEnum h e it (i : Nat) old) ∧ h.IsTupleIter it a i ∧ e ≠ it) where
  mem := by simp
  obj := fun i h st b hb => by
    obtain ⟨⟨old, he⟩, ⟨o, ho, hc, hd⟩, _⟩ := st
    rcases (show b = e ∨ b = it by simpa using hb) with y | y
    · rw [y]
      exact ⟨_, he, fun v q => nomatch q⟩
    · rw [y]
      exact ⟨o, ho, fun v q => by rw [hd] at q; cases q⟩
  keep := fun i h h' st kp => by
    obtain ⟨⟨old, he⟩, ⟨o, ho, r⟩, hne⟩ := st
    exact ⟨⟨old, kp e (by simp) _ he⟩, ⟨o, kp it (by simp) _ ho, r⟩, hne⟩
  item := by
    intro X hP hw hK hc i pins s σ H E I hf st hg
    subst hP hw hK
    obtain ⟨⟨old, he⟩, hit, hne⟩ := st
    obtain ⟨xs, x, hq, hx⟩ := hg
    obtain ⟨its, rv, p, _⟩ := I.tuple hq
    have hel := Heap.lt_size he
    have hil : it < s.heap.objs.size := by obtain ⟨_, q, _⟩ := id hit; exact Heap.lt_size q
    have isT : s.heap.IsTuple a its.toArray := p
    have hea : e ≠ a := fun y => by
      obtain ⟨o, ho, hcl, _⟩ := isT
      rw [← y, he] at ho
      cases ho
      exact absurd (Value.type.inj hcl) (by decide)
    have hia : a ≠ it := fun y => by
      obtain ⟨o, ho, hcl, _⟩ := isT
      obtain ⟨o2, ho2, hcl2, _⟩ := hit
      rw [y, ho2] at ho
      cases ho
      rw [hcl2] at hcl
      exact absurd (Value.type.inj hcl) (by decide)
    have hlt : i < its.toArray.size := by
      have z := (List.getElem?_eq_some_iff.mp hx).1
      have z2 := rv.length
      simp only [List.size_toArray]
      omega
    refine wpAny_pyNext_enum_itemD (Draws.tuple (show X.A.in1.handled = none from I.ok.hd hc) it a hia its.toArray) he ⟨hit, isT⟩ hlt hne (by simp [hne, hea]) fun y h' tk hP ho hit' hT hsz hk => ?_
    obtain ⟨u, hu, ru⟩ := rv.get hx
    have hy : y = u := by
      have z : its[i]? = some y := by simpa using hP
      rw [hu] at z
      exact (Option.some.inj z).symm
    subst hy
    refine ⟨_, rfl, wpAny_letOwnedTupleGo_enum (s := { s with heap := h', toks := tk + 1 }) ho fun h2 he' sb => ?_⟩
    have hT2 : h2.get? s.heap.objs.size = some { cls := .type "tuple", data := .seq #[.int i tk, y] } := (sb.2 _ (Nat.ne_of_gt hel)).trans hT
    have fresh : ObjOk X.prog X.w (upd H s.heap.objs.size (.tup [.int (i : Nat), x])) h2 s.heap.objs.size (.tup [.int (i : Nat), x]) :=
      ⟨by show 2 ≤ sizeLine; decide, [.int i tk, y], .cons ⟨_, rfl⟩ (.cons ru .nil), ⟨_, hT2, rfl, _, rfl⟩⟩
    have I1 : Inv X pins σ (upd H s.heap.objs.size (.tup [.int (i : Nat), x])) { s with heap := h2, toks := tk + 1 } :=
      I.turnedNew (ch := [e, it]) (fun b ob hb q => (sb.2 b (fun y => hb (by simp [y]))).trans (hk b ob (fun y => hb (by simp [y])) (fun y => hb (by simp [y])) q)) hf (Nat.le_refl _) fresh
    refine ⟨.ref s.heap.objs.size, _, I1, rfl, ⟨_, x, rfl, I.hok.fresh (Nat.le_refl _), rfl, fun ys hy => by rw [I.tuple_inj hy hq]; exact hx⟩, ⟨⟨y, ?_⟩, ?_, hne⟩, fun b hb => ?_⟩
    · have e1 : ((i + 1 : Nat) : Int) = (i : Int) + 1 := by omega
      rw [e1]
      exact he'
    · obtain ⟨⟨o2, ho2, r2⟩, _⟩ := hit'
      exact ⟨o2, (sb.2 it (Ne.symm hne)).trans ho2, r2⟩
    · have hb' : b < s.heap.objs.size := by
        rcases (show b = e ∨ b = it by simpa using hb) with y | y
        · rw [y]; exact hel
        · rw [y]; exact hil
      rw [upd_ne (Nat.ne_of_lt hb')]
      exact (hf b hb).1
  done := by
    intro X hP hw hK hc i pins s σ H E I hf st hg
    subst hP hw hK
    obtain ⟨⟨old, he⟩, hit, hne⟩ := st
    obtain ⟨xs, hq, hx⟩ := hg
    obtain ⟨its, rv, p, _⟩ := I.tuple hq
    have isT : s.heap.IsTuple a its.toArray := p
    have hia : a ≠ it := fun y => by
      obtain ⟨o, ho, hcl, _⟩ := isT
      obtain ⟨o2, ho2, hcl2, _⟩ := hit
      rw [y, ho2] at ho
      cases ho
      rw [hcl2] at hcl
      exact absurd (Value.type.inj hcl) (by decide)
    have hn : i = its.toArray.size := by
      have z2 := rv.length
      simp only [List.size_toArray]
      omega
    subst hn
    obtain ⟨f0, f1, f2, f3, f4, f5⟩ := hf it (by simp)
    exact wpAny_pyNext_enum_endD (Draws.tuple (show X.A.in1.handled = none from I.ok.hd hc) it a hia its.toArray) he ⟨hit, isT⟩ fun h' eb => ⟨rfl, I.turned (t' := s.toks) (fun b o hb q => eb b o hb q) f0 f1 f3 f4 f5⟩
  self := fun A i s Q E st h => by
    obtain ⟨⟨_, he⟩, _⟩ := st
    exact wpAny_pyIter_enum he h
def iEnumT (K : PySem.W.Frag) (ta : TA) : TI := fun σ H R => ta σ H fun vs H1 => ∃ a xs, vs = [.ref a] ∧ SqT K H1 a xs ∧ R (EnT K a) H1
theorem pi_enumT {X : Cx} {e : Expr} {ta : TA} {p pos tpos : Pos} {elts : List Expr} {kk : Nat} (hg : Gl X "enumerate") (hm : X.mg "enumerate" = none) (ha : PA X [e] ta) (hst : starEach [e] X.env = [(false, eval e X.env)] := by rfl) :
    PI X (.Tuple elts kk tpos) (.Call (.Name "enumerate" p) [e] [] pos) (iEnumT X.K ta) := by
  refine ⟨fun pins s σ H R I h => ?_⟩
  refine Call_ (ld_blt I hg hm boot_enumerate (PyProof.Rows.callWith_type1 (thn (ha.run pos pins s σ H _ I h) fun us s1 ⟨vs, H1, I1, r1, q1⟩ => ?_) hst rfl))
  obtain ⟨a, xs, ex, hq, q⟩ := q1
  subst ex
  cases r1 with
  | cons r rr =>
    cases rr
    cases r
    obtain ⟨its, rv, p', _⟩ := I1.tuple hq
    refine en1_begins (begins_tuple a its.toArray) p' fun h' he hit hk => wpAny_pyIter_enum he ?_
    have I2 : Inv X pins σ H1 { s1 with heap := h' } := I1.kept (t' := s1.toks) hk
    refine ⟨s1.heap.objs.size + 1, [s1.heap.objs.size + 1, s1.heap.objs.size], _, _, H1, rfl, I2, turn_enT a (s1.heap.objs.size + 1) s1.heap.objs.size, ⟨⟨.none, he⟩, ⟨_, hit, rfl, rfl⟩, Nat.succ_ne_self _⟩, fun b hb => ?_, q⟩
    have hle : s1.heap.objs.size ≤ b := by
      rcases (show b = s1.heap.objs.size + 1 ∨ b = s1.heap.objs.size by simpa using hb) with y | y
      · rw [y]; exact Nat.le_add_right _ _
      · rw [y]; exact Nat.le_refl _
    exact I1.fpOk hle (I1.hok.fresh hle)
theorem walk_enT {K : PySem.W.Frag} {a : Addr} {xs : List V} : Walk (EnT K a) xs.length (fun H => SqT K H a xs) (YPair (fun i => some (.int (i : Nat))) (fun i => xs[i]?)) := by
  refine ⟨fun i _ hi q => ⟨xs, xs[i], q, by simp [hi]⟩, fun _ q => ⟨xs, q, rfl⟩, fun i H v H' _ q y => ?_⟩
  obtain ⟨T, x, h1, h2, h3, h4⟩ := y
  exact ⟨T, .int (i : Nat), x, h1, h2, h3, rfl, h4 xs q⟩
end G1
set_option Elab.async false
set_option linter.all false
set_option maxRecDepth 100000
set_option maxHeartbeats 2000000
/-! The text's facts, data as values. -/
namespace G1
open PySem PySem.Spec PyProof.Rows L2
abbrev FnP (K : PySem.W.Frag) (x q : Str) (st : Stmt) (f : Addr) (fd : FuncData) : Prop := FunD K x q (defArgs st) (defBody st) (defScope st) [] [] f fd
/-- a def of the top, by its name -/
def DefAt (K : PySem.W.Frag) (mg : Str → Option Value) (x : Str) (st : Stmt) : Prop := ∃ f fd, FnP K x x st f fd ∧ mg x = some (.ref f)
/-- a def of a class -/
def MetAt (K : PySem.W.Frag) (C : Addr) (x q : Str) (st : Stmt) : Prop := ∃ f fd, FnP K x q st f fd ∧ Meth K C x f
/-- a def that may be called by its name -/
structure Cal (P : Program) (w : World) (K : PySem.W.Frag) (mg : Str → Option Value) (base : Heap) (k : Nat) (x : Str) (sp : Sp) : Prop where
  ex : ∃ (f : Addr) (fd : FuncData) (ps : List Str), FnOk P w K mg base CX0 k f fd ps sp ∧ mg x = some (.ref f) ∧ PySem.W.keepIn K (.ref f) = true ∧ Binds K fd ps []
section
variable {P : Program} {w : World} {K : PySem.W.Frag} {mg : Str → Option Value} {base : Heap}
theorem Cal.mono {j k : Nat} {x : Str} {sp : Sp} (c : Cal P w K mg base j x sp) (h : j ≤ k) : Cal P w K mg base k x sp := by
  obtain ⟨f, fd, ps, F, a⟩ := c.ex
  exact ⟨f, fd, ps, F.mono h, a⟩
/-- .. with its parameters and its text -/
structure CalX (P : Program) (w : World) (K : PySem.W.Frag) (mg : Str → Option Value) (base : Heap) (k : Nat) (x : Str) (ps : List Str) (st : Stmt) (sp : Sp) : Prop where
  ex : ∃ (f : Addr) (fd : FuncData), FnOk P w K mg base CX0 k f fd ps sp ∧ mg x = some (.ref f) ∧ PySem.W.keepIn K (.ref f) = true ∧ Binds K fd ps [] ∧ FnP K x x st f fd
theorem CalX.cal {k : Nat} {x : Str} {ps : List Str} {st : Stmt} {sp : Sp} (c : CalX P w K mg base k x ps st sp) : Cal P w K mg base k x sp := by
  obtain ⟨f, fd, a, b, c, d, _⟩ := c.ex
  exact ⟨f, fd, ps, a, b, c, d⟩
/-- the promise of a def by its body -/
theorem calx {x : Str} {st : Stmt} {N ps : List Str} {k : Nat} {sp : Sp} (D : DefAt K mg x st) (S : FnScope N ps (defScope st)) (len : ∀ vs H Q E, sp vs H Q E → vs.length = ps.length)
    (hb : ∀ (kV doc pm : Value) (an : Option Addr) (cdv ct : Value) (us : List Value), us.length = ps.length → bindArgs (PySem.W.fnOf x x (defArgs st) (defBody st) (defScope st) .none kV doc pm an cdv ct) ⟨us, []⟩ = pure (ps.zip us))
    (hbody : ∀ (f : Addr) (cdv : Value) (A : Around) (outer : List Env) (s : Shared) (H : Hp) (vs : List V) (Q : VK) (E : XK), Room k (A.deeper (envOfC x (defScope st) s.heap.objs.size f cdv)) → sp vs H Q E →
      ∃ t, PSs (cxOf CX0 P w K mg base N x (defScope st) f cdv A outer s H E).nox (defBody st) t ∧ t { nx := fun _ H' => Q .non H', rt := Q } (start N vs) H) : CalX P w K mg base (k + 1) x ps st sp := by
  obtain ⟨f, fd, F, hm⟩ := D
  exact ⟨f, fd, F.ok S len fun cdv A outer s H vs Q E hr h => (hbody f cdv A outer s H vs Q E hr h).elim fun t z => ⟨t, PSs.nox z.1, z.2⟩, hm, F.kp, FunD.bindsN F hb, F⟩
theorem cal {x : Str} {st : Stmt} {N ps : List Str} {k : Nat} {sp : Sp} (D : DefAt K mg x st) (S : FnScope N ps (defScope st)) (len : ∀ vs H Q E, sp vs H Q E → vs.length = ps.length)
    (hb : ∀ (kV doc pm : Value) (an : Option Addr) (cdv ct : Value) (us : List Value), us.length = ps.length → bindArgs (PySem.W.fnOf x x (defArgs st) (defBody st) (defScope st) .none kV doc pm an cdv ct) ⟨us, []⟩ = pure (ps.zip us))
    (hbody : ∀ (f : Addr) (cdv : Value) (A : Around) (outer : List Env) (s : Shared) (H : Hp) (vs : List V) (Q : VK) (E : XK), Room k (A.deeper (envOfC x (defScope st) s.heap.objs.size f cdv)) → sp vs H Q E →
      ∃ t, PSs (cxOf CX0 P w K mg base N x (defScope st) f cdv A outer s H E).nox (defBody st) t ∧ t { nx := fun _ H' => Q .non H', rt := Q } (start N vs) H) : Cal P w K mg base (k + 1) x sp := (calx D S len hb hbody).cal
end
/-- a method of the class at C -/
structure Met (P : Program) (w : World) (K : PySem.W.Frag) (mg : Str → Option Value) (base : Heap) (k : Nat) (C : Addr) (m : Str) (sp : Sp) : Prop where
  ex : ∃ (f : Addr) (fd : FuncData) (ps : List Str), Cls K C ∧ Meth K C m f ∧ FnOk P w K mg base CX0 k f fd ps sp ∧ Binds K fd ps []
/-- a class that is made by its name -/
structure Mak (P : Program) (w : World) (K : PySem.W.Frag) (mg : Str → Option Value) (base : Heap) (k : Nat) (x : Str) (C : Addr) (sp : Sp) : Prop where
  ex : ∃ (f : Addr) (fd : FuncData) (ps : List Str), L2.Mk K C f ∧ FnOk P w K mg base CX0 k f fd ps sp ∧ mg x = some (.ref C) ∧ Binds K fd ps []
/-- a property of the class at C -/
structure Prp (P : Program) (w : World) (K : PySem.W.Frag) (mg : Str → Option Value) (base : Heap) (k : Nat) (C : Addr) (m : Str) (sp : Sp) : Prop where
  ex : ∃ (p g : Addr) (fd : FuncData) (ps : List Str), Cls K C ∧ PropOf K C m p g ∧ FnOk P w K mg base CX0 k g fd ps sp ∧ Binds K fd ps []
section
variable {P : Program} {w : World} {K : PySem.W.Frag} {mg : Str → Option Value} {base : Heap}
theorem metc {x q : Str} {C : Addr} {st : Stmt} {N ps : List Str} {k : Nat} {sp : Sp} (c : Cls K C) (D : MetAt K C x q st) (S : FnScope N ps (defScope st)) (len : ∀ vs H Q E, sp vs H Q E → vs.length = ps.length)
    (hb : ∀ (kV doc pm : Value) (an : Option Addr) (cdv ct : Value) (us : List Value), us.length = ps.length → bindArgs (PySem.W.fnOf x q (defArgs st) (defBody st) (defScope st) .none kV doc pm an cdv ct) ⟨us, []⟩ = pure (ps.zip us))
    (hbody : ∀ (f : Addr) (cdv : Value) (A : Around) (outer : List Env) (s : Shared) (H : Hp) (vs : List V) (Q : VK) (E : XK), Room k (A.deeper (envOfC q (defScope st) s.heap.objs.size f cdv)) → sp vs H Q E →
      ∃ t, PSs (cxOf CX0 P w K mg base N q (defScope st) f cdv A outer s H E).nox (defBody st) t ∧ t { nx := fun _ H' => Q .non H', rt := Q } (start N vs) H) : Met P w K mg base (k + 1) C x sp := by
  obtain ⟨f, fd, F, hm⟩ := D
  exact ⟨f, fd, ps, c, hm, F.ok S len fun cdv A outer s H vs Q E hr h => (hbody f cdv A outer s H vs Q E hr h).elim fun t z => ⟨t, PSs.nox z.1, z.2⟩, FunD.bindsN F hb⟩
theorem makc {x y q : Str} {C : Addr} {st : Stmt} {N ps : List Str} {k : Nat} {sp : Sp} (D : ∃ f fd, FnP K x q st f fd ∧ L2.Mk K C f) (hm : mg y = some (.ref C)) (S : FnScope N ps (defScope st)) (len : ∀ vs H Q E, sp vs H Q E → vs.length = ps.length)
    (hb : ∀ (kV doc pm : Value) (an : Option Addr) (cdv ct : Value) (us : List Value), us.length = ps.length → bindArgs (PySem.W.fnOf x q (defArgs st) (defBody st) (defScope st) .none kV doc pm an cdv ct) ⟨us, []⟩ = pure (ps.zip us))
    (hbody : ∀ (f : Addr) (cdv : Value) (A : Around) (outer : List Env) (s : Shared) (H : Hp) (vs : List V) (Q : VK) (E : XK), Room k (A.deeper (envOfC q (defScope st) s.heap.objs.size f cdv)) → sp vs H Q E →
      ∃ t, PSs (cxOf CX0 P w K mg base N q (defScope st) f cdv A outer s H E).nox (defBody st) t ∧ t { nx := fun _ H' => Q .non H', rt := Q } (start N vs) H) : Mak P w K mg base (k + 1) y C sp := by
  obtain ⟨f, fd, F, mk⟩ := D
  exact ⟨f, fd, ps, mk, F.ok S len fun cdv A outer s H vs Q E hr h => (hbody f cdv A outer s H vs Q E hr h).elim fun t z => ⟨t, PSs.nox z.1, z.2⟩, hm, FunD.bindsN F hb⟩
theorem prpc {x q : Str} {C : Addr} {st : Stmt} {N ps : List Str} {k : Nat} {sp : Sp} (c : Cls K C) (D : ∃ p g fd, FnP K x q st g fd ∧ PropOf K C x p g) (S : FnScope N ps (defScope st)) (len : ∀ vs H Q E, sp vs H Q E → vs.length = ps.length)
    (hb : ∀ (kV doc pm : Value) (an : Option Addr) (cdv ct : Value) (us : List Value), us.length = ps.length → bindArgs (PySem.W.fnOf x q (defArgs st) (defBody st) (defScope st) .none kV doc pm an cdv ct) ⟨us, []⟩ = pure (ps.zip us))
    (hbody : ∀ (f : Addr) (cdv : Value) (A : Around) (outer : List Env) (s : Shared) (H : Hp) (vs : List V) (Q : VK) (E : XK), Room k (A.deeper (envOfC q (defScope st) s.heap.objs.size f cdv)) → sp vs H Q E →
      ∃ t, PSs (cxOf CX0 P w K mg base N q (defScope st) f cdv A outer s H E).nox (defBody st) t ∧ t { nx := fun _ H' => Q .non H', rt := Q } (start N vs) H) : Prp P w K mg base (k + 1) C x sp := by
  obtain ⟨p, g, fd, F, hp⟩ := D
  exact ⟨p, g, fd, ps, c, hp, F.ok S len fun cdv A outer s H vs Q E hr h => (hbody g cdv A outer s H vs Q E hr h).elim fun t z => ⟨t, PSs.nox z.1, z.2⟩, FunD.bindsN F hb⟩
end
section
variable {X : Cx} {k j : Nat} {C : Addr} {x m : Str} {sp : Sp} {p pos apos : Pos} {e o : Expr} {es : List Expr} {ta : TE} {t : TA}
theorem pe_mk (c : Mak X.prog X.w X.K X.mg X.base k x C sp) (hr : Room j X.A) (hk : k + 1 ≤ j) (hg : Gl X x) (ha : PA X (e :: es) t)
    (hdb : (x == ("__debug__" : Str)) = false := by decide) (he : starEach (e :: es) X.env = (false, eval e X.env) :: starEach es X.env := by rfl) (hpl : (backTo pos (starEach es X.env)).any (·.1) = false := by rfl) :
    PE X (.Call (.Name x p) (e :: es) [] pos) (tMake C sp [] E0 t) := by
  obtain ⟨f, fd, ps, M, F, hm, b⟩ := c.ex
  exact pe_make M F (hr.mono hk) hg hm b .nil pass0 ha hdb he hpl
theorem pe_mk0 (c : Mak X.prog X.w X.K X.mg X.base k x C sp) (hr : Room j X.A) (hk : k + 1 ≤ j) (hg : Gl X x)
    (hdb : (x == ("__debug__" : Str)) = false := by decide) : PE X (.Call (.Name x p) [] [] pos) (tMake C sp [] E0 tNil) := by
  obtain ⟨f, fd, ps, M, F, hm, b⟩ := c.ex
  exact pe_make0 M F (hr.mono hk) hg hm b .nil pass0 hdb
theorem pe_mt {pl : Sem Bool} (c : Met X.prog X.w X.K X.mg X.base k C m sp) (hr : Room j X.A) (hk : k ≤ j) (he : PE X o ta) (ha : PA X (e :: es) t)
    (hst : starEach (e :: es) X.env = (false, eval e X.env) :: starEach es X.env := by rfl) (hpl : (backTo pos (starEach es X.env)).any (·.1) = false := by rfl)
    (ht : eval (.Call (.Attribute o m apos) (e :: es) [] pos) X.env = (do
      let ov ← eval o X.env
      standAt apos.atName
      let (f, first) ← holding [ov] (getMethod ov m pl)
      callWith pos f first (backTo pos (starEach (e :: es) X.env)) (backToKw pos (keywordEach [] X.env))) := by rfl) :
    PE X (.Call (.Attribute o m apos) (e :: es) [] pos) (tMeth C m sp [] E0 ta t) := by
  obtain ⟨f, fd, ps, c1, c2, F, b⟩ := c.ex
  exact pe_meth he c1 c2 F (hr.mono hk) b .nil pass0 ha hst hpl ht
theorem pe_mt0 {pl : Sem Bool} (c : Met X.prog X.w X.K X.mg X.base k C m sp) (hr : Room j X.A) (hk : k ≤ j) (he : PE X o ta)
    (ht : eval (.Call (.Attribute o m apos) [] [] pos) X.env = (do
      let ov ← eval o X.env
      standAt apos.atName
      let (f, first) ← holding [ov] (getMethod ov m pl)
      callWith pos f first (backTo pos (starEach [] X.env)) (backToKw pos (keywordEach [] X.env))) := by rfl) :
    PE X (.Call (.Attribute o m apos) [] [] pos) (tMeth C m sp [] E0 ta tNil) := by
  obtain ⟨f, fd, ps, c1, c2, F, b⟩ := c.ex
  exact pe_meth0 he c1 c2 F (hr.mono hk) b .nil pass0 ht
theorem pe_pr (c : Prp X.prog X.w X.K X.mg X.base k C m sp) (hr : Room j X.A) (hk : k + 1 ≤ j) (he : PE X o ta) (hab : attributeBase o m X.env (eval o X.env) = eval o X.env := by rfl) : PE X (.Attribute o m pos) (tProp C sp [] E0 ta) := by
  obtain ⟨p, g, fd, ps, c1, c2, F, b⟩ := c.ex
  exact pe_prop he c1 c2 F (hr.mono hk) b .nil pass0 hab
end
section
variable {X : Cx} {k j : Nat} {x : Str} {sp : Sp} {p pos : Pos} {e : Expr} {es : List Expr} {t : TA}
theorem pe_c (c : Cal X.prog X.w X.K X.mg X.base k x sp) (hr : Room j X.A) (hk : k ≤ j) (hg : Gl X x) (ha : PA X (e :: es) t)
    (hdb : (x == ("__debug__" : Str)) = false := by decide) (he : starEach (e :: es) X.env = (false, eval e X.env) :: starEach es X.env := by rfl) (hpl : (backTo pos (starEach es X.env)).any (·.1) = false := by rfl) :
    PE X (.Call (.Name x p) (e :: es) [] pos) (tCall sp [] E0 t) := by
  obtain ⟨f, fd, ps, F, hm, kp, b⟩ := c.ex
  exact pe_call F (hr.mono hk) hg hm kp b .nil pass0 ha hdb he hpl
end
open PySem.W (Datum DatumOrd T3 T4 Tup)
/-! data: what a value holds, tuples at any depth -/
mutual
inductive Dt (K : PySem.W.Frag) (H : Hp) : V → PyData → Prop
  | non : Dt K H .non .none
  | bl (b : Bool) : Dt K H (.bl b) (.bool b)
  | int (i : Int) : Dt K H (.int i) (.int i)
  | str (x : Str) : Dt K H (.str x) (.str x)
  | tup {a : Addr} {xs : List V} {ds : List PyData} : SqT K H a xs → DtAll K H xs ds → Dt K H (.ref a) (.tuple ds)
inductive DtAll (K : PySem.W.Frag) (H : Hp) : List V → List PyData → Prop
  | nil : DtAll K H [] []
  | cons {v : V} {vs : List V} {d : PyData} {ds : List PyData} : Dt K H v d → DtAll K H vs ds → DtAll K H (v :: vs) (d :: ds)
end
/-- tuples stay -/
def Kp (K : PySem.W.Frag) (H H' : Hp) : Prop := ∀ a xs, SqT K H a xs → SqT K H' a xs
mutual
theorem Dt.move {K : PySem.W.Frag} {H H' : Hp} (k : Kp K H H') : ∀ {d : PyData} {v : V}, Dt K H v d → Dt K H' v d
  | .none, _, h => by cases h; exact .non
  | .bool b, _, h => by cases h; exact .bl b
  | .int i, _, h => by cases h; exact .int i
  | .str x, _, h => by cases h; exact .str x
  | .list ds, _, h => by cases h
  | .tuple ds, _, h => by
    cases h with
    | tup hs ha => exact .tup (k _ _ hs) (DtAll.move k ha)
  | .dict _, _, h => by cases h
theorem DtAll.move {K : PySem.W.Frag} {H H' : Hp} (k : Kp K H H') : ∀ {ds : List PyData} {vs : List V}, DtAll K H vs ds → DtAll K H' vs ds
  | [], _, h => by cases h; exact .nil
  | d :: ds, _, h => by
    cases h with
    | cons h1 h2 => exact .cons (Dt.move k h1) (DtAll.move k h2)
end
mutual
theorem Dt.dp {K : PySem.W.Frag} {H : Hp} : ∀ {d : PyData} {v : V}, Dt K H v d → Dp K H v d
  | .none, _, h => by cases h; exact .non
  | .bool b, _, h => by cases h; exact .bl b
  | .int i, _, h => by cases h; exact .int i
  | .str x, _, h => by cases h; exact .str x
  | .list ds, _, h => by cases h
  | .tuple ds, _, h => by
    cases h with
    | tup hs ha => exact .tup hs (DtAll.dp ha)
  | .dict _, _, h => by cases h
theorem DtAll.dp {K : PySem.W.Frag} {H : Hp} : ∀ {ds : List PyData} {vs : List V}, DtAll K H vs ds → DpAll K H vs ds
  | [], _, h => by cases h; exact .nil
  | d :: ds, _, h => by
    cases h with
    | cons h1 h2 => exact .cons (Dt.dp h1) (DtAll.dp h2)
end
section
variable {K : PySem.W.Frag} {H H' H1 : Hp}
theorem Kp.refl (K : PySem.W.Frag) (H : Hp) : Kp K H H := fun _ _ h => h
theorem Kp.trans (a : Kp K H H1) (b : Kp K H1 H') : Kp K H H' := fun c o h => b c o (a c o h)
theorem kp_same (e : Same H H') : Kp K H H' := fun a xs h => by
  rcases h with (h | ⟨o, h⟩) | h
  · exact .inl (.inl (e _ _ h))
  · exact .inl (.inr ⟨o, e _ _ h⟩)
  · exact .inr h
/-- at l no tuple (nor a locked one) stands -/
theorem kp_upd {l : Addr} {o : HO} (h : ∀ u, H l = some u → (∀ xs, u ≠ .tup xs) ∧ (∀ o xs, u ≠ .frz o (.tup xs))) : Kp K H (upd H l o) := fun a xs q => by
  rcases q with (q | ⟨o', q⟩) | q
  · have n : a ≠ l := fun e => (h _ (e ▸ q)).1 xs rfl
    exact .inl (.inl (by rw [upd_ne n]; exact q))
  · have n : a ≠ l := fun e => (h _ (e ▸ q)).2 o' xs rfl
    exact .inl (.inr ⟨o', by rw [upd_ne n]; exact q⟩)
  · exact .inr q
theorem kp_new {l : Addr} {o : HO} (h : H l = none) : Kp K H (upd H l o) := kp_upd fun u e => by rw [h] at e; cases e
theorem kp_lst {l : Addr} {xs : List V} {o : HO} (h : H l = some (.lst xs)) : Kp K H (upd H l o) := kp_upd fun u e => by
  rw [h] at e; cases e
  exact ⟨fun _ z => (nomatch z), fun _ _ z => (nomatch z)⟩
theorem kp_ins {l C dx : Addr} {fs : List (Str × V)} {o : HO} (h : H l = some (.ins C dx fs)) : Kp K H (upd H l o) := kp_upd fun u e => by
  rw [h] at e; cases e
  exact ⟨fun _ z => (nomatch z), fun _ _ z => (nomatch z)⟩
theorem kp_dT {l : Addr} {kvs : List (List Key × V)} {o : HO} (h : H l = some (.dT kvs)) : Kp K H (upd H l o) := kp_upd fun u e => by
  rw [h] at e; cases e
  exact ⟨fun _ z => (nomatch z), fun _ _ z => (nomatch z)⟩
theorem kp_dK {l : Addr} {kvs : List (Key × V)} {o : HO} (h : H l = some (.dK kvs)) : Kp K H (upd H l o) := kp_upd fun u e => by
  rw [h] at e; cases e
  exact ⟨fun _ z => (nomatch z), fun _ _ z => (nomatch z)⟩
theorem same_upd {p : Addr} {o : HO} (h : H p = none) : Same H (upd H p o) := fun b x e => by
  rw [upd_ne (ne_of_none e h)]
  exact e
/-- what stood at the start stays: a place that was free then is written -/
theorem _root_.L2.Same.set {p : Addr} {o : HO} (s : Same H H') (h : H p = none) : Same H (upd H' p o) := fun b x e => by
  rw [upd_ne (ne_of_none e h)]
  exact s b x e
theorem DtAll.len : ∀ {ds : List PyData} {vs : List V}, DtAll K H vs ds → vs.length = ds.length
  | [], _, h => by cases h; rfl
  | d :: ds, _, h => by
    cases h with
    | cons h1 h2 => exact congrArg Nat.succ (DtAll.len h2)
theorem DtAll.app : ∀ {ds es : List PyData} {vs ws : List V}, DtAll K H vs ds → DtAll K H ws es → DtAll K H (vs ++ ws) (ds ++ es)
  | [], _, _, _, h, k => by cases h; exact k
  | d :: ds, _, _, _, h, k => by
    cases h with
    | cons h1 h2 => exact .cons h1 (DtAll.app h2 k)
theorem DtAll.at_ : ∀ {ds : List PyData} {vs : List V} {i : Nat} {v : V}, DtAll K H vs ds → vs[i]? = some v → ∃ d, ds[i]? = some d ∧ Dt K H v d
  | [], _, _, _, h, e => by cases h; cases e
  | d :: ds, _, 0, _, h, e => by
    cases h with
    | cons h1 h2 => cases e; exact ⟨d, rfl, h1⟩
  | d :: ds, _, i + 1, _, h, e => by
    cases h with
    | cons h1 h2 => exact DtAll.at_ (i := i) h2 e
theorem DtAll.drop : ∀ {ds : List PyData} {vs : List V} (n : Nat), DtAll K H vs ds → DtAll K H (vs.drop n) (ds.drop n)
  | _, _, 0, h => h
  | [], _, n + 1, h => by cases h; exact .nil
  | d :: ds, _, n + 1, h => by
    cases h with
    | cons h1 h2 => exact DtAll.drop n h2
theorem DtAll.take : ∀ {ds : List PyData} {vs : List V} (n : Nat), DtAll K H vs ds → DtAll K H (vs.take n) (ds.take n)
  | _, _, 0, h => by rw [List.take_zero, List.take_zero]; exact .nil
  | [], _, n + 1, h => by cases h; exact .nil
  | d :: ds, _, n + 1, h => by
    cases h with
    | cons h1 h2 => exact .cons h1 (DtAll.take n h2)
theorem Dt.tup_inv {v : V} {ds : List PyData} (h : Dt K H v (.tuple ds)) : ∃ a xs, v = .ref a ∧ SqT K H a xs ∧ DtAll K H xs ds := by
  cases h with
  | tup a b => exact ⟨_, _, rfl, a, b⟩
theorem Dt.int_inv {v : V} {i : Int} (h : Dt K H v (.int i)) : v = .int i := by cases h; rfl
theorem Dt.str_inv {v : V} {i : Str} (h : Dt K H v (.str i)) : v = .str i := by cases h; rfl
theorem Dt.bl_inv {v : V} {i : Bool} (h : Dt K H v (.bool i)) : v = .bl i := by cases h; rfl
end
/-! the values -/
def chS (c : Nat) : Str := ⟨#[c]⟩
def tx (w : List Nat) : Str := ⟨w.toArray⟩
abbrev TD := T4 Int Str Int (Tup (Int × Int))
def tT (t : Tie) : TD := ⟨t.s, chS t.a, t.e, ⟨t.m⟩⟩
def mkD (g : Mk) : PyData := Datum.toD g
def msD (m : Wd) : PyData := .tuple (m.map mkD)
def tD (t : Tie) : PyData := .tuple [.int t.s, .str (chS t.a), .int t.e, msD t.m]
theorem tD_eq (t : Tie) : tD t = Datum.toD (tT t) := rfl
theorem msD_eq (m : Wd) : msD m = Datum.toD (Tup.mk m) := rfl
section
variable {X : Cx}
/-- == and != of data with a Lean type -/
def rEqT (α : Type) [DecidableEq α] [Datum α] (K : PySem.W.Frag) : R2 := fun x y H Q => ∃ a b : α, Dp K H x (Datum.toD a) ∧ Dp K H y (Datum.toD b) ∧ Q (.bl (decide (a = b))) H
def rNeT (α : Type) [DecidableEq α] [Datum α] (K : PySem.W.Frag) : R2 := fun x y H Q => ∃ a b : α, Dp K H x (Datum.toD a) ∧ Dp K H y (Datum.toD b) ∧ Q (.bl (decide (a ≠ b))) H
theorem op_eqT (α : Type) [DecidableEq α] [Datum α] (hu : X.A.units + 64 < cLine) (hd : Datum.depth α ≤ 60 := by decide) : OpR X (compareOp .Eq) (rEqT α X.K) := by
  intro pins s σ H x y v u Q I rx ry h
  obtain ⟨d, e, hd', he, q⟩ := h
  exact PySem.W.eq_datum (Dp.reads I _ x v hd' rx) (Dp.reads I _ y u he ry) (by omega) ⟨.bl _, H, I, rfl, q⟩
theorem op_neT (α : Type) [DecidableEq α] [Datum α] (hu : X.A.units + 64 < cLine) (hd : Datum.depth α ≤ 60 := by decide) : OpR X (compareOp .NotEq) (rNeT α X.K) := by
  intro pins s σ H x y v u Q I rx ry h
  obtain ⟨d, e, hd', he, q⟩ := h
  exact PySem.W.ne_datum (Dp.reads I _ x v hd' rx) (Dp.reads I _ y u he ry) (by omega) ⟨.bl _, H, I, rfl, q⟩
/-- in, not in a list of data with a Lean type -/
def rInT (α : Type) [DecidableEq α] [Datum α] (K : PySem.W.Frag) : R2 := fun x y H Q => ∃ (a : α) (l : Addr) (vs : List V) (bs : List α), Dp K H x (Datum.toD a) ∧ y = .ref l ∧ SqL K H l vs ∧ DpAll K H vs (bs.map Datum.toD) ∧ Q (.bl (decide (a ∈ bs))) H
def rNotInT (α : Type) [DecidableEq α] [Datum α] (K : PySem.W.Frag) : R2 := fun x y H Q => ∃ (a : α) (l : Addr) (vs : List V) (bs : List α), Dp K H x (Datum.toD a) ∧ y = .ref l ∧ SqL K H l vs ∧ DpAll K H vs (bs.map Datum.toD) ∧ Q (.bl (decide (a ∉ bs))) H
theorem plainL {h : Heap} {l : Addr} {a : Array Value} (p : PlainL h l a) : h.IsList l a := by
  first | exact p.isList | exact p
theorem op_inT (α : Type) [DecidableEq α] [Datum α] (hu : X.A.units + 64 < cLine) (hd : Datum.depth α ≤ 60 := by decide) : OpR X (compareOp .In) (rInT α X.K) := by
  intro pins s σ H x y v u Q I rx ry h
  obtain ⟨a, l, vs, bs, hd', rfl, hl, ha, q⟩ := h
  cases ry
  obtain ⟨its, rv, p, _⟩ := I.list hl
  exact PySem.W.in_list_datum (plainL p) (Dp.readsAll I _ vs its ha rv) (Dp.reads I _ x v hd' rx) (by omega) ⟨.bl _, H, I, rfl, q⟩
theorem op_notInT (α : Type) [DecidableEq α] [Datum α] (hu : X.A.units + 64 < cLine) (hd : Datum.depth α ≤ 60 := by decide) : OpR X (compareOp .NotIn) (rNotInT α X.K) := by
  intro pins s σ H x y v u Q I rx ry h
  obtain ⟨a, l, vs, bs, hd', rfl, hl, ha, q⟩ := h
  cases ry
  obtain ⟨its, rv, p, _⟩ := I.list hl
  exact PySem.W.notIn_list_datum (plainL p) (Dp.readsAll I _ vs its ha rv) (Dp.reads I _ x v hd' rx) (by omega) ⟨.bl _, H, I, rfl, q⟩
end
end G1
set_option Elab.async false
set_option linter.all false
set_option maxRecDepth 100000
set_option maxHeartbeats 2000000
namespace G1
open PySem PySem.Spec PyProof.Rows L2
open PySem.W (Datum DatumOrd T3 T4 Tup)
/-- isinstance of an own class -/
structure IsiOk (K : PySem.W.Frag) (C : Addr) : Prop where
  f1 : PySem.W.findIn K (.ref C) "__class__" = some (some (.builtin "object.__class__"))
  f2 : PySem.W.specialIn K (.builtin "object.__class__") "__get__" = some (some (.builtin "getset_descriptor.__get__"))
  f3 : PySem.W.takesIn K (.builtin "object.__class__") = some true
  f4 : PySem.W.mroIn K C (.type "object") = some true
  f5 : PySem.W.kitOne K (.ref C) (.ref C) = some true
/-- the facts of the text -/
structure Tx (K : PySem.W.Frag) (mg : Str → Option Value) (CF CR CL : Addr) : Prop where
  undone_letter : DefAt K mg "undone_letter" (top 11)
  struck : DefAt K mg "struck" (top 12)
  told_tie : DefAt K mg "told_tie" (top 15)
  back_tie : DefAt K mg "back_tie" (top 16)
  undone_marks : DefAt K mg "undone_marks" (top 17)
  joined_marks : DefAt K mg "joined_marks" (top 18)
  folded : DefAt K mg "folded" (top 19)
  unlike_ties : DefAt K mg "unlike_ties" (top 20)
  steps_of : DefAt K mg "steps_of" (top 21)
  letters_of : DefAt K mg "letters_of" (top 22)
  met_words : DefAt K mg "met_words" (top 23)
  numbered : DefAt K mg "numbered" (top 24)
  marked : DefAt K mg "marked" (top 25)
  gone_word : DefAt K mg "gone_word" (top 26)
  is_integer : DefAt K mg "is_integer" (top 32)
  is_within : DefAt K mg "is_within" (top 33)
  is_word : DefAt K mg "is_word" (top 35)
  is_small_row : DefAt K mg "is_small_row" (top 39)
  check_row_lot : DefAt K mg "check_row_lot" (top 42)
  letters_in : DefAt K mg "letters_in" (top 43)
  check_row_lots : DefAt K mg "check_row_lots" (top 44)
  row_form_of : DefAt K mg "row_form_of" (top 45)
  form_has_row : DefAt K mg "form_has_row" (top 46)
  row_form : DefAt K mg "row_form" (top 47)
  same_rows : DefAt K mg "same_rows" (top 48)
  rows_within : DefAt K mg "rows_within" (top 49)
  needless_rows : DefAt K mg "needless_rows" (top 50)
  l_till : DefAt K mg "_law_till" (top 52)
  l_pay : DefAt K mg "_law_pay" (top 53)
  l_coin : DefAt K mg "_law_coin" (top 54)
  l_flip : DefAt K mg "_law_flip" (top 55)
  l_struck : DefAt K mg "_law_struck" (top 56)
  l_undo : DefAt K mg "_law_undo" (top 57)
  l_drawn : DefAt K mg "_law_drawn" (top 58)
  l_goes : DefAt K mg "_law_goes" (top 59)
  l_met : DefAt K mg "_law_met" (top 60)
  l_table : DefAt K mg "_law_table" (top 61)
  l_ringed : DefAt K mg "_law_ringed" (top 62)
  l_words : DefAt K mg "_law_words" (top 63)
  l_clash : DefAt K mg "_law_clash" (top 64)
  l_folded : DefAt K mg "_law_folded" (top 65)
  l_ends : DefAt K mg "_law_ends" (top 66)
  l_walk : DefAt K mg "_law_walk" (top 67)
  l_presses : DefAt K mg "_law_presses" (top 68)
  l_lot : DefAt K mg "_law_lot" (top 69)
  l_other : DefAt K mg "_law_other" (top 70)
  l_is_within : DefAt K mg "_law_is_within" (top 71)
  l_pair_right : DefAt K mg "_law_pair_right" (top 72)
  l_needless_right : DefAt K mg "_law_needless_right" (top 73)
  l_right : DefAt K mg "_law_right" (top 74)
  b : ∀ x ∈ (["len", "list", "tuple", "reversed", "enumerate", "sorted", "isinstance", "int", "bool", "str", "all", "range", "min", "max", "set", "abs", "divmod", "dict", "repr"] : List Str), mg x = none
  cF : Cls K CF
  cR : Cls K CR
  cL : Cls K CL
  fInit : ∃ f fd, FnP K "__init__" "Fold.__init__" (inClass (top 14) 0) f fd ∧ L2.Mk K CF f
  fAdd : MetAt K CF "add" "Fold.add" (inClass (top 14) 1)
  fClash : MetAt K CF "clash" "Fold.clash" (inClass (top 14) 2)
  fJoin : MetAt K CF "join" "Fold.join" (inClass (top 14) 3)
  rInit : ∃ f fd, FnP K "__init__" "Row.__init__" (inClass (top 37) 0) f fd ∧ L2.Mk K CR f
  rLetters : ∃ p g fd, FnP K "letters" "Row.letters" (inClass (top 37) 2) g fd ∧ PropOf K CR "letters" p g
  rWord : ∃ p g fd, FnP K "word" "Row.word" (inClass (top 37) 3) g fd ∧ PropOf K CR "word" p g
  rLen : MetAt K CR "__len__" "Row.__len__" (inClass (top 37) 4)
  rStr : MetAt K CR "__str__" "Row.__str__" (inClass (top 37) 7)
  lInit : ∃ f fd, FnP K "__init__" "RowLot.__init__" (inClass (top 40) 0) f fd ∧ L2.Mk K CL f
  lChanges : ∃ p g fd, FnP K "changes" "RowLot.changes" (inClass (top 40) 2) g fd ∧ PropOf K CL "changes" p g
  iR : IsiOk K CR
  iL : IsiOk K CL
  nFt : NoAttr K CF "ties"
  nFm : NoAttr K CF "many"
  nRm : NoAttr K CR "many"
  nRh : NoAttr K CR "held"
  nLc : NoAttr K CL "own_changes"
  nLt : NoAttr K CL "own_text"
  gML : ∃ t, mg "MOST_LETTERS" = some (.int 4 t)
  gMR : ∃ t, mg "MOST_ROW" = some (.int 400 t)
  gMS : ∃ t, mg "MOST_SMALL_ROW" = some (.int 12 t)
  gMT : ∃ t, mg "MOST_TOLD" = some (.int 5 t)
  gLE : ∃ t, mg "LETTERS" = some (.str "abcd" t)
  gF : mg "Fold" = some (.ref CF)
  gR : mg "Row" = some (.ref CR)
  gL : mg "RowLot" = some (.ref CL)
section
variable {P : Program} {w : World} {K : PySem.W.Frag} {mg : Str → Option Value} {base : Heap} {CF CR CL : Addr}
theorem Tx.nb (T : Tx K mg CF CR CL) (x : Str) (h : x ∈ (["len", "list", "tuple", "reversed", "enumerate", "sorted", "isinstance", "int", "bool", "str", "all", "range", "min", "max", "set", "abs", "divmod", "dict", "repr"] : List Str) := by decide) : mg x = none := T.b x h
/-! ### undone_letter -/
theorem swap_lt {c : Nat} (h : Lt c) : Txt.swapcase (chS c) = chS (sw c) := by
  have key : ∀ c : Nat, c < 123 → (65 ≤ c ∧ c ≤ 90 ∨ 97 ≤ c ∧ c ≤ 122) → Txt.swapcase (chS c) = chS (sw c) := by decide +kernel
  rcases h with h | h
  · unfold Small at h; exact key c (by omega) (.inr h)
  · unfold Big at h; exact key c (by omega) (.inl h)
def spUL : Sp := fun vs H Q _ => ∃ c, vs = [.str (chS c)] ∧ Lt c ∧ Q (.str (chS (sw c))) H
theorem scUL : FnScope ["letter"] ["letter"] (defScope (top 11)) := ⟨rfl, rfl, rfl, by decide +kernel, rfl, by decide +kernel, by decide +kernel⟩
theorem c_undone_letter (T : Tx K mg CF CR CL) : Cal P w K mg base 1 "undone_letter" spUL := by
  refine cal T.undone_letter scUL (fun vs H Q E h => ?_) (fun _ _ _ _ _ _ us hl => match us, hl with | [_], _ => rfl) fun f cdv A outer s H vs Q E hr h => ?_
  · obtain ⟨c, rfl, _⟩ := h; rfl
  · obtain ⟨c, rfl, hc, q⟩ := h
    refine ⟨_, pss_one (ps_ret (pe_m0 PySem.F.slot_str_swapcase PySem.F.type_str_swapcase mt_swapcase (pv 0))), ?_⟩
    refine ⟨_, rfl, ⟨_, rfl⟩, _, rfl, rfl, ?_, ?_⟩
    · show 1 ≤ _
      decide
    · rw [swap_lt hc]; exact q
/-! ### struck -/
def spS (f : List Nat) (c : Nat) : List Nat := if f.getLast? = some (sw c) then f.dropLast else f ++ [c]
def strk (w : List Nat) : List Nat := w.foldl spS []
theorem spS_len (f : List Nat) (c : Nat) : (spS f c).length ≤ f.length + 1 := by
  unfold spS
  split
  · rw [List.length_dropLast]; omega
  · rw [List.length_append]; exact Nat.le_refl _
theorem spS_lt {f : List Nat} {c : Nat} (h : LW f) (hc : Lt c) : LW (spS f c) := by
  unfold spS
  split
  · exact fun x hx => h x (List.dropLast_subset _ hx)
  · intro x hx
    rcases List.mem_append.mp hx with y | y
    · exact h x y
    · rw [List.mem_singleton.mp y]; exact hc
abbrev sgn (c : Nat) : V := .str (chS c)
theorem dp_sgns {H : Hp} : ∀ f : List Nat, DpAll K H (f.map sgn) ((f.map chS).map Datum.toD)
  | [] => .nil
  | c :: r => .cons (.str _) (dp_sgns r)
theorem dp_list {H : Hp} {α : Type} [DecidableEq α] [Datum α] {l : Addr} {vs : List V} {xs : List α} (h : H l = some (.lst vs)) (d : DpAll K H vs (xs.map Datum.toD)) : Dp K H (.ref l) (Datum.toD xs) := .lst (.inl (.inl h)) d
def spSt : Sp := fun vs H Q _ => ∃ wd, vs = [.str (tx wd)] ∧ LW wd ∧ wd.length ≤ 1000 ∧ ∀ H', Same H H' → Q (.str (tx (strk wd))) H'
theorem scSt : FnScope ["word", "found", "letter"] ["word"] (defScope (top 12)) := ⟨rfl, rfl, rfl, by decide +kernel, rfl, by decide +kernel, by decide +kernel⟩
theorem strk_take {wd : List Nat} {i c : Nat} (h : wd[i]? = some c) : strk (wd.take (i + 1)) = spS (strk (wd.take i)) c := by
  unfold strk
  rw [List.take_add_one, h, List.foldl_append]
  rfl
theorem strk_len : ∀ (wd f : List Nat), (wd.foldl spS f).length ≤ f.length + wd.length
  | [], f => Nat.le_refl _
  | c :: r, f => by
    have h1 := strk_len r (spS f c)
    have h2 := spS_len f c
    rw [List.length_cons]
    show (r.foldl spS (spS f c)).length ≤ _
    omega
theorem strk_lw : ∀ (wd f : List Nat), LW f → LW wd → LW (wd.foldl spS f)
  | [], f, h, _ => h
  | c :: r, f, h, k => strk_lw r (spS f c) (spS_lt h (k c List.mem_cons_self)) fun x hx => k x (List.mem_cons_of_mem _ hx)
theorem tx_app (a b : List Nat) : tx a ++ tx b = tx (a ++ b) := by
  show (⟨a.toArray ++ b.toArray⟩ : Str) = ⟨(a ++ b).toArray⟩
  rw [List.append_toArray]
theorem tx_len (a : List Nat) : (tx a).length = a.length := by
  show a.toArray.size = _
  exact List.size_toArray
theorem tx_joinL (ws : List (List Nat)) : Txt.join ("" : Str) (ws.map tx) = tx ws.flatten := by
  show (Builtin.Str.glued (PySem.Str.ofString "") _) = _
  rw [StrLaws.glued_eq_join]
  have e0 : PySem.Str.ofString "" = tx [] := rfl
  rw [e0]
  induction ws with
  | nil => rfl
  | cons x r ih =>
    cases r with
    | nil =>
      show tx x = tx (x ++ [])
      rw [List.append_nil]
    | cons y r =>
      show tx x ++ tx [] ++ Str.join (tx []) (List.map tx (y :: r)) = _
      rw [ih, tx_app, tx_app, List.append_nil]
      rfl
theorem flat_ones : ∀ w : List Nat, (w.map fun c => [c]).flatten = w
  | [] => rfl
  | c :: r => congrArg (c :: ·) (flat_ones r)
theorem tx_join (w : List Nat) : Txt.join ("" : Str) (w.map chS) = tx w := by
  have z := tx_joinL (w.map fun c => [c])
  rw [List.map_map, flat_ones] at z
  exact z
theorem c_struck (T : Tx K mg CF CR CL) : Cal P w K mg base 2 "struck" spSt := by
  refine cal T.struck scSt (fun vs H Q E h => ?_) (fun _ _ _ _ _ _ us hl => match us, hl with | [_], _ => rfl) fun f cdv A outer s H vs Q E hr h => ?_
  · obtain ⟨c, rfl, _⟩ := h; rfl
  · obtain ⟨wd, rfl, hw, hl, q⟩ := h
    refine ⟨_, pss_cons (ps_set (i := 1) scSt.nd rfl (.inl rfl) (pe_lst pa_nil))
      (pss_cons (ps_for PassesOwn.never rfl (pi_str (pv 0)) (pg_name (i := 2) scSt.nd rfl (.inl rfl))
        (pss_one (ps_if (PW.pt (pw_and (pt_cmpR (op_neT (List Str) hr.units) (pv 1) (pe_lst pa_nil) (nomark _)) (pw_and1 (pt_cmpR (op_eqT Str hr.units) (pe_ix ix_list (pv 1) (pe_un un_neg pe_int) (fun _ _ => rfl)) (pe_c (c_undone_letter T) hr (by decide) rfl (pa_cons (pv 2) pa_nil)) (nomark _)))))
          (pss_one (ps_expr (pe_bm0 PySem.F.plainAttrs_list PySem.F.slot_list_pop PySem.F.type_list_pop mt_pop (pv 1))))
          (pss_one (ps_expr (pe_bm PySem.F.plainAttrs_list PySem.F.slot_list_append PySem.F.type_list_append mt_append (pv 1) (pa_cons (pv 2) pa_nil)))))))
      (pss_one (ps_ret (pe_join pe_str (pv 1))))), ?_⟩
    refine ⟨Nat.zero_le _, fun p np => ?_⟩
    refine ⟨_, rfl, _, rfl, for_it walk_str (fun i σ H' => ∃ y, σ = [some (.str (tx wd)), some (.ref p), y] ∧ Same H H' ∧ H' p = some (.lst ((strk (wd.take i)).map sgn))) ⟨none, rfl, same_upd np, upd_same⟩ (fun _ _ _ _ _ => trivial) ?_ ?_⟩
    · rintro i x σ H0 H1 hi ⟨y, rfl, sm, hp⟩ ⟨rfl, c, hc, rfl⟩
      have hc' : wd[i]? = some c := by simpa [tx] using hc
      have hlt : Lt c := hw c (List.mem_of_getElem? hc')
      have hfl : (strk (wd.take i)).length ≤ 1000 := by
        have z := strk_len (wd.take i) []
        rw [List.length_take] at z
        unfold strk
        simp at z
        omega
      refine ⟨_, rfl, Nat.zero_le _, fun p2 np2 => ?_⟩
      have n21 : p ≠ p2 := ne_of_none hp np2
      have hp2 : (upd H1 p2 (.lst [])) p = some (.lst ((strk (wd.take i)).map sgn)) := by rw [upd_ne n21]; exact hp
      refine ⟨(strk (wd.take i)).map chS, [], dp_list hp2 (dp_sgns _), dp_list upd_same .nil, _, rfl, ?_⟩
      have sm2 : Same H (upd H1 p2 (.lst [])) := sm.trans (same_upd np2)
      have et : strk (wd.take (i + 1)) = spS (strk (wd.take i)) c := strk_take hc'
      have push : (strk (wd.take i)).getLast? ≠ some (sw c) → (fun (i : Nat) (σ : L2.St) (H' : Hp) => ∃ y, σ = [some (.str (tx wd)), some (.ref p), y] ∧ Same H H' ∧ H' p = some (.lst ((strk (wd.take i)).map sgn))) (i + 1) ([some (.str (tx wd)), some (.ref p), y].set 2 (some (.str (chS c)))) (upd (upd H1 p2 (.lst [])) p (.lst ((strk (wd.take i)).map sgn ++ [.str (chS c)]))) := fun hne =>
        ⟨_, rfl, sm2.set np, by rw [upd_same, et]; unfold spS; rw [if_neg hne, List.map_append]; rfl⟩
      refine ite2 (fun h => ?_) (fun h => ?_)
      · have hne : strk (wd.take i) ≠ [] := fun e => by rw [e] at h; exact absurd h (by decide)
        obtain ⟨r, z, e⟩ : ∃ r z, strk (wd.take i) = r ++ [z] := ⟨_, _, (List.dropLast_concat_getLast hne).symm⟩
        rw [e] at hp2 push et
        refine ⟨_, rfl, _, rfl, _, _, _, _, rfl, rfl, .inl (.inl hp2), by rw [List.map_append]; exact atI_last _ _, _, rfl, c, rfl, hlt, chS z, chS (sw c), .str _, .str _, _, rfl, ?_⟩
        have ez : (r ++ [z]).getLast? = some z := List.getLast?_concat
        refine ite2 (fun h => ?_) (fun h => ?_)
        · have e2 : z = sw c := by
            have e3 := of_decide_eq_true h
            unfold chS at e3
            injection e3 with e4
            have e5 := congrArg Array.toList e4
            exact List.head_eq_of_cons_eq e5
          refine ⟨_, rfl, .inl ⟨rfl, _, .inl (.inl hp2)⟩, _, _, sgn z, rfl, rfl, hp2, ?_, _, rfl, sm2.set np, ?_⟩
          · simp
          · rw [upd_same, et]
            unfold spS
            rw [ez, if_pos (by rw [e2])]
            simp
        · refine ⟨_, rfl, .inl ⟨rfl, _, .inl (.inl hp2)⟩, _, rfl, _, _, _, rfl, rfl, hp2, ?_, push ?_⟩
          · rw [List.length_map, ← e]; exact small1000 hfl
          · intro e3
            rw [ez] at e3
            exact h (decide_eq_true (by rw [Option.some.inj e3]))
      · have he : strk (wd.take i) = [] := Classical.byContradiction fun hn => h (decide_eq_true (fun e => hn (List.map_eq_nil_iff.mp e)))
        refine iteF ⟨_, rfl, .inl ⟨rfl, _, .inl (.inl hp2)⟩, _, rfl, _, _, _, rfl, rfl, hp2, ?_, push ?_⟩
        · rw [List.length_map]; exact small1000 hfl
        · rw [he]; exact fun z => (nomatch z)
    · intro σ H1 hz
      obtain ⟨y, rfl, sm, hp⟩ := hz
      have e : wd.take (tx wd).cps.size = wd := by simp [tx]
      rw [e] at hp
      refine ⟨⟨_, rfl⟩, _, rfl, _, _, (strk wd).map chS, rfl, rfl, .inl (.inl (.inl ?_)), ?_, ?_⟩
      · rw [hp, List.map_map]; rfl
      · have z := strk_len wd []
        have e0 : strk wd = wd.foldl spS [] := rfl
        rw [List.length_map, e0]
        have e1 : ((wd.foldl spS []).map chS |>.map (·.length)).sum = (wd.foldl spS []).length := by
          rw [List.map_map]
          have : ((fun x : Str => x.length) ∘ chS) = fun _ => 1 := rfl
          rw [this, List.map_const', List.sum_replicate_nat, Nat.mul_one]
        rw [e1]
        show _ + _ * 0 ≤ _
        simp at z
        omega
      · rw [tx_join]; exact q _ sm
end
end G1
set_option Elab.async false
set_option linter.all false
set_option maxRecDepth 100000
set_option maxHeartbeats 2000000
/-! undone_marks, joined_marks, told_tie, back_tie -/
namespace G1
open PySem PySem.Spec PyProof.Rows L2
open PySem.W (Datum DatumOrd T3 T4 Tup)
section
variable {P : Program} {w : World} {K : PySem.W.Frag} {mg : Str → Option Value} {base : Heap} {CF CR CL : Addr}
theorem iteY {c A B : Prop} {i : Decidable c} (hc : c) (h : A) : if c then A else B := by rw [if_pos hc]; exact h
theorem yesT {σ : L2.St} {H : Hp} {A B : Hp → Prop} (h : A H) : tYes σ H (fun b H3 => if b = true then A H3 else B H3) := by
  show if true = true then A H else B H
  rw [if_pos rfl]
  exact h
theorem ln1 (a : V) : [a].length ≤ sizeLine := by show 1 ≤ sizeLine; decide
theorem ln2 (a b : V) : [a, b].length ≤ sizeLine := by show 2 ≤ sizeLine; decide
theorem ln3 (a b c : V) : [a, b, c].length ≤ sizeLine := by show 3 ≤ sizeLine; decide
theorem ln4 (a b c d : V) : [a, b, c, d].length ≤ sizeLine := by show 4 ≤ sizeLine; decide
theorem mx_line {n : Nat} (h : n ≤ MX) : n ≤ sizeLine := Nat.le_trans h (by decide)
theorem mx_lt {n : Nat} (h : n ≤ MX) : n < sizeLine := Nat.lt_of_le_of_lt h (by decide)
theorem dt_pair {H : Hp} {a : Addr} {x y : Int} (h : SqT K H a [.int x, .int y]) : Dt K H (.ref a) (mkD (x, y)) := .tup h (.cons (.int _) (.cons (.int _) .nil))
/-! ### joined_marks -/
def spJM (K : PySem.W.Frag) : Sp := fun vs H Q _ => ∃ (u v : V) (a b : Wd), vs = [u, v] ∧ Dt K H u (msD a) ∧ Dt K H v (msD b) ∧ a.length + b.length ≤ MX ∧ ∀ H' r, Same H H' → Dt K H' r (msD (jn a b)) → Q r H'
theorem scJM : FnScope ["one", "other", "found", "index", "sense"] ["one", "other"] (defScope (top 18)) := ⟨rfl, rfl, rfl, by decide +kernel, rfl, by decide +kernel, by decide +kernel⟩
theorem jn_take {a b : Wd} {i : Nat} {g : Mk} (h : b[i]? = some g) : jn a (b.take (i + 1)) = psh (jn a (b.take i)) g := by
  unfold jn
  rw [List.take_add_one, h, List.foldl_append]
  rfl
theorem dtAll_map {H : Hp} {α : Type} {f : α → PyData} {xs : List α} {vs : List V} (h : DtAll K H vs (xs.map f)) {i : Nat} {v : V} (e : vs[i]? = some v) : ∃ x, xs[i]? = some x ∧ Dt K H v (f x) := by
  obtain ⟨d, e2, h2⟩ := h.at_ e
  rw [List.getElem?_map] at e2
  obtain ⟨x, e3, rfl⟩ := Option.map_eq_some_iff.mp e2
  exact ⟨x, e3, h2⟩
theorem DtAll.snoc {H : Hp} {vs : List V} {ds : List PyData} {v : V} {d : PyData} (h : DtAll K H vs ds) (k : Dt K H v d) : DtAll K H (vs ++ [v]) (ds ++ [d]) := h.app (.cons k .nil)
theorem DtAll.dropLast {H : Hp} {α : Type} {f : α → PyData} {xs : List α} {vs : List V} (h : DtAll K H vs (xs.map f)) : DtAll K H vs.dropLast (xs.dropLast.map f) := by
  have l := h.len
  rw [List.length_map] at l
  rw [List.dropLast_eq_take, List.dropLast_eq_take, List.map_take, l]
  exact h.take _
theorem pair_inv {H : Hp} {v : V} {g : Mk} (h : Dt K H v (mkD g)) : ∃ a, v = .ref a ∧ SqT K H a [.int g.1, .int g.2] := by
  obtain ⟨a, xs, rfl, hs, ha⟩ := h.tup_inv
  cases ha with
  | cons h1 h2 =>
    cases h2 with
    | cons h2 h3 =>
      cases h3
      cases h1.int_inv
      cases h2.int_inv
      exact ⟨a, rfl, hs⟩
/-- a list of data of one's own at p; what stood in H stands -/
structure LD (K : PySem.W.Frag) (H H' : Hp) (p : Addr) (fs : List V) (ds : List PyData) : Prop where
  same : Same H H'
  at_ : H' p = some (.lst fs)
  dt : DtAll K H' fs ds
theorem LD.go {H H' H2 : Hp} {p : Addr} {fs : List V} {ds : List PyData} (L : LD K H H' p fs ds) (s : Same H' H2) : LD K H H2 p fs ds := ⟨L.same.trans s, s _ _ L.at_, L.dt.move (kp_same s)⟩
theorem LD.new {H H' : Hp} {p q : Addr} {o : HO} {fs : List V} {ds : List PyData} (L : LD K H H' p fs ds) (n : H' q = none) : LD K H (upd H' q o) p fs ds := L.go (same_upd n)
theorem LD.push {H H' : Hp} {p : Addr} {fs : List V} {ds : List PyData} {v : V} {d : PyData} (L : LD K H H' p fs ds) (n : H p = none) (h : Dt K H' v d) : LD K H (upd H' p (.lst (fs ++ [v]))) p (fs ++ [v]) (ds ++ [d]) :=
  ⟨L.same.set n, upd_same, (L.dt.move (kp_lst L.at_)).snoc (h.move (kp_lst L.at_))⟩
theorem LD.len {H H' : Hp} {p : Addr} {fs : List V} {ds : List PyData} (L : LD K H H' p fs ds) : fs.length = ds.length := L.dt.len
theorem LD.nil {H : Hp} {p : Addr} (n : H p = none) : LD K H (upd H p (.lst [])) p [] [] := ⟨same_upd n, upd_same, .nil⟩
theorem LD.sq {H H' : Hp} {p : Addr} {fs : List V} {ds : List PyData} (L : LD K H H' p fs ds) : SqL K H' p fs := .inl (.inl L.at_)
theorem DtAll.snoc_inv {H : Hp} {fs : List V} {ds : List PyData} {d : PyData} (h : DtAll K H fs (ds ++ [d])) : ∃ gs v, fs = gs ++ [v] ∧ DtAll K H gs ds ∧ Dt K H v d := by
  induction ds generalizing fs with
  | nil =>
    cases h with
    | cons a b => cases b; exact ⟨[], _, rfl, .nil, a⟩
  | cons e r ih =>
    cases h with
    | cons a b =>
      obtain ⟨gs, v, rfl, h1, h2⟩ := ih b
      exact ⟨_ :: gs, v, rfl, .cons a h1, h2⟩
theorem c_joined_marks (T : Tx K mg CF CR CL) : Cal P w K mg base 1 "joined_marks" (spJM K) := by
  refine cal T.joined_marks scJM (fun vs H Q E h => ?_) (fun _ _ _ _ _ _ us hl => match us, hl with | [_, _], _ => rfl) fun f cdv A outer s H vs Q E hr h => ?_
  · obtain ⟨_, _, _, _, rfl, _⟩ := h; rfl
  · obtain ⟨u, v, a, b, rfl, hu, hv, hl, q⟩ := h
    refine ⟨_, pss_cons (ps_set (i := 2) scJM.nd rfl (.inl rfl) (pe_callTy call_list_of (by rfl) (T.nb "list") (by decide +kernel) (pa_cons (pv 0) pa_nil)))
      (pss_cons (ps_for PassesOwn.never rfl (pi_tup (pv 1)) (pg_tup rfl (pgs_cons (pg_name (i := 3) scJM.nd rfl (.inl rfl)) (pgs_cons (pg_name (i := 4) scJM.nd rfl (.inl rfl)) pgs_nil)))
        (pss_one (ps_if (PW.pt (pw_and (pt_cmpR (op_neT (List Mk) hr.units) (pv 2) (pe_lst pa_nil) (nomark _)) (pw_and1 (pt_cmpR (op_eqT Mk hr.units) (pe_ix ix_list (pv 2) (pe_un un_neg pe_int) (fun _ _ => rfl)) (pe_tup (pa_cons (pv 3) (pa_cons (pe_op op_sub pe_int (pv 4)) pa_nil))) (nomark _)))))
          (pss_one (ps_expr (pe_bm0 PySem.F.plainAttrs_list PySem.F.slot_list_pop PySem.F.type_list_pop mt_pop (pv 2))))
          (pss_one (ps_expr (pe_bm PySem.F.plainAttrs_list PySem.F.slot_list_append PySem.F.type_list_append mt_append (pv 2) (pa_cons (pe_tup (pa_cons (pv 3) (pa_cons (pv 4) pa_nil))) pa_nil)))))))
      (pss_one (ps_ret (pe_tupleOf rfl (T.nb "tuple") (pv 2))))), ?_⟩
    obtain ⟨ua, uxs, rfl, hus, hua⟩ := hu.tup_inv
    obtain ⟨va, vxs, rfl, hvs, hva⟩ := hv.tup_inv
    refine ⟨_, rfl, ua, uxs, rfl, .inr hus, fun p np => ?_⟩
    have lv := hva.len
    rw [List.length_map] at lv
    refine ⟨_, rfl, _, rfl, ⟨vxs, kp_same (same_upd np) _ _ hvs⟩, for_it (walk_tup (xs := vxs)) (fun i σ H' => ∃ y z fs, σ = [some (.ref ua), some (.ref va), some (.ref p), y, z] ∧ LD K H H' p fs ((jn a (b.take i)).map mkD)) ⟨none, none, uxs, rfl, same_upd np, upd_same, hua.move (kp_same (same_upd np))⟩ (fun i σ H' _ hp => ?_) ?_ ?_⟩
    · obtain ⟨_, _, _, _, L⟩ := hp
      exact kp_same L.same _ _ hvs
    · rintro i x σ H0 H1 hi ⟨y, z, fs, rfl, L⟩ ⟨rfl, hx⟩
      obtain ⟨⟨gi, gs⟩, hg, hd⟩ := dtAll_map (hva.move (kp_same L.same)) hx
      obtain ⟨t, rfl, ht⟩ := pair_inv hd
      have hlen1 : (jn a (b.take i)).length < MX := by
        have z := jn_len (b.take i) a
        rw [List.length_take] at z
        omega
      have lf := L.len
      rw [List.length_map] at lf
      have et : jn a (b.take (i + 1)) = psh (jn a (b.take i)) (gi, gs) := jn_take hg
      refine ⟨t, _, rfl, ht, rfl, _, _, rfl, _, _, rfl, rfl, _, rfl, Nat.zero_le _, fun p2 np2 => ?_⟩
      have L2 := L.new (o := .lst []) np2
      have push : ∀ H3, LD K H H3 p fs ((jn a (b.take i)).map mkD) → (jn a (b.take i)).getLast? ≠ some (ng (gi, gs)) → ∀ p3, H3 p3 = none → LD K H (upd (upd H3 p3 (.tup [.int gi, .int gs])) p (.lst (fs ++ [.ref p3]))) p (fs ++ [.ref p3]) ((jn a (b.take (i + 1))).map mkD) := fun H3 L3 hne p3 n3 => by
        rw [et]
        unfold psh
        rw [if_neg hne, List.map_append]
        exact (L3.new n3).push np (dt_pair (.inl (.inl upd_same)))
      refine ⟨jn a (b.take i), [], .lst L2.sq L2.dt.dp, .lst (.inl (.inl upd_same)) .nil, _, rfl, ?_⟩
      refine ite2 (fun h => ?_) (fun h => ?_)
      · have hne : jn a (b.take i) ≠ [] := of_decide_eq_true h
        obtain ⟨r, ⟨zi, zs⟩, e⟩ : ∃ r z, jn a (b.take i) = r ++ [z] := ⟨_, _, (List.dropLast_concat_getLast hne).symm⟩
        have hfe := L2.dt
        rw [e, List.map_append] at hfe
        obtain ⟨fr, fz, rfl, hfr, hfz⟩ := hfe.snoc_inv
        refine ⟨_, rfl, _, rfl, _, _, _, _, rfl, rfl, L2.sq, atI_last _ _, _, rfl, _, rfl, _, _, rfl, rfl, ln2 _ _, fun p4 np4 => ?_⟩
        have L4 := L2.new (o := .tup [.int gi, .int (0 - gs)]) np4
        have hz4 := hfz.move (kp_new (o := .tup [.int gi, .int (0 - gs)]) np4)
        refine ⟨(zi, zs), (gi, 0 - gs), hz4.dp, (dt_pair (.inl (.inl upd_same))).dp, _, rfl, ?_⟩
        have el : (r ++ [(zi, zs)]).getLast? = some (zi, zs) := List.getLast?_concat
        refine ite2 (fun h => ?_) (fun h => ?_)
        · have e2 : (zi, zs) = (gi, 0 - gs) := of_decide_eq_true h
          refine ⟨_, rfl, .inl ⟨rfl, _, L4.sq⟩, _, _, fz, rfl, rfl, L4.at_, by simp, _, _, fr, rfl, ?_⟩
          rw [et, e]
          unfold psh
          rw [el, if_pos (by rw [e2]; rfl), List.dropLast_concat, List.dropLast_concat]
          exact ⟨L4.same.set np, upd_same, (hfr.move (kp_new np4)).move (kp_lst L4.at_)⟩
        · refine ⟨_, rfl, .inl ⟨rfl, _, L4.sq⟩, _, rfl, _, rfl, ln2 _ _, fun p5 np5 => ?_⟩
          refine ⟨p, _, _, rfl, rfl, (L4.new np5).at_, by rw [lf]; exact mx_lt (Nat.le_of_lt hlen1), _, _, _, rfl, push _ L4 ?_ p5 np5⟩
          intro e3
          rw [e, el] at e3
          exact h (decide_eq_true (Option.some.inj e3))
      · have he : jn a (b.take i) = [] := Classical.byContradiction fun hn => h (decide_eq_true hn)
        refine iteF ⟨_, rfl, .inl ⟨rfl, _, L2.sq⟩, _, rfl, _, rfl, ln2 _ _, fun p5 np5 => ?_⟩
        refine ⟨p, _, _, rfl, rfl, (L2.new np5).at_, by rw [lf]; exact mx_lt (Nat.le_of_lt hlen1), _, _, _, rfl, push _ L2 ?_ p5 np5⟩
        rw [he]; exact fun z => (nomatch z)
    · intro σ H1 hz
      obtain ⟨y, z, fs, rfl, L⟩ := hz
      rw [List.take_of_length_le (by omega)] at L
      refine ⟨_, rfl, .inl ⟨p, fs, rfl, L.sq, fun t nt => q _ _ (L.same.trans (same_upd nt)) (.tup (.inl (.inl upd_same)) (L.dt.move (kp_new nt)))⟩⟩
/-! ### undone_marks -/
def spUM (K : PySem.W.Frag) : Sp := fun vs H Q _ => ∃ (u : V) (a : Wd), vs = [u] ∧ Dt K H u (msD a) ∧ a.length ≤ MX ∧ ∀ H' r, Same H H' → Dt K H' r (msD (iv a)) → Q r H'
theorem scUM : FnScope ["marks", "index", "sense"] ["marks"] (defScope (top 17)) := ⟨rfl, rfl, rfl, by decide +kernel, rfl, by decide +kernel, by decide +kernel⟩
theorem walk_revT {a : Addr} {xs : List V} : Walk (RT.ItvT K a xs.length) xs.length (fun H => SqT K H a xs) (fun i H x H' => H' = H ∧ xs[xs.length - 1 - i]? = some x) :=
  ⟨fun i _ hi q => ⟨hi, xs, xs[xs.length - 1 - i]'(by omega), q, by simp [show xs.length - 1 - i < xs.length by omega]⟩, fun _ _ => Nat.le_refl _, fun _ _ _ _ _ q y => ⟨y.1, y.2 xs q⟩⟩
theorem iv_take {a : Wd} {i : Nat} {g : Mk} (h : a[a.length - 1 - i]? = some g) (hi : i < a.length) : (a.reverse.take (i + 1)).map ng = (a.reverse.take i).map ng ++ [ng g] := by
  have e : a.reverse[i]? = some g := by rw [List.getElem?_reverse hi]; exact h
  rw [List.take_add_one, e, List.map_append]
  rfl
theorem c_undone_marks (T : Tx K mg CF CR CL) : Cal P w K mg base 1 "undone_marks" (spUM K) := by
  refine cal T.undone_marks scUM (fun vs H Q E h => ?_) (fun _ _ _ _ _ _ us hl => match us, hl with | [_], _ => rfl) fun f cdv A outer s H vs Q E hr h => ?_
  · obtain ⟨_, _, rfl, _⟩ := h; rfl
  · obtain ⟨u, a, rfl, hu, hl, q⟩ := h
    refine ⟨_, pss_one (ps_ret (pe_tupleOf rfl (T.nb "tuple") (pe_lc (own := [("index", 1), ("sense", 2)]) (g := gTup K 2 (gCons (gName 1) (gCons (gName 2) gNil))) (tt := tYes) rfl scUM.nd (RT.pi_revA (by rfl) (T.nb "reversed") (pv 0)) (blkOk_by (N := ["marks", "index", "sense"]) (sc := defScope (top 17)) (by decide +kernel))
      (fun _ _ _ _ _ => pg_tup rfl (pgs_cons (pg_name (i := 1) scUM.nd rfl (.inl rfl)) (pgs_cons (pg_name (i := 2) scUM.nd rfl (.inl rfl)) pgs_nil)))
      (fun _ _ _ _ _ => pts_nil) (fun _ _ _ _ _ => pe_tup (pa_cons (pv 1) (pa_cons (pe_op op_sub pe_int (pv 2)) pa_nil)))))), ?_⟩
    obtain ⟨ua, uxs, rfl, hus, hua⟩ := hu.tup_inv
    have lv := hua.len
    rw [List.length_map] at lv
    refine ⟨_, rfl, ua, uxs, rfl, .inr ⟨hus, fun D nD => lc_it (walk_revT (xs := uxs)) (fun i H' => ∃ fs, LD K H H' D fs (((a.reverse.take i).map ng).map mkD)) ⟨[], .nil nD⟩ (fun i H' _ ⟨fs, L⟩ => kp_same L.same _ _ hus) ?_ ?_⟩⟩
    · rintro i x H0 H1 hi ⟨fs, L⟩ ⟨rfl, hx⟩
      obtain ⟨⟨gi, gs⟩, hg, hd⟩ := dtAll_map (hua.move (kp_same L.same)) hx
      rw [lv] at hg
      obtain ⟨t, rfl, ht⟩ := pair_inv hd
      refine ⟨t, _, rfl, ht, rfl, _, _, rfl, _, _, rfl, rfl, rfl, ?_⟩
      refine yesT ?_
      refine ⟨_, rfl, _, rfl, _, _, rfl, rfl, ln2 _ _, fun p np => ⟨fs, (L.new np).at_, ?_, fs ++ [.ref p], ?_⟩⟩
      · rw [L.len, List.length_map, List.length_map, List.length_take]
        exact mx_lt (by omega)
      · rw [iv_take hg (by omega), List.map_append]
        exact (L.new np).push nD (dt_pair (.inl (.inl upd_same)))
    · rintro H1 ⟨fs, L⟩
      rw [List.take_of_length_le (by rw [List.length_reverse]; omega)] at L
      exact .inl ⟨D, fs, rfl, L.sq, fun t nt => q _ _ (L.same.trans (same_upd nt)) (.tup (.inl (.inl upd_same)) (L.dt.move (kp_new nt)))⟩
/-! ### told_tie, back_tie -/
theorem islow {c : Nat} (h : Lt c) : Txt.islower (chS c) = lw c := by
  have key : ∀ c : Nat, c < 123 → (65 ≤ c ∧ c ≤ 90 ∨ 97 ≤ c ∧ c ≤ 122) → Txt.islower (chS c) = lw c := by decide +kernel
  rcases h with h | h
  · unfold Small at h; exact key c (by omega) (.inr h)
  · unfold Big at h; exact key c (by omega) (.inl h)
theorem tie_mk {H : Hp} {a : Addr} {h c t : Nat} {mv : V} {m : Wd} (hs : SqT K H a [.int h, .str (chS c), .int t, mv]) (hm : Dt K H mv (msD m)) : Dt K H (.ref a) (tD ⟨h, c, t, m⟩) :=
  .tup hs (.cons (.int _) (.cons (.str _) (.cons (.int _) (.cons hm .nil))))
theorem tie_inv {H : Hp} {v : V} {t : Tie} (h : Dt K H v (tD t)) : ∃ a mv, v = .ref a ∧ SqT K H a [.int t.s, .str (chS t.a), .int t.e, mv] ∧ Dt K H mv (msD t.m) := by
  obtain ⟨a, xs, rfl, hs, ha⟩ := h.tup_inv
  cases ha with
  | cons h1 ha =>
    cases ha with
    | cons h2 ha =>
      cases ha with
      | cons h3 ha =>
        cases ha with
        | cons h4 ha =>
          cases ha
          cases h1.int_inv
          cases h2.str_inv
          cases h3.int_inv
          exact ⟨a, _, rfl, hs, h4⟩
def spTold (K : PySem.W.Frag) : Sp := fun vs H Q _ => ∃ (h c t : Nat) (u : V) (m : Wd), vs = [.int h, .str (chS c), .int t, u] ∧ Lt c ∧ Dt K H u (msD m) ∧ m.length ≤ MX ∧ ∀ H' r, Same H H' → Dt K H' r (tD (told h c t m)) → Q r H'
theorem scTold : FnScope ["here", "letter", "there", "marks"] ["here", "letter", "there", "marks"] (defScope (top 15)) := ⟨rfl, rfl, rfl, by decide +kernel, rfl, by decide +kernel, by decide +kernel⟩
theorem c_told_tie (T : Tx K mg CF CR CL) : Cal P w K mg base 2 "told_tie" (spTold K) := by
  refine cal T.told_tie scTold (fun vs H Q E h => ?_) (fun _ _ _ _ _ _ us hl => match us, hl with | [_, _, _, _], _ => rfl) fun f cdv A outer s H vs Q E hr h => ?_
  · obtain ⟨_, _, _, _, _, rfl, _⟩ := h; rfl
  · obtain ⟨h, c, t, u, m, rfl, hc, hu, hl, q⟩ := h
    refine ⟨_, pss_cons (ps_if (pt_val (pe_m0 PySem.F.slot_str_islower PySem.F.type_str_islower mt_islower (pv 1))) (pss_one (ps_ret (pe_tup (pa_cons (pv 0) (pa_cons (pv 1) (pa_cons (pv 2) (pa_cons (pv 3) pa_nil))))))) pss_nil)
      (pss_one (ps_ret (pe_tup (pa_cons (pv 2) (pa_cons (pe_c (c_undone_letter T) hr (by decide) rfl (pa_cons (pv 1) pa_nil)) (pa_cons (pv 0) (pa_cons (pe_c (c_undone_marks T) hr (by decide) rfl (pa_cons (pv 3) pa_nil)) pa_nil))))))), ?_⟩
    refine ⟨_, rfl, ⟨_, rfl⟩, _, rfl, rfl, trivial, _, rfl, ?_⟩
    rw [islow hc]
    refine ite2 (fun hb => ?_) (fun hb => ?_)
    · refine ⟨_, rfl, _, rfl, _, rfl, _, rfl, ln4 _ _ _ _, fun p np => q _ _ (same_upd np) ?_⟩
      unfold told
      rw [if_pos hb]
      exact tie_mk (.inl (.inl upd_same)) (hu.move (kp_new np))
    · refine ⟨_, rfl, _, rfl, c, rfl, hc, _, rfl, _, rfl, u, m, rfl, hu, hl, fun H' r sm hr' => ⟨ln4 _ _ _ _, fun p np => q _ _ (sm.trans (same_upd np)) ?_⟩⟩
      unfold told
      rw [if_neg hb]
      exact tie_mk (.inl (.inl upd_same)) (hr'.move (kp_new np))
def spBack (K : PySem.W.Frag) : Sp := fun vs H Q _ => ∃ (u : V) (t : Tie), vs = [u] ∧ Dt K H u (tD t) ∧ Lt t.a ∧ t.m.length ≤ MX ∧ ∀ H' r, Same H H' → Dt K H' r (tD (bk t)) → Q r H'
theorem scBack : FnScope ["tie"] ["tie"] (defScope (top 16)) := ⟨rfl, rfl, rfl, by decide +kernel, rfl, by decide +kernel, by decide +kernel⟩
theorem c_back_tie (T : Tx K mg CF CR CL) : Cal P w K mg base 2 "back_tie" (spBack K) := by
  refine cal T.back_tie scBack (fun vs H Q E h => ?_) (fun _ _ _ _ _ _ us hl => match us, hl with | [_], _ => rfl) fun f cdv A outer s H vs Q E hr h => ?_
  · obtain ⟨_, _, rfl, _⟩ := h; rfl
  · obtain ⟨u, t, rfl, hu, hc, hl, q⟩ := h
    obtain ⟨a, mv, rfl, hs, hm⟩ := tie_inv hu
    refine ⟨_, pss_one (ps_ret (pe_tup (pa_cons (pe_ix ix_tup (pv 0) pe_int (fun _ _ => rfl)) (pa_cons (pe_c (c_undone_letter T) hr (by decide) rfl (pa_cons (pe_ix ix_tup (pv 0) pe_int (fun _ _ => rfl)) pa_nil)) (pa_cons (pe_ix ix_tup (pv 0) pe_int (fun _ _ => rfl)) (pa_cons (pe_c (c_undone_marks T) hr (by decide) rfl (pa_cons (pe_ix ix_tup (pv 0) pe_int (fun _ _ => rfl)) pa_nil)) pa_nil)))))), ?_⟩
    refine ⟨_, rfl, a, _, 2, _, rfl, rfl, hs, rfl, _, rfl, a, _, 1, _, rfl, rfl, hs, rfl, t.a, rfl, hc, _, rfl, a, _, 0, _, rfl, rfl, hs, rfl, _, rfl, a, _, 3, _, rfl, rfl, hs, rfl, _, t.m, rfl, hm, hl, fun H' r sm hr' => ⟨ln4 _ _ _ _, fun p np => q _ _ (sm.trans (same_upd np)) ?_⟩⟩
    exact tie_mk (.inl (.inl upd_same)) (hr'.move (kp_new np))
end
end G1
set_option Elab.async false
set_option linter.all false
set_option maxRecDepth 100000
set_option maxHeartbeats 4000000
/-! Fold: __init__, add -/
namespace G1
open PySem PySem.Spec PyProof.Rows L2
open PySem.W (Datum DatumOrd T3 T4 Tup)
section
variable {P : Program} {w : World} {K : PySem.W.Frag} {mg : Str → Option Value} {base : Heap} {CF CR CL : Addr}
/-- all but what stands at a and l stays -/
def Off2 (a l : Addr) (H H' : Hp) : Prop := ∀ b o, b ≠ a → b ≠ l → H b = some o → H' b = some o
theorem Off2.refl (a l : Addr) (H : Hp) : Off2 a l H H := fun _ _ _ _ h => h
theorem Off2.trans {a l : Addr} {H H1 H' : Hp} (x : Off2 a l H H1) (y : Off2 a l H1 H') : Off2 a l H H' := fun b o h1 h2 e => y b o h1 h2 (x b o h1 h2 e)
theorem Off2.same {a l : Addr} {H H1 : Hp} (s : Same H H1) : Off2 a l H H1 := fun b o _ _ e => s b o e
theorem Off2.a {a l : Addr} {H : Hp} {o : HO} : Off2 a l H (upd H a o) := fun b x h1 _ e => by rw [upd_ne h1]; exact e
theorem Off2.l {a l : Addr} {H : Hp} {o : HO} : Off2 a l H (upd H l o) := fun b x _ h2 e => by rw [upd_ne h2]; exact e
/-- a web of ties -/
abbrev foldO (CF dx l : Addr) (n : Nat) : HO := .ins CF dx [("ties", .ref l), ("many", .int n)]
def spFI (CF : Addr) : Sp := fun vs H Q _ => ∃ a dx, vs = [.ref a] ∧ H a = some (.ins CF dx []) ∧ ∀ l, H l = none → Q .non (upd (upd H l (.lst [])) a (foldO CF dx l 1))
theorem scFI : FnScope ["self"] ["self"] (defScope (inClass (top 14) 0)) := ⟨rfl, rfl, rfl, by decide +kernel, rfl, by decide +kernel, by decide +kernel⟩
theorem c_fold (T : Tx K mg CF CR CL) : Mak P w K mg base 1 "Fold" CF (spFI CF) := by
  refine makc T.fInit T.gF scFI (fun vs H Q E h => ?_) (fun _ _ _ _ _ _ us hl => match us, hl with | [_], _ => rfl) fun f cdv A outer s H vs Q E hr h => ?_
  · obtain ⟨_, _, rfl, _⟩ := h; rfl
  · obtain ⟨a, dx, rfl, ha, q⟩ := h
    refine ⟨_, pss_cons (ps_fld (pv 0) (pe_lst pa_nil) rfl) (pss_one (ps_fld (pv 0) pe_int rfl)), ?_⟩
    refine ⟨Nat.zero_le _, fun l nl => ⟨_, rfl, a, CF, dx, [], rfl, ?_, T.cF, T.nFt, (by show 0 < 1000; decide), _, rfl, a, CF, dx, _, rfl, upd_same, T.cF, T.nFm, (by show 1 < 1000; decide), ?_⟩⟩
    · rw [upd_ne (ne_of_none ha nl)]; exact ha
    · rw [upd_upd]; exact q l nl
theorem ring_cons (m : Wd) (c : Nat) (r : List Nat) (h k : Nat) : ringT m (c :: r) h k = told h c (if r = [] then 0 else k) m :: ringT [] r k (k + 1) := by
  cases r with
  | nil => rfl
  | cons d r => rfl
def spAdd (K : PySem.W.Frag) (CF : Addr) : Sp := fun vs H Q _ => ∃ (a dx l : Addr) (k : Nat) (wd : List Nat) (mk : Nat) (fs : List V) (ts : List Tie), vs = [.ref a, .str (tx wd), .int mk] ∧ H a = some (foldO CF dx l k) ∧ H l = some (.lst fs) ∧ DtAll K H fs (ts.map tD) ∧
  LW wd ∧ 0 < k ∧ wd.length ≤ 1000 ∧ ts.length ≤ 10000 ∧ ∀ H' fs', Off2 a l H H' → H' a = some (foldO CF dx l (k + (wd.length - 1))) → H' l = some (.lst fs') → DtAll K H' fs' ((ts ++ ringT [((mk : Int), 1)] wd 0 k).map tD) → Q .non H'
theorem scAdd : FnScope ["self", "word", "mark", "here", "at", "letter", "there"] ["self", "word", "mark"] (defScope (inClass (top 14) 1)) := ⟨rfl, rfl, rfl, by decide +kernel, rfl, by decide +kernel, by decide +kernel⟩
structure AddI (K : PySem.W.Frag) (CF a dx l k : Addr) (wd : List Nat) (mk : Nat) (ts : List Tie) (H : Hp) (i : Nat) (H' : Hp) (here k' : Nat) (fs : List V) (dn : List Tie) : Prop where
  off : Off2 a l H H'
  ha : H' a = some (foldO CF dx l k')
  hl : H' l = some (.lst fs)
  dt : DtAll K H' fs ((ts ++ dn).map tD)
  eq : dn ++ ringT (if i = 0 then [((mk : Int), 1)] else []) (wd.drop i) here k' = ringT [((mk : Int), 1)] wd 0 k
  kk : k' + ((wd.drop i).length - 1) = k + (wd.length - 1)
  pos : 0 < k'
  len : dn.length ≤ i
theorem AddI.new {a dx l k : Addr} {wd : List Nat} {mk : Nat} {ts : List Tie} {H H' : Hp} {i here k' : Nat} {fs : List V} {dn : List Tie} {q : Addr} {o : HO} (I : AddI K CF a dx l k wd mk ts H i H' here k' fs dn) (n : H' q = none) : AddI K CF a dx l k wd mk ts H i (upd H' q o) here k' fs dn :=
  ⟨I.off.trans (.same (same_upd n)), by rw [upd_ne (ne_of_none I.ha n)]; exact I.ha, by rw [upd_ne (ne_of_none I.hl n)]; exact I.hl, I.dt.move (kp_new n), I.eq, I.kk, I.pos, I.len⟩
structure St2 (K : PySem.W.Frag) (CF a dx l : Addr) (ts : List Tie) (H H' : Hp) (k' : Nat) (fs : List V) (dn : List Tie) : Prop where
  off : Off2 a l H H'
  ha : H' a = some (foldO CF dx l k')
  hl : H' l = some (.lst fs)
  dt : DtAll K H' fs ((ts ++ dn).map tD)
theorem AddI.fin {a dx l k : Addr} {wd : List Nat} {mk : Nat} {ts : List Tie} {H H3 : Hp} {i k2 : Nat} {fs : List V} {dn : List Tie} {r : V} {tt : Tie} {th : Nat} (off : Off2 a l H H3) (ha : H3 a = some (foldO CF dx l k2)) (hl : H3 l = some (.lst fs)) (nal : a ≠ l)
    (dt : DtAll K H3 fs ((ts ++ dn).map tD)) (hr : Dt K H3 r (tD tt)) (eq : dn ++ tt :: ringT [] (wd.drop (i + 1)) th k2 = ringT [((mk : Int), 1)] wd 0 k) (kk : k2 + ((wd.drop (i + 1)).length - 1) = k + (wd.length - 1)) (pos : 0 < k2) (len : dn.length ≤ i) :
    AddI K CF a dx l k wd mk ts H (i + 1) (upd H3 l (.lst (fs ++ [r]))) th k2 (fs ++ [r]) (dn ++ [tt]) := by
  refine ⟨off.trans .l, by rw [upd_ne nal]; exact ha, upd_same, ?_, ?_, kk, pos, by rw [List.length_append]; exact Nat.succ_le_succ len⟩
  · rw [← List.append_assoc, List.map_append]
    exact (dt.move (kp_lst hl)).snoc (hr.move (kp_lst hl))
  · rw [if_neg (Nat.succ_ne_zero i), List.append_assoc]
    exact eq
theorem c_add (T : Tx K mg CF CR CL) : Met P w K mg base 3 CF "add" (spAdd K CF) := by
  refine metc T.cF T.fAdd scAdd (fun vs H Q E h => ?_) (fun _ _ _ _ _ _ us hl => match us, hl with | [_, _, _], _ => rfl) fun f cdv A outer s H vs Q E hr h => ?_
  · obtain ⟨_, _, _, _, _, _, _, _, rfl, _⟩ := h; rfl
  · obtain ⟨a, dx, l, k, wd, mk, fs, ts, rfl, ha, hl, hd, hw, hk, hwl, htl, q⟩ := h
    refine ⟨_, pss_cons (ps_set (i := 3) scAdd.nd rfl (.inl rfl) pe_int)
      (pss_one (ps_for PassesOwn.never rfl (pi_enumS rfl (T.nb "enumerate") (pa_cons (pv 1) pa_nil)) (pg_tup rfl (pgs_cons (pg_name (i := 4) scAdd.nd rfl (.inl rfl)) (pgs_cons (pg_name (i := 5) scAdd.nd rfl (.inl rfl)) pgs_nil)))
        (pss_cons (ps_set (i := 6) scAdd.nd rfl (.inl rfl) (pe_ifExp (pt_cmpR op_eq (pv 4) (pe_op op_sub (pe_callB call_len_str (by rfl) (T.nb "len") boot_len (pa_cons (pv 1) pa_nil)) pe_int) (nomark _)) pe_int (pe_fld (pv 0) rfl)))
        (pss_cons (ps_if (pt_cmpR op_ne (pv 6) pe_int (nomark _)) (pss_one (ps_fldaug (pv 0) pe_int in_add)) pss_nil)
        (pss_cons (ps_expr (pe_bm PySem.F.plainAttrs_list PySem.F.slot_list_append PySem.F.type_list_append mt_append (pe_fld (pv 0) rfl)
          (pa_cons (pe_c (c_told_tie T) hr (by decide) rfl (pa_cons (pv 3) (pa_cons (pv 5) (pa_cons (pv 6) (pa_cons (pe_ifExp (pt_cmpR op_eq (pv 4) pe_int (nomark _)) (pe_tup (pa_cons (pe_tup (pa_cons (pv 2) (pa_cons pe_int pa_nil))) pa_nil)) (pe_tup pa_nil)) pa_nil))))) pa_nil)))
        (pss_one (ps_set (i := 3) scAdd.nd rfl (.inl rfl) (pv 6)))))))), ?_⟩
    have nal : a ≠ l := ne_of ha hl (fun z => nomatch z)
    refine ⟨_, rfl, tx wd, rfl, for_it walk_enS (fun i σ H' => ∃ y4 y5 y6 here k' fs' dn, σ = [some (.ref a), some (.str (tx wd)), some (.int mk), some (.int (here : Nat)), y4, y5, y6] ∧ AddI K CF a dx l k wd mk ts H i H' here k' fs' dn)
      ⟨none, none, none, 0, k, fs, [], rfl, .refl _ _ _, ha, hl, by rw [List.append_nil]; exact hd, rfl, by rw [List.drop_zero], hk, Nat.le_refl _⟩ (fun _ _ _ _ _ => trivial) ?_ ?_⟩
    · rintro i x σ H0 H1 hi ⟨y4, y5, y6, here, k', fs', dn, rfl, I⟩ ⟨Tp, x1, x2, rfl, nT, rfl, e1, e2⟩
      cases e1
      have hi' : i < wd.length := by simpa [tx] using hi
      obtain ⟨c, hc, rfl⟩ : ∃ c, wd[i]? = some c ∧ x2 = .str (chS c) := by
        obtain ⟨c, h1, h2⟩ := Option.map_eq_some_iff.mp e2
        exact ⟨c, by simpa [tx] using h1, h2.symm⟩
      have hlt : Lt c := hw c (List.mem_of_getElem? hc)
      have ed : wd.drop i = c :: wd.drop (i + 1) := by
        rw [List.drop_eq_getElem_cons hi']
        congr 1
        exact Option.some.inj ((List.getElem?_eq_getElem hi').symm.trans hc)
      have eq := I.eq
      have kk := I.kk
      rw [ed, ring_cons] at eq
      rw [ed] at kk
      have llen : (wd.drop (i + 1)).length = wd.length - (i + 1) := List.length_drop
      have I1 := I.new (o := .tup [.int (i : Nat), .str (chS c)]) nT
      refine ⟨Tp, _, rfl, .inl (.inl upd_same), rfl, _, _, rfl, _, _, rfl, rfl, ?_⟩
      refine ⟨_, rfl, _, rfl, tx wd, rfl, by rw [tx_len]; exact Nat.le_trans hwl (by decide), _, _, rfl, rfl, rfl, _, rfl, ?_⟩
      have lf : fs'.length = ts.length + dn.length := by
        have z := I.dt.len
        rw [List.length_map, List.length_append] at z
        exact z
      have ll : ts.length + dn.length < sizeLine := Nat.lt_of_le_of_lt (m := 12000) (by have := I.len; omega) (by decide)
      refine ite2 (fun h => ?_) (fun h => ?_)
      · have elast : wd.drop (i + 1) = [] := by
          have := of_decide_eq_true h
          injection this with z
          rw [tx_len] at z
          exact List.drop_of_length_le (by omega)
        rw [elast, if_pos rfl] at eq
        refine ⟨_, rfl, rfl, _, rfl, ?_⟩
        refine iteF ?_
        refine ⟨_, rfl, a, CF, dx, _, _, rfl, I1.ha, T.cF, T.nFt, rfl, .inl ⟨rfl, _, .inl (.inl I1.hl)⟩, _, rfl, _, rfl, _, rfl, _, rfl, rfl, _, rfl, ?_⟩
        refine ite2 (fun h0 => ?_) (fun h0 => ?_)
        · have i0 : i = 0 := by
            have := of_decide_eq_true h0
            injection this with z
            omega
          refine ⟨_, rfl, ln2 _ _, fun p1 np1 => ⟨ln1 _, fun p2 np2 => ?_⟩⟩
          have off9 : Off2 a l H (upd (upd _ p1 (.tup [.int mk, .int 1])) p2 (.tup [.ref p1])) := (I1.off.trans (.same (same_upd np1))).trans (.same (same_upd np2))
          have n1 := ne_of_none I1.ha np1
          have n2 := ne_of_none I1.hl np1
          have ha9 : (upd (upd _ p1 (.tup [.int mk, .int 1])) p2 (.tup [.ref p1])) a = some (foldO CF dx l k') := same_upd np2 _ _ (same_upd np1 _ _ I1.ha)
          have hl9 : (upd (upd _ p1 (.tup [.int mk, .int 1])) p2 (.tup [.ref p1])) l = some (.lst fs') := same_upd np2 _ _ (same_upd np1 _ _ I1.hl)
          have dt9 := (I1.dt.move (kp_new (o := .tup [.int mk, .int 1]) np1)).move (kp_new (o := .tup [.ref p1]) np2)
          have dp1 : Dt K (upd (upd _ p1 (.tup [.int mk, .int 1])) p2 (.tup [.ref p1])) (.ref p1) (mkD ((mk : Int), 1)) := .move (kp_new np2) (dt_pair (.inl (.inl upd_same)))
          rw [if_pos i0] at eq
          refine ⟨here, c, 0, _, [((mk : Int), 1)], rfl, hlt, .tup (.inl (.inl upd_same)) (.cons dp1 .nil), ?_, fun H3 r sm hr3 => ?_⟩
          · first | exact Nat.zero_le _ | (show 1 ≤ MX; decide)
          · have hl3 := sm _ _ hl9
            refine ⟨l, fs', _, rfl, rfl, hl3, by rw [lf]; exact ll, _, rfl, _, _, _, 0, k', _, dn ++ [told here c 0 [((mk : Int), 1)]], rfl, AddI.fin (off9.trans (.same sm)) (sm _ _ ha9) hl3 nal (dt9.move (kp_same sm)) hr3 ?_ (by rw [elast] at kk ⊢; exact kk) I.pos I.len⟩
            rw [elast]; exact eq
        · have i0 : i ≠ 0 := fun e => h0 (by rw [e]; rfl)
          refine ⟨Nat.zero_le _, fun p1 np1 => ?_⟩
          have off9 := I1.off.trans (.same (same_upd (o := .tup []) np1))
          have ha9 := same_upd (o := .tup []) np1 _ _ I1.ha
          have hl9 := same_upd (o := .tup []) np1 _ _ I1.hl
          have dt9 := I1.dt.move (kp_new (o := .tup []) np1)
          rw [if_neg i0] at eq
          refine ⟨here, c, 0, _, ([] : Wd), rfl, hlt, .tup (.inl (.inl upd_same)) .nil, ?_, fun H3 r sm hr3 => ?_⟩
          · first | exact Nat.zero_le _ | (show 1 ≤ MX; decide)
          · have hl3 := sm _ _ hl9
            refine ⟨l, fs', _, rfl, rfl, hl3, by rw [lf]; exact ll, _, rfl, _, _, _, 0, k', _, dn ++ [told here c 0 ([] : Wd)], rfl, AddI.fin (off9.trans (.same sm)) (sm _ _ ha9) hl3 nal (dt9.move (kp_same sm)) hr3 ?_ (by rw [elast] at kk ⊢; exact kk) I.pos I.len⟩
            rw [elast]; exact eq

      · have hnl : wd.drop (i + 1) ≠ [] := fun e => h (by
          have z := congrArg List.length e
          rw [llen] at z
          have : i + 1 = wd.length := by simp at z; omega
          refine decide_eq_true ?_
          rw [tx_len]
          congr 1
          omega)
        rw [if_neg hnl] at eq
        refine ⟨_, rfl, a, CF, dx, _, _, rfl, I1.ha, T.cF, T.nFm, rfl, _, rfl, rfl, _, rfl, ?_⟩
        have kpos := I.pos
        refine ite2 (fun hz => ?_) (fun hz => absurd ?_ hz)
        rotate_left
        · show (!decide (V.int (k' : Int) = V.int 0)) = true
          rw [decide_eq_false]
          · rfl
          · intro e
            injection e with e
            omega
        have I2 : St2 K CF a dx l ts H (upd (upd H0 Tp (.tup [.int (i : Nat), .str (chS c)])) a (foldO CF dx l (k' + 1))) (k' + 1) fs' dn := ⟨I1.off.trans .a, upd_same, by rw [upd_ne nal.symm]; exact I1.hl, I1.dt.move (kp_ins I1.ha)⟩
        refine ⟨_, rfl, a, CF, dx, _, _, rfl, I1.ha, T.cF, T.nFm, rfl, _, _, rfl, rfl, dx, _, I1.ha, (by show 2 < 1000; decide), ?_⟩
        have e9 : HO.ins CF dx (putF "many" (V.int ((k' : Int) + 1)) [(("ties" : Str), V.ref l), (("many" : Str), V.int (k' : Nat))]) = foldO CF dx l (k' + 1) := rfl
        rw [e9]
        refine ⟨_, rfl, a, CF, dx, _, _, rfl, I2.ha, T.cF, T.nFt, rfl, .inl ⟨rfl, _, .inl (.inl I2.hl)⟩, _, rfl, _, rfl, _, rfl, _, rfl, rfl, _, rfl, ?_⟩
        refine ite2 (fun h0 => ?_) (fun h0 => ?_)
        · have i0 : i = 0 := by
            have := of_decide_eq_true h0
            injection this with z
            omega
          refine ⟨_, rfl, ln2 _ _, fun p1 np1 => ⟨ln1 _, fun p2 np2 => ?_⟩⟩
          have off9 : Off2 a l H (upd (upd _ p1 (.tup [.int mk, .int 1])) p2 (.tup [.ref p1])) := (I2.off.trans (.same (same_upd np1))).trans (.same (same_upd np2))
          have n1 := ne_of_none I2.ha np1
          have n2 := ne_of_none I2.hl np1
          have ha9 : (upd (upd _ p1 (.tup [.int mk, .int 1])) p2 (.tup [.ref p1])) a = some (foldO CF dx l (k' + 1)) := same_upd np2 _ _ (same_upd np1 _ _ I2.ha)
          have hl9 : (upd (upd _ p1 (.tup [.int mk, .int 1])) p2 (.tup [.ref p1])) l = some (.lst fs') := same_upd np2 _ _ (same_upd np1 _ _ I2.hl)
          have dt9 := (I2.dt.move (kp_new (o := .tup [.int mk, .int 1]) np1)).move (kp_new (o := .tup [.ref p1]) np2)
          have dp1 : Dt K (upd (upd _ p1 (.tup [.int mk, .int 1])) p2 (.tup [.ref p1])) (.ref p1) (mkD ((mk : Int), 1)) := .move (kp_new np2) (dt_pair (.inl (.inl upd_same)))
          rw [if_pos i0] at eq
          refine ⟨here, c, k', _, [((mk : Int), 1)], rfl, hlt, .tup (.inl (.inl upd_same)) (.cons dp1 .nil), ?_, fun H3 r sm hr3 => ?_⟩
          · first | exact Nat.zero_le _ | (show 1 ≤ MX; decide)
          · have hl3 := sm _ _ hl9
            refine ⟨l, fs', _, rfl, rfl, hl3, by rw [lf]; exact ll, _, rfl, _, _, _, k', (k' + 1), _, dn ++ [told here c k' [((mk : Int), 1)]], rfl, AddI.fin (off9.trans (.same sm)) (sm _ _ ha9) hl3 nal (dt9.move (kp_same sm)) hr3 ?_ (by have : (wd.drop (i + 1)).length ≠ 0 := (fun e => hnl (List.length_eq_zero_iff.mp e)); simp at kk this ⊢; omega) (Nat.succ_pos _) I.len⟩
            exact eq
        · have i0 : i ≠ 0 := fun e => h0 (by rw [e]; rfl)
          refine ⟨Nat.zero_le _, fun p1 np1 => ?_⟩
          have off9 := I2.off.trans (.same (same_upd (o := .tup []) np1))
          have ha9 := same_upd (o := .tup []) np1 _ _ I2.ha
          have hl9 := same_upd (o := .tup []) np1 _ _ I2.hl
          have dt9 := I2.dt.move (kp_new (o := .tup []) np1)
          rw [if_neg i0] at eq
          refine ⟨here, c, k', _, ([] : Wd), rfl, hlt, .tup (.inl (.inl upd_same)) .nil, ?_, fun H3 r sm hr3 => ?_⟩
          · first | exact Nat.zero_le _ | (show 1 ≤ MX; decide)
          · have hl3 := sm _ _ hl9
            refine ⟨l, fs', _, rfl, rfl, hl3, by rw [lf]; exact ll, _, rfl, _, _, _, k', (k' + 1), _, dn ++ [told here c k' ([] : Wd)], rfl, AddI.fin (off9.trans (.same sm)) (sm _ _ ha9) hl3 nal (dt9.move (kp_same sm)) hr3 ?_ (by have : (wd.drop (i + 1)).length ≠ 0 := (fun e => hnl (List.length_eq_zero_iff.mp e)); simp at kk this ⊢; omega) (Nat.succ_pos _) I.len⟩
            exact eq

    · intro σ H1 hz
      obtain ⟨y4, y5, y6, here, k', fs', dn, rfl, I⟩ := hz
      have e : wd.drop (tx wd).cps.size = [] := List.drop_of_length_le (by show _ ≤ wd.toArray.size; simp)
      have eq := I.eq
      have kk := I.kk
      rw [e] at eq kk
      have er : ∀ m, ringT m [] here k' = [] := fun _ => rfl
      rw [er, List.append_nil] at eq
      refine q H1 fs' I.off ?_ I.hl (by rw [← eq]; exact I.dt)
      rw [← kk]; exact I.ha
end
end G1
set_option Elab.async false
set_option linter.all false
set_option maxRecDepth 100000
set_option maxHeartbeats 4000000
/-! dicts by data; Fold.clash -/
namespace G1
open PySem PySem.Spec PyProof.Rows L2
open PySem.W (Datum DatumOrd T3 T4 Tup)
section
variable {P : Program} {w : World} {K : PySem.W.Frag} {mg : Str → Option Value} {base : Heap} {CF CR CL : Addr}
/-- what a dict holds, by its keys -/
def DM {ι κ : Type} [DecidableEq κ] (K : PySem.W.Frag) (H : Hp) (key : ι → κ) (kvs : List (κ × V)) (f : ι → Option PyData) : Prop := ∀ i, match f i with
  | none => valV kvs (key i) = none
  | some d => ∃ v, valV kvs (key i) = some v ∧ Dt K H v d
section
variable {ι κ : Type} [DecidableEq ι] [DecidableEq κ] {key : ι → κ} {kvs : List (κ × V)} {f : ι → Option PyData} {H H' : Hp}
theorem DM.nil : DM K H key ([] : List (κ × V)) (fun _ => none) := fun i => rfl
theorem DM.move (k : Kp K H H') (D : DM K H key kvs f) : DM K H' key kvs f := fun i => by
  have z := D i
  revert z
  cases f i with
  | none => exact id
  | some d => exact fun ⟨v, h1, h2⟩ => ⟨v, h1, h2.move k⟩
theorem DM.none_ (D : DM K H key kvs f) {i : ι} (e : f i = none) : valV kvs (key i) = none := by
  have z := D i
  rw [e] at z
  exact z
theorem DM.some_ (D : DM K H key kvs f) {i : ι} {d : PyData} (e : f i = some d) : ∃ v, valV kvs (key i) = some v ∧ Dt K H v d := by
  have z := D i
  rw [e] at z
  exact z
theorem DM.put (D : DM K H key kvs f) (inj : ∀ i j, key i = key j → i = j) {i : ι} {v : V} {d : PyData} (h : Dt K H v d) : DM K H key (putK kvs (key i) v) (fun j => if j = i then some d else f j) := fun j => by
  by_cases e : j = i
  · simp only [e, if_true]
    exact ⟨v, by rw [valV_put, if_pos rfl], h⟩
  · simp only [e, if_false]
    have z := D j
    have en : key j ≠ key i := fun q => e (inj _ _ q)
    revert z
    cases f j with
    | none => exact fun z => by rw [valV_put, if_neg en]; exact z
    | some d => exact fun ⟨v, h1, h2⟩ => ⟨v, by rw [valV_put, if_neg en]; exact h1, h2⟩
theorem DM.congr {g : ι → Option PyData} (D : DM K H key kvs f) (e : ∀ i, f i = g i) : DM K H key kvs g := by
  have : f = g := funext e
  rw [← this]
  exact D
end
/-- (start, letter) -/
def kSL (p : Nat × Nat) : List Key := [Sum.inl (p.1 : Int), Sum.inr (chS p.2)]
theorem chS_inj {a b : Nat} (h : chS a = chS b) : a = b := by
  unfold chS at h
  injection h with e
  exact List.head_eq_of_cons_eq (congrArg Array.toList e)
theorem kSL_inj (i j : Nat × Nat) (h : kSL i = kSL j) : i = j := by
  unfold kSL at h
  injection h with h1 h2
  injection h2 with h2 _
  have e1 := Sum.inl.inj h1
  have e2 := chS_inj (Sum.inr.inj h2)
  exact Prod.ext (by omega) e2
def fKn (k : Kn) (p : Nat × Nat) : Option PyData := (k p.1 p.2).map tD
theorem fKn_put (k : Kn) (q : Tie) (p : Nat × Nat) : (if p = (q.s, q.a) then some (tD q) else fKn k p) = fKn (knPut k q) p := by
  unfold fKn knPut
  by_cases e : p = (q.s, q.a)
  · rw [if_pos e, if_pos (by rw [e]; exact ⟨rfl, rfl⟩)]
    rfl
  · rw [if_neg e, if_neg (fun z => e (Prod.ext z.1 z.2))]
def spClash (K : PySem.W.Frag) (CF : Addr) : Sp := fun vs H Q _ => ∃ (a dx l : Addr) (k : Nat) (fs : List V) (ts : List Tie), vs = [.ref a] ∧ H a = some (foldO CF dx l k) ∧ H l = some (.lst fs) ∧ DtAll K H fs (ts.map tD) ∧
  Sml ts ∧ (∀ t ∈ ts, t.m.length ≤ MX) ∧ ts.length ≤ 10000 ∧ ∀ H' r, Same H H' → Dt K H' r (match G1.clash ts with | none => .none | some q => .tuple [tD q.1, tD q.2]) → Q r H'
theorem scCl : FnScope ["self", "known", "tie", "start", "letter", "end", "marks"] ["self"] (defScope (inClass (top 14) 2)) := ⟨rfl, rfl, rfl, by decide +kernel, rfl, by decide +kernel, by decide +kernel⟩
theorem hf_cons (t : Tie) (r : List Tie) : hf (t :: r) = t :: bk t :: hf r := rfl
theorem ck_none' {q : Tie} {r : List Tie} {k : Kn} (h : k q.s q.a = none) : ck (q :: r) k = ck r (knPut k q) := by
  show (match k q.s q.a with | some o => _ | none => _) = _
  rw [h]
theorem ck_same {q o : Tie} {r : List Tie} {k : Kn} (h : k q.s q.a = some o) (e : o.e = q.e) : ck (q :: r) k = ck r (knPut k q) := by
  show (match k q.s q.a with | some o => _ | none => _) = _
  rw [h]
  exact if_pos e
theorem ck_diff {q o : Tie} {r : List Tie} {k : Kn} (h : k q.s q.a = some o) (e : o.e ≠ q.e) : ck (q :: r) k = some (o, q) := by
  show (match k q.s q.a with | some o => _ | none => _) = _
  rw [h]
  exact if_neg e
theorem c_clash (T : Tx K mg CF CR CL) : Met P w K mg base 3 CF "clash" (spClash K CF) := by
  refine metc T.cF T.fClash scCl (fun vs H Q E h => ?_) (fun _ _ _ _ _ _ us hl => match us, hl with | [_], _ => rfl) fun f cdv A outer s H vs Q E hr h => ?_
  · obtain ⟨_, _, _, _, _, _, rfl, _⟩ := h; rfl
  · obtain ⟨a, dx, l, k, fs, ts, rfl, ha, hl, hd, hsm, hmx, htl, q⟩ := h
    refine ⟨_, pss_cons (ps_set (i := 1) scCl.nd rfl (.inl rfl) pe_dnewT)
      (pss_cons (ps_for PassesOwn.never rfl (pi_list (pe_fld (pv 0) rfl)) (pg_name (i := 2) scCl.nd rfl (.inl rfl))
        (pss_one (ps_for PassesOwn.never rfl (pi_tup (pe_tup (pa_cons (pv 2) (pa_cons (pe_c (c_back_tie T) hr (by decide) rfl (pa_cons (pv 2) pa_nil)) pa_nil))))
          (pg_tup rfl (pgs_cons (pg_name (i := 3) scCl.nd rfl (.inl rfl)) (pgs_cons (pg_name (i := 4) scCl.nd rfl (.inl rfl)) (pgs_cons (pg_name (i := 5) scCl.nd rfl (.inl rfl)) (pgs_cons (pg_name (i := 6) scCl.nd rfl (.inl rfl)) pgs_nil)))))
          (pss_cons (ps_if (PW.pt (pw_and (pt_cmp (pc_din (hu_of hr) (pe_tup (pa_cons (pv 3) (pa_cons (pv 4) pa_nil))) (pv 1)) rfl) (pw_and1 (pt_cmpR op_ne (pe_ix ix_tup (pe_dget (hu_of hr) (pv 1) (pe_tup (pa_cons (pv 3) (pa_cons (pv 4) pa_nil))) (fun _ _ => rfl)) pe_int (fun _ _ => rfl)) (pv 5) (nomark _)))))
            (pss_one (ps_ret (pe_tup (pa_cons (pe_dget (hu_of hr) (pv 1) (pe_tup (pa_cons (pv 3) (pa_cons (pv 4) pa_nil))) (fun _ _ => rfl)) (pa_cons (pe_tup (pa_cons (pv 3) (pa_cons (pv 4) (pa_cons (pv 5) (pa_cons (pv 6) pa_nil))))) pa_nil)))))
            pss_nil)
          (pss_one (ps_dput (hu_of hr) (pv 1) (pe_tup (pa_cons (pv 3) (pa_cons (pv 4) pa_nil))) (pe_tup (pa_cons (pv 3) (pa_cons (pv 4) (pa_cons (pv 5) (pa_cons (pv 6) pa_nil))))) rfl))))))
      (pss_one (ps_ret pe_non))), ?_⟩
    refine fun d nd => ?_
    have lf := hd.len
    rw [List.length_map] at lf
    refine ⟨_, rfl, a, CF, dx, _, _, rfl, same_upd nd _ _ ha, T.cF, T.nFt, rfl, l, rfl, ⟨fs, .inl (.inl (same_upd nd _ _ hl))⟩, for_it (walk_list (xs := fs))
      (fun i σ H' => ∃ y2 y3 y4 y5 y6 kvs kn, σ = [some (.ref a), some (.ref d), y2, y3, y4, y5, y6] ∧ Same H H' ∧ H' d = some (.dT kvs) ∧ DM K H' kSL kvs (fKn kn) ∧ kvs.length ≤ 2 * i ∧ ck (hf (ts.drop i)) kn = G1.clash ts)
      ⟨none, none, none, none, none, [], kn0, rfl, same_upd nd, upd_same, DM.nil, Nat.le_refl _, rfl⟩ (fun i σ H' _ hp => ?_) ?_ ?_⟩
    · obtain ⟨_, _, _, _, _, _, _, _, sm, _⟩ := hp
      exact .inl (.inl (sm _ _ hl))
    · rintro i x σ H0 H1 hi ⟨y2, y3, y4, y5, y6, kvs, kn, rfl, sm, hdT, D, hk, ec⟩ ⟨rfl, hx⟩
      obtain ⟨t, ht, hdt⟩ := dtAll_map (hd.move (kp_same sm)) hx
      have hit : i < ts.length := by omega
      have ed : ts.drop i = t :: ts.drop (i + 1) := by
        rw [List.drop_eq_getElem_cons hit]
        congr 1
        exact Option.some.inj ((List.getElem?_eq_getElem hit).symm.trans ht)
      rw [ed, hf_cons] at ec
      have tin := List.mem_of_getElem? ht
      have hsml := hsm t tin
      have hmt := hmx t tin
      refine ⟨_, rfl, _, rfl, x, t, rfl, hdt, .inl hsml, hmt, fun H2 bv sm2 hb2 => ⟨ln2 _ _, fun pp npp => ?_⟩⟩
      have sm3 : Same H1 (upd H2 pp (.tup [x, bv])) := sm2.trans (same_upd npp)
      refine ⟨pp, rfl, ⟨_, .inl (.inl upd_same)⟩, for_it (walk_tup (xs := [x, bv]))
        (fun j σ H' => ∃ y3 y4 y5 y6 kvs kn, σ = [some (.ref a), some (.ref d), some x, y3, y4, y5, y6] ∧ Same H H' ∧ Dt K H' x (tD t) ∧ Dt K H' bv (tD (bk t)) ∧ SqT K H' pp [x, bv] ∧ H' d = some (.dT kvs) ∧ DM K H' kSL kvs (fKn kn) ∧ kvs.length ≤ 2 * i + j ∧ ck (([t, bk t].drop j) ++ hf (ts.drop (i + 1))) kn = G1.clash ts)
        ⟨y3, y4, y5, y6, kvs, kn, rfl, sm.trans sm3, hdt.move (kp_same sm3), hb2.move (kp_new npp), .inl (.inl upd_same), sm3 _ _ hdT, D.move (kp_same sm3), by omega, ec⟩ (fun j σ H' _ hp => ?_) ?_ ?_⟩
      · obtain ⟨_, _, _, _, _, _, _, _, _, _, h, _⟩ := hp
        exact h
      · rintro j z σ H0 H3 hj ⟨y3, y4, y5, y6, kvs, kn, rfl, sm, hx1, hx2, hpp, hdT, D, hk, ec⟩ ⟨rfl, hz⟩
        obtain ⟨u, hu, hzu, ec2⟩ : ∃ u : Tie, [t, bk t][j]? = some u ∧ Dt K H3 z (tD u) ∧ ck (u :: ([t, bk t].drop (j + 1) ++ hf (ts.drop (i + 1)))) kn = G1.clash ts := by
          have hj2 : j = 0 ∨ j = 1 := by have : [x, bv].length = 2 := rfl; omega
          rcases hj2 with rfl | rfl
          · cases hz; exact ⟨t, rfl, hx1, ec⟩
          · cases hz; exact ⟨bk t, rfl, hx2, ec⟩
        obtain ⟨za, zm, rfl, hzs, hzm⟩ := tie_inv hzu
        refine ⟨za, _, rfl, hzs, rfl, _, _, rfl, _, _, rfl, _, _, rfl, _, _, rfl, rfl, ?_⟩
        have hkb : ∀ {H4 : Hp} {p : Addr}, (upd H4 p (.tup [.int (u.s : Int), .str (chS u.a)])) p = some (.tup ((kSL (u.s, u.a)).map kV)) := upd_same
        have kl : kvs.length < sizeLine := Nat.lt_of_le_of_lt (m := 30000) (by have : [x, bv].length = 2 := rfl; omega) (by decide)
        have put : ck (u :: ([t, bk t].drop (j + 1) ++ hf (ts.drop (i + 1)))) kn = ck ([t, bk t].drop (j + 1) ++ hf (ts.drop (i + 1))) (knPut kn u) → ∀ H4, Same H3 H4 → ∀ p9, H4 p9 = none → ∀ p10, (upd H4 p9 (.tup [.int u.s, .str (chS u.a), .int u.e, zm])) p10 = none →
            Same H (upd (upd (upd H4 p9 (.tup [.int u.s, .str (chS u.a), .int u.e, zm])) p10 (.tup [.int u.s, .str (chS u.a)])) d (.dT (putK kvs (kSL (u.s, u.a)) (.ref p9)))) ∧ Kp K H3 (upd (upd (upd H4 p9 (.tup [.int u.s, .str (chS u.a), .int u.e, zm])) p10 (.tup [.int u.s, .str (chS u.a)])) d (.dT (putK kvs (kSL (u.s, u.a)) (.ref p9)))) ∧
            (upd (upd H4 p9 (.tup [.int u.s, .str (chS u.a), .int u.e, zm])) p10 (.tup [.int u.s, .str (chS u.a)])) d = some (.dT kvs) ∧
            DM K (upd (upd (upd H4 p9 (.tup [.int u.s, .str (chS u.a), .int u.e, zm])) p10 (.tup [.int u.s, .str (chS u.a)])) d (.dT (putK kvs (kSL (u.s, u.a)) (.ref p9)))) kSL (putK kvs (kSL (u.s, u.a)) (.ref p9)) (fKn (knPut kn u)) ∧ (putK kvs (kSL (u.s, u.a)) (.ref p9)).length ≤ 2 * i + (j + 1) ∧ ck ([t, bk t].drop (j + 1) ++ hf (ts.drop (i + 1))) (knPut kn u) = G1.clash ts := fun en H4 s4 p9 n9 p10 n10 => by
          have s5 : Same H3 (upd (upd H4 p9 (.tup [.int u.s, .str (chS u.a), .int u.e, zm])) p10 (.tup [.int u.s, .str (chS u.a)])) := (s4.trans (same_upd n9)).trans (same_upd n10)
          have hd5 := s5 _ _ hdT
          have kp5 := (kp_same (K := K) s5).trans (kp_dT (o := .dT (putK kvs (kSL (u.s, u.a)) (.ref p9))) hd5)
          refine ⟨(sm.trans s5).set nd, kp5, hd5, ?_, Nat.le_trans (DSub.putK_len _ _ _) (by omega), by rw [← en]; exact ec2⟩
          have hn : Dt K (upd (upd (upd H4 p9 (.tup [.int u.s, .str (chS u.a), .int u.e, zm])) p10 (.tup [.int u.s, .str (chS u.a)])) d (.dT (putK kvs (kSL (u.s, u.a)) (.ref p9)))) (.ref p9) (tD u) := by
            refine tie_mk (m := u.m) ?_ (hzm.move kp5)
            exact kp_dT hd5 _ _ (kp_new n10 _ _ (.inl (.inl upd_same)))
          exact ((D.move kp5).put kSL_inj hn).congr (fKn_put kn u)
        refine ⟨_, rfl, _, rfl, ln2 _ _, fun p1 n1 => ?_⟩
        have s1 : Same H3 (upd H3 p1 (.tup [.int (u.s : Int), .str (chS u.a)])) := same_upd n1
        cases hkn : kn u.s u.a with
        | none =>
          have hv : valV kvs (kSL (u.s, u.a)) = none := D.none_ (by unfold fKn; rw [hkn]; rfl)
          refine ⟨_, rfl, d, _, rfl, .t (s1 _ _ hdT) hkb, _, rfl, ?_⟩
          rw [hv]
          refine iteF (iteF ?_)
          refine ⟨_, rfl, _, rfl, _, rfl, _, rfl, ln4 _ _ _ _, fun p9 n9 => ⟨_, rfl, _, rfl, _, rfl, ln2 _ _, fun p10 n10 => ?_⟩⟩
          obtain ⟨r1, r2, r3, r4, r5, r6⟩ := put (ck_none' hkn) _ s1 p9 n9 p10 n10
          exact ⟨d, _, rfl, .t r3 hkb kl, _, _, _, _, _, knPut kn u, rfl, r1, hx1.move r2, hx2.move r2, r2 _ _ hpp, upd_same, r4, r5, r6⟩
        | some o =>
          obtain ⟨ov, hv, hov⟩ := D.some_ (i := (u.s, u.a)) (by unfold fKn; rw [hkn]; rfl)
          obtain ⟨oa, om, rfl, hos, hom⟩ := tie_inv hov
          refine ⟨_, rfl, d, _, rfl, .t (s1 _ _ hdT) hkb, _, rfl, ?_⟩
          rw [hv]
          refine iteT ?_
          refine ⟨_, rfl, _, rfl, _, rfl, ln2 _ _, fun p2 n2 => ?_⟩
          have s2 := s1.trans (same_upd (o := .tup [.int (u.s : Int), .str (chS u.a)]) n2)
          refine ⟨d, _, rfl, by rw [← hv]; exact .t (s2 _ _ hdT) hkb, oa, _, 2, _, rfl, rfl, kp_same s2 _ _ hos, rfl, _, rfl, rfl, _, rfl, ?_⟩
          refine ite2 (fun he => ?_) (fun he => ?_)
          · have hne : o.e ≠ u.e := fun e => by
              rw [e] at he
              simp at he
            refine ⟨_, rfl, _, rfl, _, rfl, ln2 _ _, fun p3 n3 => ?_⟩
            have s3 := s2.trans (same_upd (o := .tup [.int (u.s : Int), .str (chS u.a)]) n3)
            refine ⟨d, _, rfl, by rw [← hv]; exact .t (s3 _ _ hdT) hkb, _, rfl, _, rfl, _, rfl, _, rfl, ln4 _ _ _ _, fun p4 n4 => ⟨ln2 _ _, fun p5 n5 => q _ _ (((sm.trans s3).trans (same_upd n4)).trans (same_upd n5)) ?_⟩⟩
            rw [← ec2, ck_diff hkn hne]
            have k5 := (kp_same (K := K) s3).trans ((kp_new (o := .tup [.int (u.s : Int), .str (chS u.a), .int u.e, zm]) n4).trans (kp_new (o := .tup [.ref oa, .ref p4]) n5))
            refine .tup (.inl (.inl upd_same)) (.cons (hov.move k5) (.cons (tie_mk (kp_new n5 _ _ (.inl (.inl upd_same))) (hzm.move k5)) .nil))
          · have heq : o.e = u.e := Classical.byContradiction fun hne => he (by
              show (!decide (V.int (o.e : Int) = V.int (u.e : Int))) = true
              rw [decide_eq_false (fun z => hne (by injection z with z; omega))]
              rfl)
            refine ⟨_, rfl, _, rfl, _, rfl, _, rfl, ln4 _ _ _ _, fun p9 n9 => ⟨_, rfl, _, rfl, _, rfl, ln2 _ _, fun p10 n10 => ?_⟩⟩
            obtain ⟨r1, r2, r3, r4, r5, r6⟩ := put (ck_same hkn heq) _ s2 p9 n9 p10 n10
            exact ⟨d, _, rfl, .t r3 hkb kl, _, _, _, _, _, knPut kn u, rfl, r1, hx1.move r2, hx2.move r2, r2 _ _ hpp, upd_same, r4, r5, r6⟩
      · rintro σ H3 ⟨y3, y4, y5, y6, kvs, kn, rfl, sm, hx1, hx2, hpp, hdT, D, hk, ec⟩
        exact ⟨some x, y3, y4, y5, y6, kvs, kn, rfl, sm, hdT, D, by have : [x, bv].length = 2 := rfl; omega, ec⟩
    · rintro σ H1 hz
      obtain ⟨y2, y3, y4, y5, y6, kvs, kn, rfl, sm, hdT, D, hk, ec⟩ := hz
      rw [List.drop_of_length_le (by omega)] at ec
      have e0 : (none : Option (Tie × Tie)) = G1.clash ts := ec
      refine q _ _ sm ?_
      rw [← e0]
      exact .non
end
end G1
set_option Elab.async false
set_option linter.all false
set_option maxRecDepth 100000
set_option maxHeartbeats 4000000
/-! Fold.join -/
namespace G1
open PySem PySem.Spec PyProof.Rows L2
open PySem.W (Datum DatumOrd T3 T4 Tup)
section
variable {P : Program} {w : World} {K : PySem.W.Frag} {mg : Str → Option Value} {base : Heap} {CF CR CL : Addr}
def kT (p : Nat × Nat × Nat) : List Key := [Sum.inl (p.1 : Int), Sum.inr (chS p.2.1), Sum.inl (p.2.2 : Int)]
theorem kT_inj (i j : Nat × Nat × Nat) (h : kT i = kT j) : i = j := by
  unfold kT at h
  injection h with h1 h2
  injection h2 with h2 h3
  injection h3 with h3 _
  have e1 := Sum.inl.inj h1
  have e2 := chS_inj (Sum.inr.inj h2)
  have e3 := Sum.inl.inj h3
  exact Prod.ext (by omega) (Prod.ext e2 (by show i.2.2 = j.2.2; omega))
def fB (f : Nat × Nat × Nat → Bool) (p : Nat × Nat × Nat) : Option PyData := if f p = true then some (.bool true) else none
theorem fB_put (f : Nat × Nat × Nat → Bool) (q p : Nat × Nat × Nat) : (if p = q then some (.bool true) else fB f p) = fB (fun x => f x || decide (x = q)) p := by
  unfold fB
  by_cases e : p = q
  · rw [if_pos e, if_pos (by rw [e]; simp)]
  · rw [if_neg e]
    simp [e]
theorem dd_yes {t : Tie} {r : List Tie} {f : Nat × Nat × Nat → Bool} (h : f (ky t) = true) : dd (t :: r) f = dd r f := by
  show (if f (ky t) = true then _ else _) = _
  exact if_pos h
theorem dd_no {t : Tie} {r : List Tie} {f : Nat × Nat × Nat → Bool} (h : ¬ f (ky t) = true) : dd (t :: r) f = t :: dd r (fun x => f x || decide (x = ky t)) := by
  show (if f (ky t) = true then _ else _) = _
  exact if_neg h
def spJoin (K : PySem.W.Frag) (CF : Addr) : Sp := fun vs H Q _ => ∃ (a dx l : Addr) (k : Nat) (fs : List V) (ts : List Tie) (u v : V) (one other : Tie), vs = [.ref a, u, v] ∧ H a = some (foldO CF dx l k) ∧ H l = some (.lst fs) ∧ DtAll K H fs (ts.map tD) ∧
  Dt K H u (tD one) ∧ Dt K H v (tD other) ∧ Lens ts one other ∧ ts.length ≤ 10000 ∧ ∀ H' l' fs', (∀ b o, b ≠ a → H b = some o → H' b = some o) → H l' = none → l' ≠ a → H' a = some (foldO CF dx l' k) → H' l' = some (.lst fs') → DtAll K H' fs' ((jst ts one other).map tD) → Q .non H'
theorem scJo : FnScope ["self", "one", "other", "kept", "gone", "change", "ties", "known", "start", "letter", "end", "marks"] ["self", "one", "other"] (defScope (inClass (top 14) 3)) := ⟨rfl, rfl, rfl, by decide +kernel, rfl, by decide +kernel, by decide +kernel⟩
theorem LD.pushT {H H' : Hp} {p : Addr} {fs : List V} {dn : List Tie} {tt : Tie} {v : V} (L : LD K H H' p fs (dn.map tD)) (n : H p = none) (h : Dt K H' v (tD tt)) : LD K H (upd H' p (.lst (fs ++ [v]))) p (fs ++ [v]) ((dn ++ [tt]).map tD) := by
  rw [List.map_append]
  exact L.push n h
theorem gT {H : Hp} {d p : Addr} {kvs : List (List Key × V)} {sv a e : Nat} (h : (upd H p (.tup [.int (sv : Int), .str (chS a), .int (e : Int)])) d = some (.dT kvs)) : DGet (upd H p (.tup [.int (sv : Int), .str (chS a), .int (e : Int)])) d (.ref p) (valV kvs (kT (sv, a, e))) := .t h (upd_same (o := .tup ((kT (sv, a, e)).map kV)))
theorem pT {H : Hp} {d p : Addr} {v : V} {kvs : List (List Key × V)} {sv a e : Nat} (h : (upd H p (.tup [.int (sv : Int), .str (chS a), .int (e : Int)])) d = some (.dT kvs)) (hl : kvs.length < sizeLine) : DPut (upd H p (.tup [.int (sv : Int), .str (chS a), .int (e : Int)])) d (.ref p) v (upd (upd H p (.tup [.int (sv : Int), .str (chS a), .int (e : Int)])) d (.dT (putK kvs (kT (sv, a, e)) v))) := .t h (upd_same (o := .tup ((kT (sv, a, e)).map kV))) hl
structure JoI (K : PySem.W.Frag) (H0 : Hp) (p d : Addr) (res : List Tie) (rest : List Tie) (n : Nat) (H' : Hp) (fs : List V) (kvs : List (List Key × V)) (f : Nat × Nat × Nat → Bool) (dn : List Tie) : Prop where
  L : LD K H0 H' p fs (dn.map tD)
  hd : H' d = some (.dT kvs)
  D : DM K H' kT kvs (fB f)
  kl : kvs.length ≤ n
  dl : dn.length ≤ n
  eq : dn ++ dd rest f = res
theorem JoI.go {H0 H' H2 : Hp} {p d : Addr} {res rest : List Tie} {n : Nat} {fs : List V} {kvs : List (List Key × V)} {f : Nat × Nat × Nat → Bool} {dn : List Tie} (J : JoI K H0 p d res rest n H' fs kvs f dn) (s : Same H' H2) : JoI K H0 p d res rest n H2 fs kvs f dn :=
  ⟨J.L.go s, s _ _ J.hd, J.D.move (kp_same s), J.kl, J.dl, J.eq⟩
theorem c_join (T : Tx K mg CF CR CL) : Met P w K mg base 3 CF "join" (spJoin K CF) := by
  refine metc T.cF T.fJoin scJo (fun vs H Q E h => ?_) (fun _ _ _ _ _ _ us hl => match us, hl with | [_, _, _], _ => rfl) fun f cdv A outer s H vs Q E hr h => ?_
  · obtain ⟨_, _, _, _, _, _, _, _, _, _, rfl, _⟩ := h; rfl
  · obtain ⟨a, dx, l, k, fs, ts, u, v, one, other, rfl, ha, hl, hd, hu, hv, ln, htl, q⟩ := h
    refine ⟨_, pss_cons (ps_asg (pe_ifExp (pt_cmpR op_ne (pe_ix ix_tup (pv 2) pe_int (fun _ _ => rfl)) pe_int (nomark _)) (pe_tup (pa_cons (pv 1) (pa_cons (pv 2) pa_nil))) (pe_tup (pa_cons (pv 2) (pa_cons (pv 1) pa_nil))))
        (pg_tup rfl (pgs_cons (pg_name (i := 3) scJo.nd rfl (.inl rfl)) (pgs_cons (pg_name (i := 4) scJo.nd rfl (.inl rfl)) pgs_nil))))
      (pss_cons (ps_set (i := 5) scJo.nd rfl (.inl rfl) (pe_c (c_joined_marks T) hr (by decide) rfl (pa_cons (pe_c (c_undone_marks T) hr (by decide) rfl (pa_cons (pe_ix ix_tup (pv 3) pe_int (fun _ _ => rfl)) pa_nil)) (pa_cons (pe_ix ix_tup (pv 4) pe_int (fun _ _ => rfl)) pa_nil))))
      (pss_cons (ps_par (i := 6) (j := 7) (by rfl) scJo.nd rfl rfl (by decide) rfl rfl (pa_cons (pe_lst pa_nil) (pa_cons pe_dnewT pa_nil)) (by rfl))
      (pss_cons (ps_for PassesOwn.never rfl (pi_list (pe_fld (pv 0) rfl)) (pg_tup rfl (pgs_cons (pg_name (i := 8) scJo.nd rfl (.inl rfl)) (pgs_cons (pg_name (i := 9) scJo.nd rfl (.inl rfl)) (pgs_cons (pg_name (i := 10) scJo.nd rfl (.inl rfl)) (pgs_cons (pg_name (i := 11) scJo.nd rfl (.inl rfl)) pgs_nil)))))
        (pss_cons (ps_if (pt_cmpR op_eq (pv 8) (pe_ix ix_tup (pv 4) pe_int (fun _ _ => rfl)) (nomark _)) (pss_one (ps_par (i := 8) (j := 11) (by rfl) scJo.nd rfl rfl (by decide) rfl rfl (pa_cons (pe_ix ix_tup (pv 3) pe_int (fun _ _ => rfl)) (pa_cons (pe_c (c_joined_marks T) hr (by decide) rfl (pa_cons (pv 5) (pa_cons (pv 11) pa_nil))) pa_nil)) (by rfl))) pss_nil)
        (pss_cons (ps_if (pt_cmpR op_eq (pv 10) (pe_ix ix_tup (pv 4) pe_int (fun _ _ => rfl)) (nomark _)) (pss_one (ps_par (i := 10) (j := 11) (by rfl) scJo.nd rfl rfl (by decide) rfl rfl (pa_cons (pe_ix ix_tup (pv 3) pe_int (fun _ _ => rfl)) (pa_cons (pe_c (c_joined_marks T) hr (by decide) rfl (pa_cons (pv 11) (pa_cons (pe_c (c_undone_marks T) hr (by decide) rfl (pa_cons (pv 5) pa_nil)) pa_nil))) pa_nil)) (by rfl))) pss_nil)
        (pss_one (ps_if (pt_cmp (pc_dnotin (hu_of hr) (pe_tup (pa_cons (pv 8) (pa_cons (pv 9) (pa_cons (pv 10) pa_nil)))) (pv 7)) rfl)
          (pss_cons (ps_dput (hu_of hr) (pv 7) (pe_tup (pa_cons (pv 8) (pa_cons (pv 9) (pa_cons (pv 10) pa_nil)))) pe_bl rfl)
          (pss_one (ps_expr (pe_bm PySem.F.plainAttrs_list PySem.F.slot_list_append PySem.F.type_list_append mt_append (pv 6) (pa_cons (pe_tup (pa_cons (pv 8) (pa_cons (pv 9) (pa_cons (pv 10) (pa_cons (pv 11) pa_nil))))) pa_nil))))) pss_nil)))))
      (pss_one (ps_fld (pv 0) (pv 6) rfl))))), ?_⟩
    obtain ⟨ua, um, rfl, hus, hum⟩ := tie_inv hu
    obtain ⟨va, vm, rfl, hvs, hvm⟩ := tie_inv hv
    have lf := hd.len
    rw [List.length_map] at lf
    -- behind the first line: kept and gone
    refine ⟨_, rfl, va, _, 2, _, rfl, rfl, hvs, rfl, rfl, _, rfl, ?_⟩
    refine ite2 (fun hb => ?_) (fun hb => ?_)
    · refine ⟨_, rfl, _, rfl, ln2 _ _, fun p0 n0 => ?_⟩
      have s0 : Same H (upd H p0 (.tup [.ref ua, .ref va])) := same_upd n0
      have h0 : other.e ≠ 0 := fun e => by
        rw [e] at hb
        simp at hb
      have ek : kpt one other = one := if_pos h0
      have eg : gne one other = other := if_pos h0
      have hks := kp_same (K := K) s0 _ _ hus
      have hgs := kp_same (K := K) s0 _ _ hvs
      have hkm := hum.move (kp_same s0)
      have hgm := hvm.move (kp_same s0)
      refine ⟨p0, _, rfl, .inl (.inl upd_same), rfl, _, _, rfl, _, _, rfl, rfl, ?_⟩
      have l2 := ln.two
      rw [ek, eg] at l2
      have lc := ln.chg
      rw [ek, eg] at lc
      have le := ln.each
      rw [ek, eg] at le
      refine ⟨_, rfl, ua, _, 3, _, rfl, rfl, hks, rfl, _, (one).m, rfl, hkm, by omega, fun H1 c1 s1 hc1 => ?_⟩
      refine ⟨_, rfl, va, _, 3, _, rfl, rfl, kp_same s1 _ _ hgs, rfl, _, _, iv (one).m, (other).m, rfl, hc1, hgm.move (kp_same s1), by rw [iv_len]; omega, fun H2 c2 s2 hc2 => ?_⟩
      refine ⟨Nat.zero_le _, fun p np d nd => ⟨_, _, rfl, ?_⟩⟩
      have S2 : Same H H2 := s0.trans (s1.trans s2)
      have nd2 : H2 d = none := (same_upd np).free nd
      have npd : p ≠ d := fun e => by rw [← e, upd_same] at nd; cases nd
      have s3 : Same H2 (upd (upd H2 p (.lst [])) d (.dT [])) := (same_upd np).trans (same_upd nd)
      have hk2 := kp_same (K := K) (s1.trans s2) _ _ hks
      have hg2 := kp_same (K := K) (s1.trans s2) _ _ hgs
      have jq : jst ts one other = dd (ts.map (mv (one) (other))) no := by unfold jst; rw [ek, eg]
      refine ⟨_, rfl, a, CF, dx, _, _, rfl, s3 _ _ (S2 _ _ ha), T.cF, T.nFt, rfl, l, rfl, ⟨fs, .inl (.inl (s3 _ _ (S2 _ _ hl)))⟩, for_it (walk_list (xs := fs))
        (fun i σ H' => ∃ y8 y9 y10 y11 gs kvs f dn, σ = [some (.ref a), some (.ref ua), some (.ref va), some (.ref ua), some (.ref va), some c2, some (.ref p), some (.ref d), y8, y9, y10, y11] ∧ JoI K H2 p d (jst ts one other) ((ts.drop i).map (mv (one) (other))) i H' gs kvs f dn)
        ⟨none, none, none, none, [], [], no, [], rfl, ⟨s3, by rw [upd_ne npd, upd_same], .nil⟩, upd_same, DM.nil, Nat.le_refl _, Nat.le_refl _, jq.symm⟩ (fun i σ H' _ hp => ?_) ?_ ?_⟩
      · obtain ⟨_, _, _, _, _, _, _, _, _, J⟩ := hp
        exact .inl (.inl (J.L.same _ _ (S2 _ _ hl)))
      · rintro i x σ H0 H3 hi ⟨y8, y9, y10, y11, gs, kvs, f, dn, rfl, J⟩ ⟨rfl, hx⟩
        obtain ⟨t, ht, hdt⟩ := dtAll_map (hd.move (kp_same (S2.trans J.L.same))) hx
        have hit : i < ts.length := by omega
        have ed : ts.drop i = t :: ts.drop (i + 1) := by
          rw [List.drop_eq_getElem_cons hit]
          congr 1
          exact Option.some.inj ((List.getElem?_eq_getElem hit).symm.trans ht)
        have J0 := J
        rw [ed, List.map_cons] at J0
        obtain ⟨ta, tm, rfl, hts, htm⟩ := tie_inv hdt
        have hk3 := kp_same (K := K) J.L.same _ _ hk2
        have hg3 := kp_same (K := K) J.L.same _ _ hg2
        have hc3 := hc2.move (kp_same J.L.same)
        obtain ⟨b1, b2, b3⟩ := le t (List.mem_of_getElem? ht)
        refine ⟨ta, _, rfl, hts, rfl, _, _, rfl, _, _, rfl, _, _, rfl, _, _, rfl, rfl, ?_⟩
        refine ⟨_, rfl, _, rfl, va, _, 2, _, rfl, rfl, hg3, rfl, rfl, _, rfl, ?_⟩
        refine ite2 (fun h1 => ?_) (fun h1 => ?_)
        · have e1 : t.s = (other).e := by
            have := of_decide_eq_true h1
            injection this with z
            omega
          have em : mvS (one) (other) t = ⟨(one).e, t.a, t.e, jn (chg (one) (other)) t.m⟩ := if_pos e1
          refine ⟨_, rfl, ua, _, 2, _, rfl, rfl, hk3, rfl, _, rfl, _, rfl, _, _, chg (one) (other), t.m, rfl, hc3, htm, b1, fun H4 m4 s4 hm4 => ⟨_, _, rfl, ?_⟩⟩
          have k3 := kp_same (K := K) s4 _ _ hk3
          have g3 := kp_same (K := K) s4 _ _ hg3
          have c3 := hc3.move (kp_same s4)
          have J1 := J0.go s4
          refine ⟨_, rfl, _, rfl, va, _, 2, _, rfl, rfl, g3, rfl, rfl, _, rfl, ?_⟩
          refine ite2 (fun h2 => ?_) (fun h2 => ?_)
          · have e2 : t.e = (other).e := by
              have := of_decide_eq_true h2
              injection this with z
              omega
            have ev : mv (one) (other) t = ⟨(mvS (one) (other) t).s, t.a, (one).e, jn (mvS (one) (other) t).m (iv (chg (one) (other)))⟩ := by
              show mvE _ _ _ _ = _
              unfold mvE
              rw [if_pos e2, em]
            rw [em] at ev b2
            refine ⟨_, rfl, ua, _, 2, _, rfl, rfl, k3, rfl, _, rfl, _, rfl, c2, chg (one) (other), rfl, c3, lc, fun H5 m5 s5 hm5 => ⟨_, _, _, _, rfl, hm4.move (kp_same s5), hm5, by rw [iv_len]; exact b2, fun H6 m6 s6 hm6 => ⟨_, _, rfl, ?_⟩⟩⟩
            have J2 := J1.go (s5.trans s6)
            rw [ev] at J2
            refine ⟨_, rfl, _, rfl, _, rfl, ln3 _ _ _, fun p1 n1 => ?_⟩
            have J3 := J2.go (same_upd (o := .tup [.int (((one).e : Nat) : Int), .str (chS t.a), .int (((one).e : Nat) : Int)]) n1)
            have hm3 := hm6.move (kp_new (o := .tup [.int (((one).e : Nat) : Int), .str (chS t.a), .int (((one).e : Nat) : Int)]) n1)
            by_cases hf : f (((one).e, t.a, (one).e)) = true
            · obtain ⟨fv, hv1, _⟩ := J3.D.some_ (i := ((one).e, t.a, (one).e)) (by unfold fB; exact if_pos hf)
              refine ⟨_, rfl, d, _, rfl, gT J3.hd, _, rfl, ?_⟩
              rw [show valV kvs (kT (((one).e, t.a, (one).e))) = some fv from hv1]
              refine iteF ⟨_, _, _, _, gs, kvs, f, dn, rfl, J3.L, J3.hd, J3.D, Nat.le_succ_of_le J3.kl, Nat.le_succ_of_le J3.dl, ?_⟩
              have e := J3.eq
              rw [dd_yes hf] at e
              exact e
            · have hv1 := J3.D.none_ (i := ((one).e, t.a, (one).e)) (by unfold fB; exact if_neg hf)
              refine ⟨_, rfl, d, _, rfl, gT J3.hd, _, rfl, ?_⟩
              rw [show valV kvs (kT (((one).e, t.a, (one).e))) = none from hv1]
              refine iteT ?_
              refine ⟨_, rfl, _, rfl, _, rfl, _, rfl, ln3 _ _ _, fun p2 n2 => ?_⟩
              have J4 := J3.go (same_upd (o := .tup [.int (((one).e : Nat) : Int), .str (chS t.a), .int (((one).e : Nat) : Int)]) n2)
              have hm4' := hm3.move (kp_new (o := .tup [.int (((one).e : Nat) : Int), .str (chS t.a), .int (((one).e : Nat) : Int)]) n2)
              refine ⟨d, _, rfl, pT J4.hd (Nat.lt_of_le_of_lt J4.kl (Nat.lt_of_lt_of_le hit (Nat.le_trans htl (by decide)))), ?_⟩
              have kd := kp_dT (K := K) (o := .dT (putK kvs (kT ((one).e, t.a, (one).e)) (.bl true))) J4.hd
              have L5 : LD K H2 (upd (upd (upd _ p1 (.tup [.int (((one).e : Nat) : Int), .str (chS t.a), .int (((one).e : Nat) : Int)])) p2 (.tup [.int (((one).e : Nat) : Int), .str (chS t.a), .int (((one).e : Nat) : Int)])) d (.dT (putK kvs (kT (((one).e, t.a, (one).e))) (.bl true)))) p gs (dn.map tD) := ⟨J4.L.same.set nd2, by rw [upd_ne npd]; exact J4.L.at_, J4.L.dt.move kd⟩
              refine ⟨_, rfl, .inl ⟨rfl, _, L5.sq⟩, _, rfl, _, rfl, _, rfl, _, rfl, ln4 _ _ _ _, fun p3 n3 => ?_⟩
              have L6 := L5.new (o := .tup [.int (((one).e : Nat) : Int), .str (chS t.a), .int (((one).e : Nat) : Int), m6]) n3
              have lg : gs.length < sizeLine := by
                have z := J.L.len
                rw [List.length_map] at z
                rw [z]
                exact Nat.lt_of_le_of_lt J4.dl (Nat.lt_of_lt_of_le hit (Nat.le_trans htl (by decide)))
              have hn := tie_mk (h := (one).e) (c := t.a) (t := (one).e) (.inl (.inl (upd_same (a := p3)))) ((hm4'.move kd).move (kp_new (o := .tup [.int (((one).e : Nat) : Int), .str (chS t.a), .int (((one).e : Nat) : Int), m6]) n3))
              have L7 := L6.pushT np hn
              refine ⟨p, gs, _, rfl, rfl, L6.at_, lg, _, _, _, _, gs ++ [.ref p3], putK kvs (kT ((one).e, t.a, (one).e)) (.bl true), (fun x => f x || decide (x = ((one).e, t.a, (one).e))), dn ++ [_], rfl, L7, ?_, ?_, Nat.le_trans (DSub.putK_len _ _ _) (Nat.succ_le_succ J4.kl), by rw [List.length_append]; exact Nat.succ_le_succ J4.dl, ?_⟩
              · rw [upd_ne npd.symm]
                exact same_upd n3 _ _ upd_same
              · exact ((((J4.D.move kd).put kT_inj (.bl true)).congr (fB_put f _)).move (kp_new n3)).move (kp_lst L6.at_)
              · have e := J4.eq
                rw [dd_no hf] at e
                rw [List.append_assoc]
                exact e
          · have e2 : ¬ t.e = (other).e := fun e => h2 (by rw [e]; exact decide_eq_true rfl)
            have ev : mv (one) (other) t = mvS (one) (other) t := if_neg e2
            rw [em] at ev
            have J2 := J1
            rw [ev] at J2
            refine ⟨_, rfl, _, rfl, _, rfl, ln3 _ _ _, fun p1 n1 => ?_⟩
            have J3 := J2.go (same_upd (o := .tup [.int (((one).e : Nat) : Int), .str (chS t.a), .int ((t.e : Nat) : Int)]) n1)
            have hm3 := hm4.move (kp_new (o := .tup [.int (((one).e : Nat) : Int), .str (chS t.a), .int ((t.e : Nat) : Int)]) n1)
            by_cases hf : f (((one).e, t.a, t.e)) = true
            · obtain ⟨fv, hv1, _⟩ := J3.D.some_ (i := ((one).e, t.a, t.e)) (by unfold fB; exact if_pos hf)
              refine ⟨_, rfl, d, _, rfl, gT J3.hd, _, rfl, ?_⟩
              rw [show valV kvs (kT (((one).e, t.a, t.e))) = some fv from hv1]
              refine iteF ⟨_, _, _, _, gs, kvs, f, dn, rfl, J3.L, J3.hd, J3.D, Nat.le_succ_of_le J3.kl, Nat.le_succ_of_le J3.dl, ?_⟩
              have e := J3.eq
              rw [dd_yes hf] at e
              exact e
            · have hv1 := J3.D.none_ (i := ((one).e, t.a, t.e)) (by unfold fB; exact if_neg hf)
              refine ⟨_, rfl, d, _, rfl, gT J3.hd, _, rfl, ?_⟩
              rw [show valV kvs (kT (((one).e, t.a, t.e))) = none from hv1]
              refine iteT ?_
              refine ⟨_, rfl, _, rfl, _, rfl, _, rfl, ln3 _ _ _, fun p2 n2 => ?_⟩
              have J4 := J3.go (same_upd (o := .tup [.int (((one).e : Nat) : Int), .str (chS t.a), .int ((t.e : Nat) : Int)]) n2)
              have hm4' := hm3.move (kp_new (o := .tup [.int (((one).e : Nat) : Int), .str (chS t.a), .int ((t.e : Nat) : Int)]) n2)
              refine ⟨d, _, rfl, pT J4.hd (Nat.lt_of_le_of_lt J4.kl (Nat.lt_of_lt_of_le hit (Nat.le_trans htl (by decide)))), ?_⟩
              have kd := kp_dT (K := K) (o := .dT (putK kvs (kT ((one).e, t.a, t.e)) (.bl true))) J4.hd
              have L5 : LD K H2 (upd (upd (upd _ p1 (.tup [.int (((one).e : Nat) : Int), .str (chS t.a), .int ((t.e : Nat) : Int)])) p2 (.tup [.int (((one).e : Nat) : Int), .str (chS t.a), .int ((t.e : Nat) : Int)])) d (.dT (putK kvs (kT (((one).e, t.a, t.e))) (.bl true)))) p gs (dn.map tD) := ⟨J4.L.same.set nd2, by rw [upd_ne npd]; exact J4.L.at_, J4.L.dt.move kd⟩
              refine ⟨_, rfl, .inl ⟨rfl, _, L5.sq⟩, _, rfl, _, rfl, _, rfl, _, rfl, ln4 _ _ _ _, fun p3 n3 => ?_⟩
              have L6 := L5.new (o := .tup [.int (((one).e : Nat) : Int), .str (chS t.a), .int ((t.e : Nat) : Int), m4]) n3
              have lg : gs.length < sizeLine := by
                have z := J.L.len
                rw [List.length_map] at z
                rw [z]
                exact Nat.lt_of_le_of_lt J4.dl (Nat.lt_of_lt_of_le hit (Nat.le_trans htl (by decide)))
              have hn := tie_mk (h := (one).e) (c := t.a) (t := t.e) (.inl (.inl (upd_same (a := p3)))) ((hm4'.move kd).move (kp_new (o := .tup [.int (((one).e : Nat) : Int), .str (chS t.a), .int ((t.e : Nat) : Int), m4]) n3))
              have L7 := L6.pushT np hn
              refine ⟨p, gs, _, rfl, rfl, L6.at_, lg, _, _, _, _, gs ++ [.ref p3], putK kvs (kT ((one).e, t.a, t.e)) (.bl true), (fun x => f x || decide (x = ((one).e, t.a, t.e))), dn ++ [_], rfl, L7, ?_, ?_, Nat.le_trans (DSub.putK_len _ _ _) (Nat.succ_le_succ J4.kl), by rw [List.length_append]; exact Nat.succ_le_succ J4.dl, ?_⟩
              · rw [upd_ne npd.symm]
                exact same_upd n3 _ _ upd_same
              · exact ((((J4.D.move kd).put kT_inj (.bl true)).congr (fB_put f _)).move (kp_new n3)).move (kp_lst L6.at_)
              · have e := J4.eq
                rw [dd_no hf] at e
                rw [List.append_assoc]
                exact e
        · have e1 : ¬ t.s = (other).e := fun e => h1 (by rw [e]; exact decide_eq_true rfl)
          have em : mvS (one) (other) t = t := if_neg e1
          have s4 : Same H3 H3 := Same.refl _
          have k3 := kp_same (K := K) s4 _ _ hk3
          have g3 := kp_same (K := K) s4 _ _ hg3
          have c3 := hc3.move (kp_same s4)
          have J1 := J0.go s4
          refine ⟨_, rfl, _, rfl, va, _, 2, _, rfl, rfl, g3, rfl, rfl, _, rfl, ?_⟩
          refine ite2 (fun h2 => ?_) (fun h2 => ?_)
          · have e2 : t.e = (other).e := by
              have := of_decide_eq_true h2
              injection this with z
              omega
            have ev : mv (one) (other) t = ⟨(mvS (one) (other) t).s, t.a, (one).e, jn (mvS (one) (other) t).m (iv (chg (one) (other)))⟩ := by
              show mvE _ _ _ _ = _
              unfold mvE
              rw [if_pos e2, em]
            rw [em] at ev b2
            refine ⟨_, rfl, ua, _, 2, _, rfl, rfl, k3, rfl, _, rfl, _, rfl, c2, chg (one) (other), rfl, c3, lc, fun H5 m5 s5 hm5 => ⟨_, _, _, _, rfl, htm.move (kp_same s5), hm5, by rw [iv_len]; exact b2, fun H6 m6 s6 hm6 => ⟨_, _, rfl, ?_⟩⟩⟩
            have J2 := J1.go (s5.trans s6)
            rw [ev] at J2
            refine ⟨_, rfl, _, rfl, _, rfl, ln3 _ _ _, fun p1 n1 => ?_⟩
            have J3 := J2.go (same_upd (o := .tup [.int ((t.s : Nat) : Int), .str (chS t.a), .int (((one).e : Nat) : Int)]) n1)
            have hm3 := hm6.move (kp_new (o := .tup [.int ((t.s : Nat) : Int), .str (chS t.a), .int (((one).e : Nat) : Int)]) n1)
            by_cases hf : f ((t.s, t.a, (one).e)) = true
            · obtain ⟨fv, hv1, _⟩ := J3.D.some_ (i := (t.s, t.a, (one).e)) (by unfold fB; exact if_pos hf)
              refine ⟨_, rfl, d, _, rfl, gT J3.hd, _, rfl, ?_⟩
              rw [show valV kvs (kT ((t.s, t.a, (one).e))) = some fv from hv1]
              refine iteF ⟨_, _, _, _, gs, kvs, f, dn, rfl, J3.L, J3.hd, J3.D, Nat.le_succ_of_le J3.kl, Nat.le_succ_of_le J3.dl, ?_⟩
              have e := J3.eq
              rw [dd_yes hf] at e
              exact e
            · have hv1 := J3.D.none_ (i := (t.s, t.a, (one).e)) (by unfold fB; exact if_neg hf)
              refine ⟨_, rfl, d, _, rfl, gT J3.hd, _, rfl, ?_⟩
              rw [show valV kvs (kT ((t.s, t.a, (one).e))) = none from hv1]
              refine iteT ?_
              refine ⟨_, rfl, _, rfl, _, rfl, _, rfl, ln3 _ _ _, fun p2 n2 => ?_⟩
              have J4 := J3.go (same_upd (o := .tup [.int ((t.s : Nat) : Int), .str (chS t.a), .int (((one).e : Nat) : Int)]) n2)
              have hm4' := hm3.move (kp_new (o := .tup [.int ((t.s : Nat) : Int), .str (chS t.a), .int (((one).e : Nat) : Int)]) n2)
              refine ⟨d, _, rfl, pT J4.hd (Nat.lt_of_le_of_lt J4.kl (Nat.lt_of_lt_of_le hit (Nat.le_trans htl (by decide)))), ?_⟩
              have kd := kp_dT (K := K) (o := .dT (putK kvs (kT (t.s, t.a, (one).e)) (.bl true))) J4.hd
              have L5 : LD K H2 (upd (upd (upd _ p1 (.tup [.int ((t.s : Nat) : Int), .str (chS t.a), .int (((one).e : Nat) : Int)])) p2 (.tup [.int ((t.s : Nat) : Int), .str (chS t.a), .int (((one).e : Nat) : Int)])) d (.dT (putK kvs (kT ((t.s, t.a, (one).e))) (.bl true)))) p gs (dn.map tD) := ⟨J4.L.same.set nd2, by rw [upd_ne npd]; exact J4.L.at_, J4.L.dt.move kd⟩
              refine ⟨_, rfl, .inl ⟨rfl, _, L5.sq⟩, _, rfl, _, rfl, _, rfl, _, rfl, ln4 _ _ _ _, fun p3 n3 => ?_⟩
              have L6 := L5.new (o := .tup [.int ((t.s : Nat) : Int), .str (chS t.a), .int (((one).e : Nat) : Int), m6]) n3
              have lg : gs.length < sizeLine := by
                have z := J.L.len
                rw [List.length_map] at z
                rw [z]
                exact Nat.lt_of_le_of_lt J4.dl (Nat.lt_of_lt_of_le hit (Nat.le_trans htl (by decide)))
              have hn := tie_mk (h := t.s) (c := t.a) (t := (one).e) (.inl (.inl (upd_same (a := p3)))) ((hm4'.move kd).move (kp_new (o := .tup [.int ((t.s : Nat) : Int), .str (chS t.a), .int (((one).e : Nat) : Int), m6]) n3))
              have L7 := L6.pushT np hn
              refine ⟨p, gs, _, rfl, rfl, L6.at_, lg, _, _, _, _, gs ++ [.ref p3], putK kvs (kT (t.s, t.a, (one).e)) (.bl true), (fun x => f x || decide (x = (t.s, t.a, (one).e))), dn ++ [_], rfl, L7, ?_, ?_, Nat.le_trans (DSub.putK_len _ _ _) (Nat.succ_le_succ J4.kl), by rw [List.length_append]; exact Nat.succ_le_succ J4.dl, ?_⟩
              · rw [upd_ne npd.symm]
                exact same_upd n3 _ _ upd_same
              · exact ((((J4.D.move kd).put kT_inj (.bl true)).congr (fB_put f _)).move (kp_new n3)).move (kp_lst L6.at_)
              · have e := J4.eq
                rw [dd_no hf] at e
                rw [List.append_assoc]
                exact e
          · have e2 : ¬ t.e = (other).e := fun e => h2 (by rw [e]; exact decide_eq_true rfl)
            have ev : mv (one) (other) t = mvS (one) (other) t := if_neg e2
            rw [em] at ev
            have J2 := J1
            rw [ev] at J2
            refine ⟨_, rfl, _, rfl, _, rfl, ln3 _ _ _, fun p1 n1 => ?_⟩
            have J3 := J2.go (same_upd (o := .tup [.int ((t.s : Nat) : Int), .str (chS t.a), .int ((t.e : Nat) : Int)]) n1)
            have hm3 := htm.move (kp_new (o := .tup [.int ((t.s : Nat) : Int), .str (chS t.a), .int ((t.e : Nat) : Int)]) n1)
            by_cases hf : f ((t.s, t.a, t.e)) = true
            · obtain ⟨fv, hv1, _⟩ := J3.D.some_ (i := (t.s, t.a, t.e)) (by unfold fB; exact if_pos hf)
              refine ⟨_, rfl, d, _, rfl, gT J3.hd, _, rfl, ?_⟩
              rw [show valV kvs (kT ((t.s, t.a, t.e))) = some fv from hv1]
              refine iteF ⟨_, _, _, _, gs, kvs, f, dn, rfl, J3.L, J3.hd, J3.D, Nat.le_succ_of_le J3.kl, Nat.le_succ_of_le J3.dl, ?_⟩
              have e := J3.eq
              rw [dd_yes hf] at e
              exact e
            · have hv1 := J3.D.none_ (i := (t.s, t.a, t.e)) (by unfold fB; exact if_neg hf)
              refine ⟨_, rfl, d, _, rfl, gT J3.hd, _, rfl, ?_⟩
              rw [show valV kvs (kT ((t.s, t.a, t.e))) = none from hv1]
              refine iteT ?_
              refine ⟨_, rfl, _, rfl, _, rfl, _, rfl, ln3 _ _ _, fun p2 n2 => ?_⟩
              have J4 := J3.go (same_upd (o := .tup [.int ((t.s : Nat) : Int), .str (chS t.a), .int ((t.e : Nat) : Int)]) n2)
              have hm4' := hm3.move (kp_new (o := .tup [.int ((t.s : Nat) : Int), .str (chS t.a), .int ((t.e : Nat) : Int)]) n2)
              refine ⟨d, _, rfl, pT J4.hd (Nat.lt_of_le_of_lt J4.kl (Nat.lt_of_lt_of_le hit (Nat.le_trans htl (by decide)))), ?_⟩
              have kd := kp_dT (K := K) (o := .dT (putK kvs (kT (t.s, t.a, t.e)) (.bl true))) J4.hd
              have L5 : LD K H2 (upd (upd (upd _ p1 (.tup [.int ((t.s : Nat) : Int), .str (chS t.a), .int ((t.e : Nat) : Int)])) p2 (.tup [.int ((t.s : Nat) : Int), .str (chS t.a), .int ((t.e : Nat) : Int)])) d (.dT (putK kvs (kT ((t.s, t.a, t.e))) (.bl true)))) p gs (dn.map tD) := ⟨J4.L.same.set nd2, by rw [upd_ne npd]; exact J4.L.at_, J4.L.dt.move kd⟩
              refine ⟨_, rfl, .inl ⟨rfl, _, L5.sq⟩, _, rfl, _, rfl, _, rfl, _, rfl, ln4 _ _ _ _, fun p3 n3 => ?_⟩
              have L6 := L5.new (o := .tup [.int ((t.s : Nat) : Int), .str (chS t.a), .int ((t.e : Nat) : Int), tm]) n3
              have lg : gs.length < sizeLine := by
                have z := J.L.len
                rw [List.length_map] at z
                rw [z]
                exact Nat.lt_of_le_of_lt J4.dl (Nat.lt_of_lt_of_le hit (Nat.le_trans htl (by decide)))
              have hn := tie_mk (h := t.s) (c := t.a) (t := t.e) (.inl (.inl (upd_same (a := p3)))) ((hm4'.move kd).move (kp_new (o := .tup [.int ((t.s : Nat) : Int), .str (chS t.a), .int ((t.e : Nat) : Int), tm]) n3))
              have L7 := L6.pushT np hn
              refine ⟨p, gs, _, rfl, rfl, L6.at_, lg, _, _, _, _, gs ++ [.ref p3], putK kvs (kT (t.s, t.a, t.e)) (.bl true), (fun x => f x || decide (x = (t.s, t.a, t.e))), dn ++ [_], rfl, L7, ?_, ?_, Nat.le_trans (DSub.putK_len _ _ _) (Nat.succ_le_succ J4.kl), by rw [List.length_append]; exact Nat.succ_le_succ J4.dl, ?_⟩
              · rw [upd_ne npd.symm]
                exact same_upd n3 _ _ upd_same
              · exact ((((J4.D.move kd).put kT_inj (.bl true)).congr (fB_put f _)).move (kp_new n3)).move (kp_lst L6.at_)
              · have e := J4.eq
                rw [dd_no hf] at e
                rw [List.append_assoc]
                exact e
      · rintro σ H3 ⟨y8, y9, y10, y11, gs, kvs, f, dn, rfl, J⟩
        have J0 := J
        rw [List.drop_of_length_le (by omega)] at J0
        have eq : dn ++ [] = jst ts one other := J0.eq
        rw [List.append_nil] at eq
        have S3 := S2.trans J.L.same
        have npH : H p = none := S2.free np
        have npa : p ≠ a := fun e => by rw [e, S2 _ _ ha] at np; cases np
        refine ⟨_, rfl, _, rfl, a, CF, dx, _, rfl, S3 _ _ ha, T.cF, T.nFt, (by show 2 < 1000; decide), ?_⟩
        refine q _ p gs (fun b o hb e => by rw [upd_ne hb]; exact S3 _ _ e) npH npa upd_same (by rw [upd_ne npa]; exact J.L.at_) ?_
        rw [← eq]
        exact J.L.dt.move (kp_ins (S3 _ _ ha))
    · refine ⟨_, rfl, _, rfl, ln2 _ _, fun p0 n0 => ?_⟩
      have s0 : Same H (upd H p0 (.tup [.ref va, .ref ua])) := same_upd n0
      have h0 : ¬ other.e ≠ 0 := fun e => hb (by
        show (!decide (V.int (other.e : Int) = V.int 0)) = true
        rw [decide_eq_false (fun z => e (by injection z with z; omega))]
        rfl)
      have ek : kpt one other = other := if_neg h0
      have eg : gne one other = one := if_neg h0
      have hks := kp_same (K := K) s0 _ _ hvs
      have hgs := kp_same (K := K) s0 _ _ hus
      have hkm := hvm.move (kp_same s0)
      have hgm := hum.move (kp_same s0)
      refine ⟨p0, _, rfl, .inl (.inl upd_same), rfl, _, _, rfl, _, _, rfl, rfl, ?_⟩
      have l2 := ln.two
      rw [ek, eg] at l2
      have lc := ln.chg
      rw [ek, eg] at lc
      have le := ln.each
      rw [ek, eg] at le
      refine ⟨_, rfl, va, _, 3, _, rfl, rfl, hks, rfl, _, (other).m, rfl, hkm, by omega, fun H1 c1 s1 hc1 => ?_⟩
      refine ⟨_, rfl, ua, _, 3, _, rfl, rfl, kp_same s1 _ _ hgs, rfl, _, _, iv (other).m, (one).m, rfl, hc1, hgm.move (kp_same s1), by rw [iv_len]; omega, fun H2 c2 s2 hc2 => ?_⟩
      refine ⟨Nat.zero_le _, fun p np d nd => ⟨_, _, rfl, ?_⟩⟩
      have S2 : Same H H2 := s0.trans (s1.trans s2)
      have nd2 : H2 d = none := (same_upd np).free nd
      have npd : p ≠ d := fun e => by rw [← e, upd_same] at nd; cases nd
      have s3 : Same H2 (upd (upd H2 p (.lst [])) d (.dT [])) := (same_upd np).trans (same_upd nd)
      have hk2 := kp_same (K := K) (s1.trans s2) _ _ hks
      have hg2 := kp_same (K := K) (s1.trans s2) _ _ hgs
      have jq : jst ts one other = dd (ts.map (mv (other) (one))) no := by unfold jst; rw [ek, eg]
      refine ⟨_, rfl, a, CF, dx, _, _, rfl, s3 _ _ (S2 _ _ ha), T.cF, T.nFt, rfl, l, rfl, ⟨fs, .inl (.inl (s3 _ _ (S2 _ _ hl)))⟩, for_it (walk_list (xs := fs))
        (fun i σ H' => ∃ y8 y9 y10 y11 gs kvs f dn, σ = [some (.ref a), some (.ref ua), some (.ref va), some (.ref va), some (.ref ua), some c2, some (.ref p), some (.ref d), y8, y9, y10, y11] ∧ JoI K H2 p d (jst ts one other) ((ts.drop i).map (mv (other) (one))) i H' gs kvs f dn)
        ⟨none, none, none, none, [], [], no, [], rfl, ⟨s3, by rw [upd_ne npd, upd_same], .nil⟩, upd_same, DM.nil, Nat.le_refl _, Nat.le_refl _, jq.symm⟩ (fun i σ H' _ hp => ?_) ?_ ?_⟩
      · obtain ⟨_, _, _, _, _, _, _, _, _, J⟩ := hp
        exact .inl (.inl (J.L.same _ _ (S2 _ _ hl)))
      · rintro i x σ H0 H3 hi ⟨y8, y9, y10, y11, gs, kvs, f, dn, rfl, J⟩ ⟨rfl, hx⟩
        obtain ⟨t, ht, hdt⟩ := dtAll_map (hd.move (kp_same (S2.trans J.L.same))) hx
        have hit : i < ts.length := by omega
        have ed : ts.drop i = t :: ts.drop (i + 1) := by
          rw [List.drop_eq_getElem_cons hit]
          congr 1
          exact Option.some.inj ((List.getElem?_eq_getElem hit).symm.trans ht)
        have J0 := J
        rw [ed, List.map_cons] at J0
        obtain ⟨ta, tm, rfl, hts, htm⟩ := tie_inv hdt
        have hk3 := kp_same (K := K) J.L.same _ _ hk2
        have hg3 := kp_same (K := K) J.L.same _ _ hg2
        have hc3 := hc2.move (kp_same J.L.same)
        obtain ⟨b1, b2, b3⟩ := le t (List.mem_of_getElem? ht)
        refine ⟨ta, _, rfl, hts, rfl, _, _, rfl, _, _, rfl, _, _, rfl, _, _, rfl, rfl, ?_⟩
        refine ⟨_, rfl, _, rfl, ua, _, 2, _, rfl, rfl, hg3, rfl, rfl, _, rfl, ?_⟩
        refine ite2 (fun h1 => ?_) (fun h1 => ?_)
        · have e1 : t.s = (one).e := by
            have := of_decide_eq_true h1
            injection this with z
            omega
          have em : mvS (other) (one) t = ⟨(other).e, t.a, t.e, jn (chg (other) (one)) t.m⟩ := if_pos e1
          refine ⟨_, rfl, va, _, 2, _, rfl, rfl, hk3, rfl, _, rfl, _, rfl, _, _, chg (other) (one), t.m, rfl, hc3, htm, b1, fun H4 m4 s4 hm4 => ⟨_, _, rfl, ?_⟩⟩
          have k3 := kp_same (K := K) s4 _ _ hk3
          have g3 := kp_same (K := K) s4 _ _ hg3
          have c3 := hc3.move (kp_same s4)
          have J1 := J0.go s4
          refine ⟨_, rfl, _, rfl, ua, _, 2, _, rfl, rfl, g3, rfl, rfl, _, rfl, ?_⟩
          refine ite2 (fun h2 => ?_) (fun h2 => ?_)
          · have e2 : t.e = (one).e := by
              have := of_decide_eq_true h2
              injection this with z
              omega
            have ev : mv (other) (one) t = ⟨(mvS (other) (one) t).s, t.a, (other).e, jn (mvS (other) (one) t).m (iv (chg (other) (one)))⟩ := by
              show mvE _ _ _ _ = _
              unfold mvE
              rw [if_pos e2, em]
            rw [em] at ev b2
            refine ⟨_, rfl, va, _, 2, _, rfl, rfl, k3, rfl, _, rfl, _, rfl, c2, chg (other) (one), rfl, c3, lc, fun H5 m5 s5 hm5 => ⟨_, _, _, _, rfl, hm4.move (kp_same s5), hm5, by rw [iv_len]; exact b2, fun H6 m6 s6 hm6 => ⟨_, _, rfl, ?_⟩⟩⟩
            have J2 := J1.go (s5.trans s6)
            rw [ev] at J2
            refine ⟨_, rfl, _, rfl, _, rfl, ln3 _ _ _, fun p1 n1 => ?_⟩
            have J3 := J2.go (same_upd (o := .tup [.int (((other).e : Nat) : Int), .str (chS t.a), .int (((other).e : Nat) : Int)]) n1)
            have hm3 := hm6.move (kp_new (o := .tup [.int (((other).e : Nat) : Int), .str (chS t.a), .int (((other).e : Nat) : Int)]) n1)
            by_cases hf : f (((other).e, t.a, (other).e)) = true
            · obtain ⟨fv, hv1, _⟩ := J3.D.some_ (i := ((other).e, t.a, (other).e)) (by unfold fB; exact if_pos hf)
              refine ⟨_, rfl, d, _, rfl, gT J3.hd, _, rfl, ?_⟩
              rw [show valV kvs (kT (((other).e, t.a, (other).e))) = some fv from hv1]
              refine iteF ⟨_, _, _, _, gs, kvs, f, dn, rfl, J3.L, J3.hd, J3.D, Nat.le_succ_of_le J3.kl, Nat.le_succ_of_le J3.dl, ?_⟩
              have e := J3.eq
              rw [dd_yes hf] at e
              exact e
            · have hv1 := J3.D.none_ (i := ((other).e, t.a, (other).e)) (by unfold fB; exact if_neg hf)
              refine ⟨_, rfl, d, _, rfl, gT J3.hd, _, rfl, ?_⟩
              rw [show valV kvs (kT (((other).e, t.a, (other).e))) = none from hv1]
              refine iteT ?_
              refine ⟨_, rfl, _, rfl, _, rfl, _, rfl, ln3 _ _ _, fun p2 n2 => ?_⟩
              have J4 := J3.go (same_upd (o := .tup [.int (((other).e : Nat) : Int), .str (chS t.a), .int (((other).e : Nat) : Int)]) n2)
              have hm4' := hm3.move (kp_new (o := .tup [.int (((other).e : Nat) : Int), .str (chS t.a), .int (((other).e : Nat) : Int)]) n2)
              refine ⟨d, _, rfl, pT J4.hd (Nat.lt_of_le_of_lt J4.kl (Nat.lt_of_lt_of_le hit (Nat.le_trans htl (by decide)))), ?_⟩
              have kd := kp_dT (K := K) (o := .dT (putK kvs (kT ((other).e, t.a, (other).e)) (.bl true))) J4.hd
              have L5 : LD K H2 (upd (upd (upd _ p1 (.tup [.int (((other).e : Nat) : Int), .str (chS t.a), .int (((other).e : Nat) : Int)])) p2 (.tup [.int (((other).e : Nat) : Int), .str (chS t.a), .int (((other).e : Nat) : Int)])) d (.dT (putK kvs (kT (((other).e, t.a, (other).e))) (.bl true)))) p gs (dn.map tD) := ⟨J4.L.same.set nd2, by rw [upd_ne npd]; exact J4.L.at_, J4.L.dt.move kd⟩
              refine ⟨_, rfl, .inl ⟨rfl, _, L5.sq⟩, _, rfl, _, rfl, _, rfl, _, rfl, ln4 _ _ _ _, fun p3 n3 => ?_⟩
              have L6 := L5.new (o := .tup [.int (((other).e : Nat) : Int), .str (chS t.a), .int (((other).e : Nat) : Int), m6]) n3
              have lg : gs.length < sizeLine := by
                have z := J.L.len
                rw [List.length_map] at z
                rw [z]
                exact Nat.lt_of_le_of_lt J4.dl (Nat.lt_of_lt_of_le hit (Nat.le_trans htl (by decide)))
              have hn := tie_mk (h := (other).e) (c := t.a) (t := (other).e) (.inl (.inl (upd_same (a := p3)))) ((hm4'.move kd).move (kp_new (o := .tup [.int (((other).e : Nat) : Int), .str (chS t.a), .int (((other).e : Nat) : Int), m6]) n3))
              have L7 := L6.pushT np hn
              refine ⟨p, gs, _, rfl, rfl, L6.at_, lg, _, _, _, _, gs ++ [.ref p3], putK kvs (kT ((other).e, t.a, (other).e)) (.bl true), (fun x => f x || decide (x = ((other).e, t.a, (other).e))), dn ++ [_], rfl, L7, ?_, ?_, Nat.le_trans (DSub.putK_len _ _ _) (Nat.succ_le_succ J4.kl), by rw [List.length_append]; exact Nat.succ_le_succ J4.dl, ?_⟩
              · rw [upd_ne npd.symm]
                exact same_upd n3 _ _ upd_same
              · exact ((((J4.D.move kd).put kT_inj (.bl true)).congr (fB_put f _)).move (kp_new n3)).move (kp_lst L6.at_)
              · have e := J4.eq
                rw [dd_no hf] at e
                rw [List.append_assoc]
                exact e
          · have e2 : ¬ t.e = (one).e := fun e => h2 (by rw [e]; exact decide_eq_true rfl)
            have ev : mv (other) (one) t = mvS (other) (one) t := if_neg e2
            rw [em] at ev
            have J2 := J1
            rw [ev] at J2
            refine ⟨_, rfl, _, rfl, _, rfl, ln3 _ _ _, fun p1 n1 => ?_⟩
            have J3 := J2.go (same_upd (o := .tup [.int (((other).e : Nat) : Int), .str (chS t.a), .int ((t.e : Nat) : Int)]) n1)
            have hm3 := hm4.move (kp_new (o := .tup [.int (((other).e : Nat) : Int), .str (chS t.a), .int ((t.e : Nat) : Int)]) n1)
            by_cases hf : f (((other).e, t.a, t.e)) = true
            · obtain ⟨fv, hv1, _⟩ := J3.D.some_ (i := ((other).e, t.a, t.e)) (by unfold fB; exact if_pos hf)
              refine ⟨_, rfl, d, _, rfl, gT J3.hd, _, rfl, ?_⟩
              rw [show valV kvs (kT (((other).e, t.a, t.e))) = some fv from hv1]
              refine iteF ⟨_, _, _, _, gs, kvs, f, dn, rfl, J3.L, J3.hd, J3.D, Nat.le_succ_of_le J3.kl, Nat.le_succ_of_le J3.dl, ?_⟩
              have e := J3.eq
              rw [dd_yes hf] at e
              exact e
            · have hv1 := J3.D.none_ (i := ((other).e, t.a, t.e)) (by unfold fB; exact if_neg hf)
              refine ⟨_, rfl, d, _, rfl, gT J3.hd, _, rfl, ?_⟩
              rw [show valV kvs (kT (((other).e, t.a, t.e))) = none from hv1]
              refine iteT ?_
              refine ⟨_, rfl, _, rfl, _, rfl, _, rfl, ln3 _ _ _, fun p2 n2 => ?_⟩
              have J4 := J3.go (same_upd (o := .tup [.int (((other).e : Nat) : Int), .str (chS t.a), .int ((t.e : Nat) : Int)]) n2)
              have hm4' := hm3.move (kp_new (o := .tup [.int (((other).e : Nat) : Int), .str (chS t.a), .int ((t.e : Nat) : Int)]) n2)
              refine ⟨d, _, rfl, pT J4.hd (Nat.lt_of_le_of_lt J4.kl (Nat.lt_of_lt_of_le hit (Nat.le_trans htl (by decide)))), ?_⟩
              have kd := kp_dT (K := K) (o := .dT (putK kvs (kT ((other).e, t.a, t.e)) (.bl true))) J4.hd
              have L5 : LD K H2 (upd (upd (upd _ p1 (.tup [.int (((other).e : Nat) : Int), .str (chS t.a), .int ((t.e : Nat) : Int)])) p2 (.tup [.int (((other).e : Nat) : Int), .str (chS t.a), .int ((t.e : Nat) : Int)])) d (.dT (putK kvs (kT (((other).e, t.a, t.e))) (.bl true)))) p gs (dn.map tD) := ⟨J4.L.same.set nd2, by rw [upd_ne npd]; exact J4.L.at_, J4.L.dt.move kd⟩
              refine ⟨_, rfl, .inl ⟨rfl, _, L5.sq⟩, _, rfl, _, rfl, _, rfl, _, rfl, ln4 _ _ _ _, fun p3 n3 => ?_⟩
              have L6 := L5.new (o := .tup [.int (((other).e : Nat) : Int), .str (chS t.a), .int ((t.e : Nat) : Int), m4]) n3
              have lg : gs.length < sizeLine := by
                have z := J.L.len
                rw [List.length_map] at z
                rw [z]
                exact Nat.lt_of_le_of_lt J4.dl (Nat.lt_of_lt_of_le hit (Nat.le_trans htl (by decide)))
              have hn := tie_mk (h := (other).e) (c := t.a) (t := t.e) (.inl (.inl (upd_same (a := p3)))) ((hm4'.move kd).move (kp_new (o := .tup [.int (((other).e : Nat) : Int), .str (chS t.a), .int ((t.e : Nat) : Int), m4]) n3))
              have L7 := L6.pushT np hn
              refine ⟨p, gs, _, rfl, rfl, L6.at_, lg, _, _, _, _, gs ++ [.ref p3], putK kvs (kT ((other).e, t.a, t.e)) (.bl true), (fun x => f x || decide (x = ((other).e, t.a, t.e))), dn ++ [_], rfl, L7, ?_, ?_, Nat.le_trans (DSub.putK_len _ _ _) (Nat.succ_le_succ J4.kl), by rw [List.length_append]; exact Nat.succ_le_succ J4.dl, ?_⟩
              · rw [upd_ne npd.symm]
                exact same_upd n3 _ _ upd_same
              · exact ((((J4.D.move kd).put kT_inj (.bl true)).congr (fB_put f _)).move (kp_new n3)).move (kp_lst L6.at_)
              · have e := J4.eq
                rw [dd_no hf] at e
                rw [List.append_assoc]
                exact e
        · have e1 : ¬ t.s = (one).e := fun e => h1 (by rw [e]; exact decide_eq_true rfl)
          have em : mvS (other) (one) t = t := if_neg e1
          have s4 : Same H3 H3 := Same.refl _
          have k3 := kp_same (K := K) s4 _ _ hk3
          have g3 := kp_same (K := K) s4 _ _ hg3
          have c3 := hc3.move (kp_same s4)
          have J1 := J0.go s4
          refine ⟨_, rfl, _, rfl, ua, _, 2, _, rfl, rfl, g3, rfl, rfl, _, rfl, ?_⟩
          refine ite2 (fun h2 => ?_) (fun h2 => ?_)
          · have e2 : t.e = (one).e := by
              have := of_decide_eq_true h2
              injection this with z
              omega
            have ev : mv (other) (one) t = ⟨(mvS (other) (one) t).s, t.a, (other).e, jn (mvS (other) (one) t).m (iv (chg (other) (one)))⟩ := by
              show mvE _ _ _ _ = _
              unfold mvE
              rw [if_pos e2, em]
            rw [em] at ev b2
            refine ⟨_, rfl, va, _, 2, _, rfl, rfl, k3, rfl, _, rfl, _, rfl, c2, chg (other) (one), rfl, c3, lc, fun H5 m5 s5 hm5 => ⟨_, _, _, _, rfl, htm.move (kp_same s5), hm5, by rw [iv_len]; exact b2, fun H6 m6 s6 hm6 => ⟨_, _, rfl, ?_⟩⟩⟩
            have J2 := J1.go (s5.trans s6)
            rw [ev] at J2
            refine ⟨_, rfl, _, rfl, _, rfl, ln3 _ _ _, fun p1 n1 => ?_⟩
            have J3 := J2.go (same_upd (o := .tup [.int ((t.s : Nat) : Int), .str (chS t.a), .int (((other).e : Nat) : Int)]) n1)
            have hm3 := hm6.move (kp_new (o := .tup [.int ((t.s : Nat) : Int), .str (chS t.a), .int (((other).e : Nat) : Int)]) n1)
            by_cases hf : f ((t.s, t.a, (other).e)) = true
            · obtain ⟨fv, hv1, _⟩ := J3.D.some_ (i := (t.s, t.a, (other).e)) (by unfold fB; exact if_pos hf)
              refine ⟨_, rfl, d, _, rfl, gT J3.hd, _, rfl, ?_⟩
              rw [show valV kvs (kT ((t.s, t.a, (other).e))) = some fv from hv1]
              refine iteF ⟨_, _, _, _, gs, kvs, f, dn, rfl, J3.L, J3.hd, J3.D, Nat.le_succ_of_le J3.kl, Nat.le_succ_of_le J3.dl, ?_⟩
              have e := J3.eq
              rw [dd_yes hf] at e
              exact e
            · have hv1 := J3.D.none_ (i := (t.s, t.a, (other).e)) (by unfold fB; exact if_neg hf)
              refine ⟨_, rfl, d, _, rfl, gT J3.hd, _, rfl, ?_⟩
              rw [show valV kvs (kT ((t.s, t.a, (other).e))) = none from hv1]
              refine iteT ?_
              refine ⟨_, rfl, _, rfl, _, rfl, _, rfl, ln3 _ _ _, fun p2 n2 => ?_⟩
              have J4 := J3.go (same_upd (o := .tup [.int ((t.s : Nat) : Int), .str (chS t.a), .int (((other).e : Nat) : Int)]) n2)
              have hm4' := hm3.move (kp_new (o := .tup [.int ((t.s : Nat) : Int), .str (chS t.a), .int (((other).e : Nat) : Int)]) n2)
              refine ⟨d, _, rfl, pT J4.hd (Nat.lt_of_le_of_lt J4.kl (Nat.lt_of_lt_of_le hit (Nat.le_trans htl (by decide)))), ?_⟩
              have kd := kp_dT (K := K) (o := .dT (putK kvs (kT (t.s, t.a, (other).e)) (.bl true))) J4.hd
              have L5 : LD K H2 (upd (upd (upd _ p1 (.tup [.int ((t.s : Nat) : Int), .str (chS t.a), .int (((other).e : Nat) : Int)])) p2 (.tup [.int ((t.s : Nat) : Int), .str (chS t.a), .int (((other).e : Nat) : Int)])) d (.dT (putK kvs (kT ((t.s, t.a, (other).e))) (.bl true)))) p gs (dn.map tD) := ⟨J4.L.same.set nd2, by rw [upd_ne npd]; exact J4.L.at_, J4.L.dt.move kd⟩
              refine ⟨_, rfl, .inl ⟨rfl, _, L5.sq⟩, _, rfl, _, rfl, _, rfl, _, rfl, ln4 _ _ _ _, fun p3 n3 => ?_⟩
              have L6 := L5.new (o := .tup [.int ((t.s : Nat) : Int), .str (chS t.a), .int (((other).e : Nat) : Int), m6]) n3
              have lg : gs.length < sizeLine := by
                have z := J.L.len
                rw [List.length_map] at z
                rw [z]
                exact Nat.lt_of_le_of_lt J4.dl (Nat.lt_of_lt_of_le hit (Nat.le_trans htl (by decide)))
              have hn := tie_mk (h := t.s) (c := t.a) (t := (other).e) (.inl (.inl (upd_same (a := p3)))) ((hm4'.move kd).move (kp_new (o := .tup [.int ((t.s : Nat) : Int), .str (chS t.a), .int (((other).e : Nat) : Int), m6]) n3))
              have L7 := L6.pushT np hn
              refine ⟨p, gs, _, rfl, rfl, L6.at_, lg, _, _, _, _, gs ++ [.ref p3], putK kvs (kT (t.s, t.a, (other).e)) (.bl true), (fun x => f x || decide (x = (t.s, t.a, (other).e))), dn ++ [_], rfl, L7, ?_, ?_, Nat.le_trans (DSub.putK_len _ _ _) (Nat.succ_le_succ J4.kl), by rw [List.length_append]; exact Nat.succ_le_succ J4.dl, ?_⟩
              · rw [upd_ne npd.symm]
                exact same_upd n3 _ _ upd_same
              · exact ((((J4.D.move kd).put kT_inj (.bl true)).congr (fB_put f _)).move (kp_new n3)).move (kp_lst L6.at_)
              · have e := J4.eq
                rw [dd_no hf] at e
                rw [List.append_assoc]
                exact e
          · have e2 : ¬ t.e = (one).e := fun e => h2 (by rw [e]; exact decide_eq_true rfl)
            have ev : mv (other) (one) t = mvS (other) (one) t := if_neg e2
            rw [em] at ev
            have J2 := J1
            rw [ev] at J2
            refine ⟨_, rfl, _, rfl, _, rfl, ln3 _ _ _, fun p1 n1 => ?_⟩
            have J3 := J2.go (same_upd (o := .tup [.int ((t.s : Nat) : Int), .str (chS t.a), .int ((t.e : Nat) : Int)]) n1)
            have hm3 := htm.move (kp_new (o := .tup [.int ((t.s : Nat) : Int), .str (chS t.a), .int ((t.e : Nat) : Int)]) n1)
            by_cases hf : f ((t.s, t.a, t.e)) = true
            · obtain ⟨fv, hv1, _⟩ := J3.D.some_ (i := (t.s, t.a, t.e)) (by unfold fB; exact if_pos hf)
              refine ⟨_, rfl, d, _, rfl, gT J3.hd, _, rfl, ?_⟩
              rw [show valV kvs (kT ((t.s, t.a, t.e))) = some fv from hv1]
              refine iteF ⟨_, _, _, _, gs, kvs, f, dn, rfl, J3.L, J3.hd, J3.D, Nat.le_succ_of_le J3.kl, Nat.le_succ_of_le J3.dl, ?_⟩
              have e := J3.eq
              rw [dd_yes hf] at e
              exact e
            · have hv1 := J3.D.none_ (i := (t.s, t.a, t.e)) (by unfold fB; exact if_neg hf)
              refine ⟨_, rfl, d, _, rfl, gT J3.hd, _, rfl, ?_⟩
              rw [show valV kvs (kT ((t.s, t.a, t.e))) = none from hv1]
              refine iteT ?_
              refine ⟨_, rfl, _, rfl, _, rfl, _, rfl, ln3 _ _ _, fun p2 n2 => ?_⟩
              have J4 := J3.go (same_upd (o := .tup [.int ((t.s : Nat) : Int), .str (chS t.a), .int ((t.e : Nat) : Int)]) n2)
              have hm4' := hm3.move (kp_new (o := .tup [.int ((t.s : Nat) : Int), .str (chS t.a), .int ((t.e : Nat) : Int)]) n2)
              refine ⟨d, _, rfl, pT J4.hd (Nat.lt_of_le_of_lt J4.kl (Nat.lt_of_lt_of_le hit (Nat.le_trans htl (by decide)))), ?_⟩
              have kd := kp_dT (K := K) (o := .dT (putK kvs (kT (t.s, t.a, t.e)) (.bl true))) J4.hd
              have L5 : LD K H2 (upd (upd (upd _ p1 (.tup [.int ((t.s : Nat) : Int), .str (chS t.a), .int ((t.e : Nat) : Int)])) p2 (.tup [.int ((t.s : Nat) : Int), .str (chS t.a), .int ((t.e : Nat) : Int)])) d (.dT (putK kvs (kT ((t.s, t.a, t.e))) (.bl true)))) p gs (dn.map tD) := ⟨J4.L.same.set nd2, by rw [upd_ne npd]; exact J4.L.at_, J4.L.dt.move kd⟩
              refine ⟨_, rfl, .inl ⟨rfl, _, L5.sq⟩, _, rfl, _, rfl, _, rfl, _, rfl, ln4 _ _ _ _, fun p3 n3 => ?_⟩
              have L6 := L5.new (o := .tup [.int ((t.s : Nat) : Int), .str (chS t.a), .int ((t.e : Nat) : Int), tm]) n3
              have lg : gs.length < sizeLine := by
                have z := J.L.len
                rw [List.length_map] at z
                rw [z]
                exact Nat.lt_of_le_of_lt J4.dl (Nat.lt_of_lt_of_le hit (Nat.le_trans htl (by decide)))
              have hn := tie_mk (h := t.s) (c := t.a) (t := t.e) (.inl (.inl (upd_same (a := p3)))) ((hm4'.move kd).move (kp_new (o := .tup [.int ((t.s : Nat) : Int), .str (chS t.a), .int ((t.e : Nat) : Int), tm]) n3))
              have L7 := L6.pushT np hn
              refine ⟨p, gs, _, rfl, rfl, L6.at_, lg, _, _, _, _, gs ++ [.ref p3], putK kvs (kT (t.s, t.a, t.e)) (.bl true), (fun x => f x || decide (x = (t.s, t.a, t.e))), dn ++ [_], rfl, L7, ?_, ?_, Nat.le_trans (DSub.putK_len _ _ _) (Nat.succ_le_succ J4.kl), by rw [List.length_append]; exact Nat.succ_le_succ J4.dl, ?_⟩
              · rw [upd_ne npd.symm]
                exact same_upd n3 _ _ upd_same
              · exact ((((J4.D.move kd).put kT_inj (.bl true)).congr (fB_put f _)).move (kp_new n3)).move (kp_lst L6.at_)
              · have e := J4.eq
                rw [dd_no hf] at e
                rw [List.append_assoc]
                exact e
      · rintro σ H3 ⟨y8, y9, y10, y11, gs, kvs, f, dn, rfl, J⟩
        have J0 := J
        rw [List.drop_of_length_le (by omega)] at J0
        have eq : dn ++ [] = jst ts one other := J0.eq
        rw [List.append_nil] at eq
        have S3 := S2.trans J.L.same
        have npH : H p = none := S2.free np
        have npa : p ≠ a := fun e => by rw [e, S2 _ _ ha] at np; cases np
        refine ⟨_, rfl, _, rfl, a, CF, dx, _, rfl, S3 _ _ ha, T.cF, T.nFt, (by show 2 < 1000; decide), ?_⟩
        refine q _ p gs (fun b o hb e => by rw [upd_ne hb]; exact S3 _ _ e) npH npa upd_same (by rw [upd_ne npa]; exact J.L.at_) ?_
        rw [← eq]
        exact J.L.dt.move (kp_ins (S3 _ _ ha))
end
end G1
set_option Elab.async false
set_option linter.all false
set_option maxRecDepth 100000
set_option maxHeartbeats 4000000
/-! unlike_ties, folded -/
namespace G1
open PySem PySem.Spec PyProof.Rows L2
open PySem.W (Datum DatumOrd T3 T4 Tup)
section
variable {P : Program} {w : World} {K : PySem.W.Frag} {mg : Str → Option Value} {base : Heap} {CF CR CL : Addr}
abbrev TK := T3 Int Str Int
def k3 (t : Tie) : TK := ⟨t.s, chS t.a, t.e⟩
theorem k3_ky {t u : Tie} (h : k3 t = k3 u) : ky t = ky u := by
  unfold k3 at h
  injection h with h1 h2 h3
  have := chS_inj h2
  unfold ky
  rw [this, show t.s = u.s by omega, show t.e = u.e by omega]
theorem ky_k3 {t u : Tie} (h : ky t = ky u) : k3 t = k3 u := by
  unfold ky at h
  injection h with h1 h2
  injection h2 with h2 h3
  unfold k3
  rw [h1, h2, h3]
theorem k3_mem {t : Tie} {dn : List Tie} : k3 t ∈ dn.map k3 ↔ ky t ∈ dn.map ky := by
  rw [List.mem_map, List.mem_map]
  exact ⟨fun ⟨u, h, e⟩ => ⟨u, h, k3_ky e⟩, fun ⟨u, h, e⟩ => ⟨u, h, ky_k3 e⟩⟩
def spUn (K : PySem.W.Frag) : Sp := fun vs H Q _ => ∃ (l : Addr) (fs : List V) (ts : List Tie), vs = [.ref l] ∧ SqL K H l fs ∧ DtAll K H fs (ts.map tD) ∧ ts.length ≤ 10000 ∧ ∀ H' p gs, Same H H' → H p = none → H' p = some (.lst gs) → DtAll K H' gs ((dd ts no).map tD) → Q (.ref p) H'
theorem scUn : FnScope ["ties", "found", "tie", "own"] ["ties"] (defScope (top 20)) := ⟨rfl, rfl, rfl, by decide +kernel, rfl, by decide +kernel, by decide +kernel⟩
def memK (dn : List Tie) : Nat × Nat × Nat → Bool := fun x => decide (x ∈ dn.map ky)
theorem memK_snoc (dn : List Tie) (t : Tie) : (fun x => memK dn x || decide (x = ky t)) = memK (dn ++ [t]) := by
  funext x
  unfold memK
  rw [List.map_append, ← Bool.decide_or]
  exact decide_eq_decide.mpr (by simp)
theorem cut3 {a b c d : V} : cutV [a, b, c, d] none (some 3) = [a, b, c] := rfl
theorem k3_dt {H : Hp} {p : Addr} {t : Tie} (h : SqT K H p [.int t.s, .str (chS t.a), .int t.e]) : Dt K H (.ref p) (Datum.toD (k3 t)) := .tup h (.cons (.int _) (.cons (.str _) (.cons (.int _) .nil)))
theorem c_unlike (T : Tx K mg CF CR CL) : Cal P w K mg base 1 "unlike_ties" (spUn K) := by
  refine cal T.unlike_ties scUn (fun vs H Q E h => ?_) (fun _ _ _ _ _ _ us hl => match us, hl with | [_], _ => rfl) fun f cdv A outer s H vs Q E hr h => ?_
  · obtain ⟨_, _, _, rfl, _⟩ := h; rfl
  · obtain ⟨l, fs, ts, rfl, hl, hd, htl, q⟩ := h
    refine ⟨_, pss_cons (ps_set (i := 1) scUn.nd rfl (.inl rfl) (pe_lst pa_nil))
      (pss_cons (ps_for PassesOwn.never rfl (pi_list (pv 0)) (pg_name (i := 2) scUn.nd rfl (.inl rfl))
        (pss_one (ps_if (pt_cmpR (op_notInT TK hr.units) (pe_slice sl_tup (pv 2) po_none (po_some pe_int))
            (pe_lc (own := [("own", 3)]) (g := gName 3) (tt := tYes) rfl scUn.nd (pi_list (pv 1)) (blkOk_by (N := ["ties", "found", "tie", "own"]) (sc := defScope (top 20)) (by decide +kernel)) (fun _ _ _ _ _ => pg_name (i := 3) scUn.nd rfl (.inl rfl)) (fun _ _ _ _ _ => pts_nil) (fun _ _ _ _ _ => pe_slice (r := rSlT K) sl_tup (pv 3) po_none (po_some pe_int))) (by rfl))
          (pss_one (ps_expr (pe_bm PySem.F.plainAttrs_list PySem.F.slot_list_append PySem.F.type_list_append mt_append (pv 1) (pa_cons (pv 2) pa_nil)))) pss_nil)))
      (pss_one (ps_ret (pv 1)))), ?_⟩
    have lf := hd.len
    rw [List.length_map] at lf
    refine ⟨Nat.zero_le _, fun p np => ⟨_, rfl, l, rfl, ⟨fs, (same_upd np).seq hl⟩, for_it (walk_list (xs := fs))
      (fun i σ H' => ∃ y2 y3 gs dn, σ = [some (.ref l), some (.ref p), y2, y3] ∧ LD K H H' p gs (dn.map tD) ∧ dn.length ≤ i ∧ dn ++ dd (ts.drop i) (memK dn) = dd ts no)
      ⟨none, none, [], [], rfl, .nil np, Nat.le_refl _, rfl⟩ (fun i σ H' _ hp => ?_) ?_ ?_⟩⟩
    · obtain ⟨_, _, _, _, _, L, _⟩ := hp
      exact L.same.seq hl
    · rintro i x σ H0 H1 hi ⟨y2, y3, gs, dn, rfl, L, hdl, eq⟩ ⟨rfl, hx⟩
      obtain ⟨t, ht, hdt⟩ := dtAll_map (hd.move (kp_same L.same)) hx
      have hit : i < ts.length := by omega
      have ed : ts.drop i = t :: ts.drop (i + 1) := by
        rw [List.drop_eq_getElem_cons hit]
        congr 1
        exact Option.some.inj ((List.getElem?_eq_getElem hit).symm.trans ht)
      rw [ed] at eq
      have lg := L.len
      rw [List.length_map] at lg
      obtain ⟨ta, tm, rfl, hts, htm⟩ := tie_inv hdt
      refine ⟨_, rfl, 3, rfl, ta, _, rfl, hts, (by show ¬ (HT.sIx 4 0 none = 0 ∧ HT.sIx 4 4 (some 3) = 4); decide), fun p1 n1 => ?_⟩
      rw [cut3]
      have L1 := L.new (o := .tup [.int t.s, .str (chS t.a), .int t.e]) n1
      refine ⟨_, rfl, p, rfl, ⟨gs, L1.sq⟩, fun D nD => lc_it (walk_list (xs := gs)) (fun j H' => Same (upd H1 p1 (.tup [.int t.s, .str (chS t.a), .int t.e])) H' ∧ ∃ es, LD K (upd H1 p1 (.tup [.int t.s, .str (chS t.a), .int t.e])) H' D es ((dn.take j).map fun u => Datum.toD (k3 u))) ⟨same_upd nD, [], .nil nD⟩ (fun j H' _ hp => (hp.1).seq L1.sq) ?_ ?_⟩
      · rintro j x H0 H2 hj ⟨sm, es, L2⟩ ⟨rfl, hx2⟩
        obtain ⟨u, hu, hdu⟩ := dtAll_map (L1.dt.move (kp_same sm)) hx2
        obtain ⟨ub, um, rfl, hus, hum⟩ := tie_inv hdu
        refine ⟨rfl, yesT ?_⟩
        refine ⟨_, rfl, 3, rfl, ub, _, rfl, hus, (by show ¬ (HT.sIx 4 0 none = 0 ∧ HT.sIx 4 4 (some 3) = 4); decide), fun p2 n2 => ?_⟩
        rw [cut3]
        have L3 := L2.new (o := .tup [.int u.s, .str (chS u.a), .int u.e]) n2
        have L4 := L3.push nD (k3_dt (.inl (.inl upd_same)))
        refine ⟨es, L3.at_, ?_, (sm.trans (same_upd n2)).set nD, es ++ [.ref p2], ?_⟩
        · rw [L3.len, List.length_map, List.length_take]
          exact Nat.lt_of_le_of_lt (m := 10000) (by omega) (by decide)
        · rw [List.take_add_one, hu, List.map_append]
          exact L4
      · rintro H2 ⟨sm, es, L2⟩
        have L5 := L1.go sm
        rw [List.take_of_length_le (by omega)] at L2
        have e3 : (dn.map fun u => Datum.toD (k3 u)) = (dn.map k3).map Datum.toD := by rw [List.map_map]; rfl
        rw [e3] at L2
        refine ⟨k3 t, D, es, dn.map k3, ((k3_dt (.inl (.inl upd_same))).move (kp_same sm)).dp, rfl, L2.sq, L2.dt.dp, _, rfl, ?_⟩
        refine ite2 (fun h => ?_) (fun h => ?_)
        · have hn : ¬ memK dn (ky t) = true := fun e => of_decide_eq_true h (k3_mem.mpr (of_decide_eq_true e))
          rw [dd_no hn, memK_snoc] at eq
          have hx5 := hdt.move (kp_same ((same_upd (o := .tup [.int t.s, .str (chS t.a), .int t.e]) n1).trans sm))
          refine ⟨_, rfl, .inl ⟨rfl, _, L5.sq⟩, _, rfl, p, gs, _, rfl, rfl, L5.at_, ?_, _, _, _, dn ++ [t], rfl, L5.pushT np hx5, by rw [List.length_append]; exact Nat.succ_le_succ hdl, by rw [List.append_assoc]; exact eq⟩
          rw [lg]
          exact Nat.lt_of_le_of_lt (m := 10000) (by omega) (by decide)
        · have hy : memK dn (ky t) = true := decide_eq_true (k3_mem.mp (Classical.byContradiction fun e => h (decide_eq_true e)))
          rw [dd_yes hy] at eq
          exact ⟨_, _, gs, dn, rfl, L5, Nat.le_succ_of_le hdl, eq⟩
    · rintro σ H1 ⟨y2, y3, gs, dn, rfl, L, hdl, eq⟩
      rw [List.drop_of_length_le (by omega)] at eq
      have e0 : dn ++ [] = dd ts no := eq
      rw [List.append_nil] at e0
      refine ⟨_, rfl, q _ p gs L.same np L.at_ ?_⟩
      rw [← e0]
      exact L.dt
/-! ### folded -/
def W4 (w : List Nat) : Prop := ∀ c ∈ w, c ∈ ltrs
theorem W4.lw {w : List Nat} (h : W4 w) : LW w := fun c hc => by
  have z := h c hc
  unfold ltrs at z
  unfold Lt Small Big
  simp only [List.mem_cons, List.not_mem_nil, or_false] at z
  omega
theorem told4 {h c t : Nat} {m : Wd} (hc : c ∈ ltrs) : (told h c t m).a ∈ [97, 98, 99, 100] := by
  unfold ltrs at hc
  simp only [List.mem_cons, List.not_mem_nil, or_false] at hc
  unfold told lw
  rcases hc with rfl | rfl | rfl | rfl | rfl | rfl | rfl | rfl <;> simp [sw]
theorem ring4 : ∀ {w : List Nat} {m : Wd} {h k : Nat}, W4 w → L4 (ringT m w h k)
  | [], _, _, _, _ => fun t ht => by cases ht
  | c :: r, m, h, k, hw => fun t ht => by
    rw [ring_cons] at ht
    rcases List.mem_cons.mp ht with e | ht
    · rw [e]; exact told4 (hw c List.mem_cons_self)
    · exact ring4 (fun x hx => hw x (List.mem_cons_of_mem _ hx)) t ht
theorem rgs4 : ∀ {ws : List (List Nat)} {i k : Nat}, (∀ w ∈ ws, W4 w) → L4 (rgs ws i k)
  | [], _, _, _ => fun t ht => by cases ht
  | w :: r, i, k, hw => fun t ht => by
    rcases List.mem_append.mp (show t ∈ ringT _ w 0 k ++ rgs r (i + 1) _ from ht) with ht | ht
    · exact ring4 (hw w List.mem_cons_self) t ht
    · exact rgs4 (fun x hx => hw x (List.mem_cons_of_mem _ hx)) t ht
theorem jst4 {ts : List Tie} {one other : Tie} (h : L4 ts) : L4 (jst ts one other) := fun t ht => by
  obtain ⟨t0, h0, rfl⟩ := List.mem_map.mp (dd_sub ht).1
  rw [mv_a]
  exact h t0 h0
theorem told_m {h c t : Nat} {m : Wd} : (told h c t m).m.length = m.length := by
  unfold told
  split
  · rfl
  · exact iv_len m
theorem ring_m : ∀ {w : List Nat} {m : Wd} {h k : Nat}, m.length ≤ 1 → ∀ t ∈ ringT m w h k, t.m.length ≤ 1
  | [], _, _, _, _ => fun t ht => by cases ht
  | c :: r, m, h, k, hm => fun t ht => by
    rw [ring_cons] at ht
    rcases List.mem_cons.mp ht with e | ht
    · rw [e, told_m]; exact hm
    · exact ring_m (Nat.zero_le _) t ht
theorem rgs_m : ∀ {ws : List (List Nat)} {i k : Nat}, ∀ t ∈ rgs ws i k, t.m.length ≤ 1
  | [], _, _ => fun t ht => by cases ht
  | w :: r, i, k => fun t ht => by
    rcases List.mem_append.mp (show t ∈ ringT _ w 0 k ++ rgs r (i + 1) _ from ht) with ht | ht
    · exact ring_m (Nat.le_refl _) t ht
    · exact rgs_m t ht
theorem jst_len {ts : List Tie} {one other : Tie} : (jst ts one other).length ≤ ts.length := by
  have z := dd_len (r := ts.map (mv (kpt one other) (gne one other))) (f := no)
  rw [List.length_map] at z
  exact z
/-- what folding keeps -/
structure FG (wl : List (List Nat)) (n : Nat) (ts : List Tie) : Prop where
  U : Und wl n ts
  l4 : L4 ts
  m : ∀ t ∈ ts, t.m.length ≤ MX
  len : ts.length ≤ 10000
theorem FG.join {wl : List (List Nat)} {n : Nat} {ts : List Tie} {one other : Tie} (F : FG wl n ts) (c : Clash ts one other) (L : Lens ts one other) : FG wl n (jst ts one other) :=
  ⟨und_join F.U c, jst4 F.l4, fun t ht => by
    obtain ⟨t0, h0, rfl⟩ := List.mem_map.mp (dd_sub ht).1
    exact (L.each t0 h0).2.2, Nat.le_trans jst_len F.len⟩
/-- lots that can be folded -/
structure Okl (wl : List (List Nat)) : Prop where
  w4 : ∀ w ∈ wl, W4 w
  len : ∀ w ∈ wl, w.length ≤ 100
  n : wl.length ≤ 50
  safe : Safe (init wl)
theorem Okl.sum {wl : List (List Nat)} (h : Okl wl) : (rgs wl 0 1).length ≤ 10000 := by
  rw [rgs_len]
  have key : ∀ l : List (List Nat), (∀ w ∈ l, w.length ≤ 100) → (l.map List.length).sum ≤ 100 * l.length := by
    intro l
    induction l with
    | nil => intro _; exact Nat.le_refl _
    | cons x r ih =>
      intro hl
      have h1 := hl x List.mem_cons_self
      have h2 := ih fun w hw => hl w (List.mem_cons_of_mem _ hw)
      simp only [List.map_cons, List.sum_cons, List.length_cons]
      omega
  have z := key wl h.len
  have := h.n
  omega
theorem Okl.ss {wl : List (List Nat)} (h : Okl wl) : SS wl ≤ 5000 := by
  have key : ∀ l : List (List Nat), (∀ w ∈ l, w.length ≤ 100) → SS l ≤ 100 * l.length := by
    intro l
    induction l with
    | nil => intro _; exact Nat.le_refl _
    | cons x r ih =>
      intro hl
      have h1 := hl x List.mem_cons_self
      have h2 := ih fun w hw => hl w (List.mem_cons_of_mem _ hw)
      rw [SS_cons, List.length_cons]
      omega
  have z := key wl h.len
  have := h.n
  omega
/-- bounds of a web's ties -/
structure WB (ts : List Tie) : Prop where
  sml : Sml ts
  l4 : L4 ts
  m : ∀ t ∈ ts, t.m.length ≤ MX
  len : ts.length ≤ 10000
  lt : ∀ t ∈ ts, t.s < 9000 ∧ t.e < 9000
def txs (wl : List (List Nat)) : List V := wl.map fun w => .str (tx w)
def spFo (K : PySem.W.Frag) : Sp := fun vs H Q _ => ∃ (lw : Addr) (wl : List (List Nat)), vs = [.ref lw] ∧ SqL K H lw (txs wl) ∧ Okl wl ∧ ∀ H' p fs ts, Same H H' → H p = none → H' p = some (.lst fs) → DtAll K H' fs (ts.map tD) → Fld wl ts → (ts.map ky).Nodup → WB ts → Q (.ref p) H'
theorem scFo : FnScope ["words", "web", "mark", "word", "found"] ["words"] (defScope (top 19)) := ⟨rfl, rfl, rfl, by decide +kernel, rfl, by decide +kernel, by decide +kernel⟩
theorem c_folded (T : Tx K mg CF CR CL) : Cal P w K mg base 5 "folded" (spFo K) := by
  refine cal T.folded scFo (fun vs H Q E h => ?_) (fun _ _ _ _ _ _ us hl => match us, hl with | [_], _ => rfl) fun f cdv A outer s H vs Q E hr h => ?_
  · obtain ⟨_, _, rfl, _⟩ := h; rfl
  · obtain ⟨lw, wl, rfl, hlw, ok, q⟩ := h
    refine ⟨_, pss_cons (ps_set (i := 1) scFo.nd rfl (.inl rfl) (pe_mk0 (c_fold T) hr (by decide) rfl))
      (pss_cons (ps_for PassesOwn.never rfl (pi_enum (by rfl) (T.nb "enumerate") (pa_cons (pv 0) pa_nil)) (pg_tup rfl (pgs_cons (pg_name (i := 2) scFo.nd rfl (.inl rfl)) (pgs_cons (pg_name (i := 3) scFo.nd rfl (.inl rfl)) pgs_nil)))
        (pss_one (ps_expr (pe_mt (c_add T) hr (by decide) (pv 1) (pa_cons (pv 3) (pa_cons (pv 2) pa_nil))))))
      (pss_cons (ps_fld (pv 1) (pe_c (c_unlike T) hr (by decide) rfl (pa_cons (pe_fld (pv 1) rfl) pa_nil)) rfl)
      (pss_cons (ps_set (i := 4) scFo.nd rfl (.inl rfl) (pe_mt0 (c_clash T) hr (by decide) (pv 1)))
      (pss_cons (ps_while PassesOwn.never (pt_cmpR op_notN (pv 4) pe_non (nomark _))
        (pss_cons (ps_expr (pe_mt (c_join T) hr (by decide) (pv 1) (pa_cons (pe_ix ix_tup (pv 4) pe_int (fun _ _ => rfl)) (pa_cons (pe_ix ix_tup (pv 4) pe_int (fun _ _ => rfl)) pa_nil))))
        (pss_one (ps_set (i := 4) scFo.nd rfl (.inl rfl) (pe_mt0 (c_clash T) hr (by decide) (pv 1))))))
      (pss_one (ps_ret (pe_fld (pv 1) rfl))))))), ?_⟩
    refine fun a dx na ndx nxa => ?_
    refine ⟨a, dx, rfl, upd_same, fun l nl => ⟨rfl, ?_⟩⟩
    have nla : l ≠ a := fun e => by rw [e, upd_same] at nl; cases nl
    have nldx : l ≠ dx := fun e => by rw [e, upd_ne nxa, upd_same] at nl; cases nl
    have nlH : H l = none := by rw [upd_ne nla, upd_ne nldx] at nl; exact nl
    have S0 : Same H (upd (upd (upd (upd H dx (.own a)) a (.ins CF dx [])) l (.lst [])) a (foldO CF dx l 1)) := (((same_upd ndx).set na).set nlH).set na
    obtain ⟨G, G0, GS⟩ := ok.safe
    refine ⟨_, rfl, lw, txs wl, rfl, S0.seq hlw, for_it (walk_enum (xs := txs wl)) (fun i σ H' => ∃ y2 y3 y4 fs ts k, σ = [some (.ref lw), some (.ref a), y2, y3, y4] ∧ Same H H' ∧ H' a = some (foldO CF dx l k) ∧ H' l = some (.lst fs) ∧ DtAll K H' fs (ts.map tD) ∧ ts ++ rgs (wl.drop i) i k = rgs wl 0 1 ∧ 0 < k)
      ⟨none, none, none, [], [], 1, rfl, S0, upd_same, by rw [upd_ne nla, upd_same], .nil, rfl, by decide⟩ (fun i σ H' _ hp => ?_) ?_ ?_⟩
    · obtain ⟨_, _, _, _, _, _, _, S, _⟩ := hp
      exact S.seq hlw
    · rintro i x σ H0 H1 hi ⟨y2, y3, y4, fs, ts, k, rfl, S, ha, hl, hd, eq, hk⟩ ⟨Tp, x1, x2, rfl, nT, rfl, e1, e2⟩
      cases e1
      have hiw : i < wl.length := by simpa [txs] using hi
      obtain ⟨wd, hwd, rfl⟩ : ∃ wd, wl[i]? = some wd ∧ x2 = .str (tx wd) := by
        have e2' : (txs wl)[i]? = some x2 := e2
        unfold txs at e2'
        rw [List.getElem?_map] at e2'
        obtain ⟨c, h1, h2⟩ := Option.map_eq_some_iff.mp e2'
        exact ⟨c, h1, h2.symm⟩
      have wmem := List.mem_of_getElem? hwd
      have ed : wl.drop i = wd :: wl.drop (i + 1) := by
        rw [List.drop_eq_getElem_cons hiw]
        congr 1
        exact Option.some.inj ((List.getElem?_eq_getElem hiw).symm.trans hwd)
      rw [ed] at eq
      have eq2 : ts ++ (ringT [((i : Int), 1)] wd 0 k ++ rgs (wl.drop (i + 1)) (i + 1) (k + (wd.length - 1))) = rgs wl 0 1 := eq
      have tl : ts.length ≤ 10000 := by
        have z := ok.sum
        rw [← eq2, List.length_append] at z
        omega
      have s1 := same_upd (o := .tup [.int (i : Nat), .str (tx wd)]) nT
      refine ⟨Tp, _, rfl, .inl (.inl upd_same), rfl, _, _, rfl, _, _, rfl, rfl, _, rfl, a, dx, _, rfl, s1 _ _ ha, rfl, _, rfl, _, rfl, ?_⟩
      refine ⟨a, dx, l, k, wd, i, fs, ts, rfl, s1 _ _ ha, s1 _ _ hl, hd.move (kp_same s1), (ok.w4 wd wmem).lw, hk, Nat.le_trans (ok.len wd wmem) (by decide), tl, fun H2 fs2 off ha2 hl2 hd2 => ?_⟩
      refine ⟨_, _, _, fs2, _, _, rfl, fun b o e => off b o (ne_of_none e na) (ne_of_none e nlH) (s1 _ _ (S _ _ e)), ha2, hl2, hd2, by rw [List.append_assoc]; exact eq2, by omega⟩
    · rintro σ H1 ⟨y2, y3, y4, fs, ts, k, rfl, S, ha, hl, hd, eq, hk⟩
      have e0 : wl.drop (txs wl).length = [] := List.drop_of_length_le (by simp [txs])
      rw [e0] at eq
      have e1 : ts ++ [] = rgs wl 0 1 := eq
      rw [List.append_nil] at e1
      subst e1
      refine ⟨_, rfl, a, CF, dx, _, _, rfl, ha, T.cF, T.nFt, rfl, l, fs, _, rfl, .inl (.inl hl), hd, ok.sum, fun H2 p gs s2 np hp hdp => ?_⟩
      refine ⟨_, rfl, a, CF, dx, _, rfl, s2 _ _ ha, T.cF, T.nFt, (by show 2 < 1000; decide), ?_⟩
      have pa : p ≠ a := fun e => by rw [e, ha] at np; cases np
      have k3 := kp_ins (K := K) (o := foldO CF dx p k) (s2 _ _ ha)
      have S3 : Same H (upd H2 a (foldO CF dx p k)) := (S.trans s2).set na
      have F0 : FG wl (SS wl + 1) (init wl) := by
        refine ⟨und0 fun w hw => (ok.w4 w hw).lw, fun t ht => rgs4 ok.w4 t (dd_sub ht).1, fun t ht => Nat.le_trans (rgs_m t (dd_sub ht).1) (by decide), Nat.le_trans dd_len ok.sum⟩
      refine ⟨_, rfl, a, dx, _, rfl, upd_same, rfl, a, dx, p, k, gs, init wl, rfl, upd_same, by rw [upd_ne pa]; exact hp, hdp.move k3, F0.U.sml, F0.m, F0.len, fun H4 r s4 hr4 => ?_⟩
      refine ⟨fun m σ H' => ∃ y2 y3 r l' fs ts, m = G1.vs ts (SS wl + 1) ∧ σ = [some (.ref lw), some (.ref a), y2, y3, some r] ∧ Same H H' ∧ H' a = some (foldO CF dx l' k) ∧ H' l' = some (.lst fs) ∧ H l' = none ∧ DtAll K H' fs (ts.map tD) ∧ FG wl (SS wl + 1) ts ∧ G ts ∧ Dt K H' r (match G1.clash ts with | none => .none | some q => .tuple [tD q.1, tD q.2]),
        ⟨_, _, _, r, p, gs, init wl, rfl, rfl, S3.trans s4, s4 _ _ upd_same, s4 _ _ (by rw [upd_ne pa]; exact hp), S.free np, (hdp.move k3).move (kp_same s4), F0, G0, hr4⟩, ?_⟩
      rintro m σ H5 ⟨y2, y3, r, l', fs, ts, rfl, rfl, S, ha, hl, nl', hd, F, hG, hr⟩
      refine ⟨_, rfl, rfl, _, rfl, ?_⟩
      cases hc : G1.clash ts with
      | none =>
        rw [hc] at hr
        cases hr
        refine iteF ?_
        exact ⟨_, rfl, a, CF, dx, _, _, rfl, ha, T.cF, T.nFt, rfl, q _ l' fs ts S nl' hl hd (F.U.fld hc) F.U.nd ⟨F.U.sml, F.l4, F.m, F.len, fun t ht => by have := F.U.lt t ht; have := ok.ss; omega⟩⟩
      | some oq =>
        obtain ⟨one, other⟩ := oq
        rw [hc] at hr
        obtain ⟨pa2, xs, rfl, hxs, hda⟩ := hr.tup_inv
        cases hda with
        | cons hd1 hda =>
          cases hda with
          | cons hd2 hda =>
            cases hda
            obtain ⟨LN, hG2⟩ := GS ts hG one other hc
            have C := clash_some hc
            have F2 := F.join C LN
            refine iteT ⟨fun σ' H' => ∃ m', m' < G1.vs ts (SS wl + 1) ∧ ∃ y2 y3 r l' fs ts, m' = G1.vs ts (SS wl + 1) ∧ σ' = [some (.ref lw), some (.ref a), y2, y3, some r] ∧ Same H H' ∧ H' a = some (foldO CF dx l' k) ∧ H' l' = some (.lst fs) ∧ H l' = none ∧ DtAll K H' fs (ts.map tD) ∧ FG wl (SS wl + 1) ts ∧ G ts ∧ Dt K H' r (match G1.clash ts with | none => .none | some q => .tuple [tD q.1, tD q.2]), fun _ _ h => h, ?_⟩
            refine ⟨_, rfl, a, dx, _, rfl, ha, rfl, _, rfl, pa2, _, 0, _, rfl, rfl, hxs, rfl, _, rfl, pa2, _, 1, _, rfl, rfl, hxs, rfl, ?_⟩
            refine ⟨a, dx, l', k, fs, ts, _, _, one, other, rfl, ha, hl, hd, hd1, hd2, LN, F.len, fun H6 l6 fs6 off6 nl6 nla6 ha6 hl6 hd6 => ?_⟩
            have S6 : Same H H6 := fun b o e => off6 b o (ne_of_none e na) (S _ _ e)
            refine ⟨_, rfl, a, dx, _, rfl, ha6, rfl, a, dx, l6, k, fs6, _, rfl, ha6, hl6, hd6, F2.U.sml, F2.m, F2.len, fun H7 r7 s7 hr7 => ?_⟩
            have v := vs_join C F.U.lt
            exact ⟨_, by omega, _, _, r7, l6, fs6, jst ts one other, rfl, rfl, S6.trans s7, s7 _ _ ha6, s7 _ _ hl6, S.free nl6, hd6.move (kp_same s7), F2, hG2, hr7⟩
end
end G1
set_option Elab.async false
set_option linter.all false
set_option maxRecDepth 100000
set_option maxHeartbeats 4000000
/-! sorted(list of (int, text, int)) -/
namespace G1
open PySem PySem.Spec PyProof.Rows L2
open PySem.W (Datum DatumOrd T3 T4 Tup EachIs)
/-- no later one is less -/
def kle (x y : TK) : Bool := !DatumOrd.lt y x
def rSortedK (K : PySem.W.Frag) : List V → Hp → VK → Prop := fun xs H Q => ∃ (a : Addr) (bs : List (V × TK)), xs = [.ref a] ∧ SqL K H a (bs.map (·.1)) ∧ (∀ b ∈ bs, Dp K H b.1 (Datum.toD b.2)) ∧ bs.length ≤ 100000 ∧
  ∀ (bs' : List (V × TK)) l, bs'.Perm bs → bs'.Pairwise (fun x y => kle x.2 y.2 = true) → H l = none → Q (.ref l) (upd H l (.lst (bs'.map (·.1))))
section
variable {X : Cx}
theorem each_of {pins : List (Addr × Obj)} {σ : L2.St} {H : Hp} {s : Shared} (I : Inv X pins σ H s) : ∀ {bs : List (V × TK)} {us : List Value}, Vals (bs.map (·.1)) us → (∀ b ∈ bs, Dp X.K H b.1 (Datum.toD b.2)) →
    EachIs (fun v (b : V × TK) => RelV b.1 v) us bs ∧ EachIs (fun v (b : V × TK) => ∃ as, Reads s.heap v (Datum.toD b.2) as) us bs
  | [], _, r, _ => by cases r; exact ⟨.nil, .nil⟩
  | b :: bs, _, r, h => by
    cases r with
    | cons r1 r2 =>
      obtain ⟨h1, h2⟩ := each_of I r2 fun x hx => h x (List.mem_cons_of_mem _ hx)
      exact ⟨.cons r1 h1, .cons (Dp.reads I _ _ _ (h b List.mem_cons_self) r1) h2⟩
theorem vals_each : ∀ {us : List Value} {bs : List (V × TK)}, EachIs (fun v (b : V × TK) => RelV b.1 v) us bs → Vals (bs.map (·.1)) us
  | _, _, .nil => .nil
  | _, _, .cons a b => .cons a (vals_each b)
theorem cr_sortedK (hu : X.A.units + 64 < cLine) : CallR X (.builtin "sorted") (rSortedK X.K) := by
  intro pins s σ H vs us Q I r h
  obtain ⟨a, bs, rfl, hs, hd, hn, q⟩ := h
  obtain ⟨its, rv, hl, _⟩ := I.list hs
  rw [Vals.ref1 r]
  obtain ⟨e1, e2⟩ := each_of I rv hd
  refine PySem.W.sorted_data (enc := fun b : V × TK => Datum.toD b.2) hl.isList e1 e2 (fun d hd d' hd' => ?_) (PySem.W.Sortable.tuples fun b => ⟨_, _, rfl⟩) (Nat.le_trans hn (by decide)) (fun b hb => ?_) fun out h1 h2 => ?_
  · obtain ⟨x, _, rfl⟩ := List.mem_map.mp hd
    obtain ⟨y, _, rfl⟩ := List.mem_map.mp hd'
    exact DatumOrd.alike x.2 y.2
  · have := Datum.depth_le b.2
    have e : Datum.depth TK = 1 := rfl
    show _ + 2 + (Datum.toD b.2).depth < _
    omega
  · obtain ⟨ep, he'⟩ := PyProof.Rows.sortedAll_at s.heap its out.toArray
    have hp := List.mergeSort_perm bs (PySem.W.dataLe false fun b : V × TK => Datum.toD b.2)
    have hlen : ((bs.mergeSort (PySem.W.dataLe false fun b : V × TK => Datum.toD b.2)).map (·.1)).length ≤ sizeLine := by
      rw [List.length_map, hp.length_eq]
      exact Nat.le_trans hn (by decide)
    refine ⟨.ref _, upd H (s.heap.objs.size + 1) (.lst ((bs.mergeSort (PySem.W.dataLe false fun b : V × TK => Datum.toD b.2)).map (·.1))), I.laid (t' := s.toks) (fun _ _ => PyProof.Rows.sortedAll_old) (Nat.le_succ _) ⟨hlen, out, ep, vals_each h2, he'⟩, rfl, q _ _ hp ?_ (I.hok.fresh (Nat.le_succ _))⟩
    have T := PySem.W.sortLe_total (listOrd itemOrd) false (fun b : V × TK => PySem.W.keyToks (Datum.toD b.2))
    have z := List.pairwise_mergeSort (le := PySem.W.dataLe false fun b : V × TK => Datum.toD b.2) (fun a b c => T.trans a b c) (fun a b => Bool.or_eq_true_iff.mpr (T.total a b)) bs
    refine z.imp fun {x y} hxy => ?_
    rw [PySem.W.dataLe_eq] at hxy
    show (!DatumOrd.lt y.2 x.2) = true
    rw [← DatumOrd.lt_eq y.2 x.2]
    exact hxy
end
theorem kle_tle {t u : Tie} (h : kle (k3 t) (k3 u) = true) : tle t u := by
  have h1 : DatumOrd.lt (k3 u) (k3 t) = false := by
    unfold kle at h
    simpa using h
  have h2 : (if (u.s : Int) = t.s then (if chS u.a = chS t.a then decide ((u.e : Int) < t.e) else decide ((chS u.a).cps.toList < (chS t.a).cps.toList)) else decide ((u.s : Int) < t.s)) = false := h1
  unfold tle
  by_cases e1 : (u.s : Int) = t.s
  · rw [if_pos e1] at h2
    by_cases e2 : chS u.a = chS t.a
    · rw [if_pos e2] at h2
      have := of_decide_eq_false h2
      have := chS_inj e2
      exact .inr ⟨by omega, .inr ⟨by omega, by omega⟩⟩
    · rw [if_neg e2] at h2
      have h3 := of_decide_eq_false h2
      have h4 : ¬ u.a < t.a := fun l => h3 (by
        show [u.a] < [t.a]
        exact List.Lex.rel l)
      have h5 : u.a ≠ t.a := fun e => e2 (by rw [e])
      exact .inr ⟨by omega, .inl (by omega)⟩
  · rw [if_neg e1] at h2
    have := of_decide_eq_false h2
    exact .inl (by omega)
end G1
set_option Elab.async false
set_option linter.all false
set_option maxRecDepth 100000
set_option maxHeartbeats 4000000
/-! steps_of, gone_word, marked, letters_of -/
namespace G1
open PySem PySem.Spec PyProof.Rows L2
open PySem.W (Datum DatumOrd T3 T4 Tup)
section
variable {P : Program} {w : World} {K : PySem.W.Frag} {mg : Str → Option Value} {base : Heap} {CF CR CL : Addr}
/-! ### steps_of -/
def eD (t : Tie) : PyData := .tuple [.int t.e, msD t.m]
def fSt (k : Kn) (p : Nat × Nat) : Option PyData := (k p.1 p.2).map eD
theorem fSt_put (k : Kn) (q : Tie) (p : Nat × Nat) : (if p = (q.s, q.a) then some (eD q) else fSt k p) = fSt (knPut k q) p := by
  unfold fSt knPut
  by_cases e : p = (q.s, q.a)
  · rw [if_pos e, if_pos (by rw [e]; exact ⟨rfl, rfl⟩)]
    rfl
  · rw [if_neg e, if_neg (fun z => e (Prod.ext z.1 z.2))]
def spSo (K : PySem.W.Frag) : Sp := fun vs H Q _ => ∃ (l : Addr) (fs : List V) (ts : List Tie), vs = [.ref l] ∧ SqL K H l fs ∧ DtAll K H fs (ts.map tD) ∧ Sml ts ∧ (∀ t ∈ ts, t.m.length ≤ MX) ∧ ts.length ≤ 10000 ∧
  ∀ H' d kvs, Same H H' → H d = none → H' d = some (.dT kvs) → DM K H' kSL kvs (fSt (stk ts)) → Q (.ref d) H'
theorem scSo : FnScope ["ties", "found", "tie", "start", "letter", "end", "marks"] ["ties"] (defScope (top 21)) := ⟨rfl, rfl, rfl, by decide +kernel, rfl, by decide +kernel, by decide +kernel⟩
theorem c_steps_of (T : Tx K mg CF CR CL) : Cal P w K mg base 3 "steps_of" (spSo K) := by
  refine cal T.steps_of scSo (fun vs H Q E h => ?_) (fun _ _ _ _ _ _ us hl => match us, hl with | [_], _ => rfl) fun f cdv A outer s H vs Q E hr h => ?_
  · obtain ⟨_, _, _, rfl, _⟩ := h; rfl
  · obtain ⟨l, fs, ts, rfl, hl, hd, hsm, hmx, htl, q⟩ := h
    refine ⟨_, pss_cons (ps_set (i := 1) scSo.nd rfl (.inl rfl) pe_dnewT)
      (pss_cons (ps_for PassesOwn.never rfl (pi_list (pv 0)) (pg_name (i := 2) scSo.nd rfl (.inl rfl))
        (pss_one (ps_for PassesOwn.never rfl (pi_tup (pe_tup (pa_cons (pv 2) (pa_cons (pe_c (c_back_tie T) hr (by decide) rfl (pa_cons (pv 2) pa_nil)) pa_nil))))
          (pg_tup rfl (pgs_cons (pg_name (i := 3) scSo.nd rfl (.inl rfl)) (pgs_cons (pg_name (i := 4) scSo.nd rfl (.inl rfl)) (pgs_cons (pg_name (i := 5) scSo.nd rfl (.inl rfl)) (pgs_cons (pg_name (i := 6) scSo.nd rfl (.inl rfl)) pgs_nil)))))
          (pss_one (ps_dput (hu_of hr) (pv 1) (pe_tup (pa_cons (pv 3) (pa_cons (pv 4) pa_nil))) (pe_tup (pa_cons (pv 5) (pa_cons (pv 6) pa_nil))) rfl)))))
      (pss_one (ps_ret (pv 1)))), ?_⟩
    refine fun d nd => ?_
    have lf := hd.len
    rw [List.length_map] at lf
    refine ⟨_, rfl, l, rfl, ⟨fs, (same_upd nd).seq hl⟩, for_it (walk_list (xs := fs))
      (fun i σ H' => ∃ y2 y3 y4 y5 y6 kvs kn, σ = [some (.ref l), some (.ref d), y2, y3, y4, y5, y6] ∧ Same H H' ∧ H' d = some (.dT kvs) ∧ DM K H' kSL kvs (fSt kn) ∧ kvs.length ≤ 2 * i ∧ (hf (ts.drop i)).foldl knPut kn = stk ts)
      ⟨none, none, none, none, none, [], kn0, rfl, same_upd nd, upd_same, DM.nil, Nat.le_refl _, rfl⟩ (fun i σ H' _ hp => ?_) ?_ ?_⟩
    · obtain ⟨_, _, _, _, _, _, _, _, sm, _⟩ := hp
      exact sm.seq hl
    · rintro i x σ H0 H1 hi ⟨y2, y3, y4, y5, y6, kvs, kn, rfl, sm, hdT, D, hk, ec⟩ ⟨rfl, hx⟩
      obtain ⟨t, ht, hdt⟩ := dtAll_map (hd.move (kp_same sm)) hx
      have hit : i < ts.length := by omega
      have ed : ts.drop i = t :: ts.drop (i + 1) := by
        rw [List.drop_eq_getElem_cons hit]
        congr 1
        exact Option.some.inj ((List.getElem?_eq_getElem hit).symm.trans ht)
      rw [ed, hf_cons] at ec
      have tin := List.mem_of_getElem? ht
      refine ⟨_, rfl, _, rfl, x, t, rfl, hdt, .inl (hsm t tin), hmx t tin, fun H2 bv sm2 hb2 => ⟨ln2 _ _, fun pp npp => ?_⟩⟩
      have sm3 : Same H1 (upd H2 pp (.tup [x, bv])) := sm2.trans (same_upd npp)
      refine ⟨pp, rfl, ⟨_, .inl (.inl upd_same)⟩, for_it (walk_tup (xs := [x, bv]))
        (fun j σ H' => ∃ y3 y4 y5 y6 kvs kn, σ = [some (.ref l), some (.ref d), some x, y3, y4, y5, y6] ∧ Same H H' ∧ Dt K H' x (tD t) ∧ Dt K H' bv (tD (bk t)) ∧ SqT K H' pp [x, bv] ∧ H' d = some (.dT kvs) ∧ DM K H' kSL kvs (fSt kn) ∧ kvs.length ≤ 2 * i + j ∧ (([t, bk t].drop j) ++ hf (ts.drop (i + 1))).foldl knPut kn = stk ts)
        ⟨y3, y4, y5, y6, kvs, kn, rfl, sm.trans sm3, hdt.move (kp_same sm3), hb2.move (kp_new npp), .inl (.inl upd_same), sm3 _ _ hdT, D.move (kp_same sm3), by omega, ec⟩ (fun j σ H' _ hp => ?_) ?_ ?_⟩
      · obtain ⟨_, _, _, _, _, _, _, _, _, _, h, _⟩ := hp
        exact h
      · rintro j z σ H0 H3 hj ⟨y3, y4, y5, y6, kvs, kn, rfl, sm, hx1, hx2, hpp, hdT, D, hk, ec⟩ ⟨rfl, hz⟩
        obtain ⟨u, hzu, ec2⟩ : ∃ u : Tie, Dt K H3 z (tD u) ∧ ([t, bk t].drop (j + 1) ++ hf (ts.drop (i + 1))).foldl knPut (knPut kn u) = stk ts := by
          have hj2 : j = 0 ∨ j = 1 := by have : [x, bv].length = 2 := rfl; omega
          rcases hj2 with rfl | rfl
          · cases hz; exact ⟨t, hx1, ec⟩
          · cases hz; exact ⟨bk t, hx2, ec⟩
        obtain ⟨za, zm, rfl, hzs, hzm⟩ := tie_inv hzu
        have kl : kvs.length < sizeLine := Nat.lt_of_le_of_lt (m := 30000) (by have : [x, bv].length = 2 := rfl; omega) (by decide)
        refine ⟨za, _, rfl, hzs, rfl, _, _, rfl, _, _, rfl, _, _, rfl, _, _, rfl, rfl, ?_⟩
        refine ⟨_, rfl, _, rfl, ln2 _ _, fun p9 n9 => ⟨_, rfl, _, rfl, _, rfl, ln2 _ _, fun p10 n10 => ?_⟩⟩
        have s5 : Same H3 (upd (upd H3 p9 (.tup [.int u.e, zm])) p10 (.tup [.int u.s, .str (chS u.a)])) := (same_upd n9).trans (same_upd n10)
        have hd5 := s5 _ _ hdT
        have kp5 := (kp_same (K := K) s5).trans (kp_dT (o := .dT (putK kvs (kSL (u.s, u.a)) (.ref p9))) hd5)
        have hn : Dt K (upd (upd (upd H3 p9 (.tup [.int u.e, zm])) p10 (.tup [.int u.s, .str (chS u.a)])) d (.dT (putK kvs (kSL (u.s, u.a)) (.ref p9)))) (.ref p9) (eD u) :=
          .tup (kp_dT hd5 _ _ (kp_new n10 _ _ (.inl (.inl upd_same)))) (.cons (.int _) (.cons (hzm.move kp5) .nil))
        refine ⟨d, _, rfl, .t hd5 (upd_same (o := .tup ((kSL (u.s, u.a)).map kV))) kl, _, _, _, _, _, knPut kn u, rfl, (sm.trans s5).set nd, hx1.move kp5, hx2.move kp5, kp5 _ _ hpp, upd_same, ((D.move kp5).put kSL_inj hn).congr (fSt_put kn u), Nat.le_trans (DSub.putK_len _ _ _) (by omega), ec2⟩
      · rintro σ H3 ⟨y3, y4, y5, y6, kvs, kn, rfl, sm, hx1, hx2, hpp, hdT, D, hk, ec⟩
        exact ⟨some x, y3, y4, y5, y6, kvs, kn, rfl, sm, hdT, D, by have : [x, bv].length = 2 := rfl; omega, ec⟩
    · rintro σ H1 hz
      obtain ⟨y2, y3, y4, y5, y6, kvs, kn, rfl, sm, hdT, D, hk, ec⟩ := hz
      rw [List.drop_of_length_le (by omega)] at ec
      have e0 : kn = stk ts := ec
      rw [e0] at D
      exact ⟨_, rfl, q _ d kvs sm nd hdT D⟩
/-! ### gone_word, over a web without marks -/
def wlk (st : Sf) : Nat → List Nat → Option Nat
  | p, [] => some p
  | p, c :: r => match st p c with
    | some q => wlk st q r
    | none => none
theorem wlk_path {ts : List Tie} (d : Det ts) : ∀ {w : List Nat} {p q : Nat}, wlk (sf ts) p w = some q ↔ Path ts p w q
  | [], p, q => ⟨fun h => Option.some.inj h, fun h => congrArg some h⟩
  | c :: r, p, q => by
    show (match sf ts p c with | some x => wlk (sf ts) x r | none => none) = some q ↔ ∃ x, Stp ts p c x ∧ Path ts x r q
    cases h : sf ts p c with
    | none =>
      refine ⟨fun z => (nomatch z), fun ⟨x, s, _⟩ => ?_⟩
      rw [(sf_iff d).mpr s] at h
      cases h
    | some x =>
      refine ⟨fun z => ⟨x, (sf_iff d).mp h, (wlk_path d).mp z⟩, fun ⟨y, s, pth⟩ => ?_⟩
      have := (sf_iff d).mpr s
      rw [h] at this
      cases this
      exact (wlk_path d).mpr pth
def spGo (K : PySem.W.Frag) : Sp := fun vs H Q _ => ∃ (l : Addr) (fs : List V) (ts : List Tie) (wd : List Nat), vs = [.ref l, .str (tx wd)] ∧ SqL K H l fs ∧ DtAll K H fs (ts.map tD) ∧ Sml ts ∧ (∀ t ∈ ts, t.m = []) ∧ ts.length ≤ 10000 ∧ wd.length ≤ 1000 ∧
  ∀ H' r, Same H H' → Dt K H' r (match wlk (sf ts) 0 wd with | none => .none | some q => .tuple [.int q, msD []]) → Q r H'
theorem scGo : FnScope ["ties", "word", "steps", "here", "marks", "letter", "more"] ["ties", "word"] (defScope (top 26)) := ⟨rfl, rfl, rfl, by decide +kernel, rfl, by decide +kernel, by decide +kernel⟩
theorem stk_m {ts : List Tie} (h : ∀ t ∈ ts, t.m = []) {p c : Nat} {o : Tie} (e : stk ts p c = some o) : o.m = [] := by
  obtain ⟨m, _, _⟩ := stk_some e
  obtain ⟨t, ht, z⟩ := mem_hf.mp m
  rcases z with rfl | rfl
  · exact h o ht
  · show iv t.m = []
    rw [h t ht]
    rfl
theorem c_gone_word (T : Tx K mg CF CR CL) : Cal P w K mg base 4 "gone_word" (spGo K) := by
  refine cal T.gone_word scGo (fun vs H Q E h => ?_) (fun _ _ _ _ _ _ us hl => match us, hl with | [_, _], _ => rfl) fun f cdv A outer s H vs Q E hr h => ?_
  · obtain ⟨_, _, _, _, rfl, _⟩ := h; rfl
  · obtain ⟨l, fs, ts, wd, rfl, hl, hd, hsm, hm0, htl, hwl, q⟩ := h
    refine ⟨_, pss_cons (ps_par3 (i := 2) (j := 3) (l := 4) (by rfl) scGo.nd rfl rfl rfl (by decide) (by decide) (by decide) rfl rfl rfl (pa_cons (pe_c (c_steps_of T) hr (by decide) rfl (pa_cons (pv 0) pa_nil)) (pa_cons pe_int (pa_cons (pe_tup pa_nil) pa_nil))) (by rfl))
      (pss_cons (ps_for PassesOwn.never rfl (pi_str (pv 1)) (pg_name (i := 5) scGo.nd rfl (.inl rfl))
        (pss_cons (ps_if (pt_cmp (pc_dnotin (hu_of hr) (pe_tup (pa_cons (pv 3) (pa_cons (pv 5) pa_nil))) (pv 2)) rfl) (pss_one (ps_ret pe_non)) pss_nil)
        (pss_cons (ps_asg (pe_dget (hu_of hr) (pv 2) (pe_tup (pa_cons (pv 3) (pa_cons (pv 5) pa_nil))) (fun _ _ => rfl)) (pg_tup rfl (pgs_cons (pg_name (i := 3) scGo.nd rfl (.inl rfl)) (pgs_cons (pg_name (i := 6) scGo.nd rfl (.inl rfl)) pgs_nil))))
        (pss_one (ps_set (i := 4) scGo.nd rfl (.inl rfl) (pe_c (c_joined_marks T) hr (by decide) rfl (pa_cons (pv 4) (pa_cons (pv 6) pa_nil))))))))
      (pss_one (ps_ret (pe_tup (pa_cons (pv 3) (pa_cons (pv 4) pa_nil)))))), ?_⟩
    refine ⟨_, rfl, l, fs, ts, rfl, hl, hd, hsm, fun t ht => by rw [hm0 t ht]; exact Nat.zero_le _, htl, fun H1 d kvs s1 nd hdT D => ⟨Nat.zero_le _, fun p np => ⟨_, _, _, rfl, ?_⟩⟩⟩
    have S1 : Same H (upd H1 p (.tup [])) := s1.trans (same_upd np)
    refine ⟨_, rfl, _, rfl, for_it walk_str (fun i σ H' => ∃ y5 y6 mv here, σ = [some (.ref l), some (.str (tx wd)), some (.ref d), some (.int (here : Nat)), some mv, y5, y6] ∧ Same H H' ∧ H' d = some (.dT kvs) ∧ DM K H' kSL kvs (fSt (stk ts)) ∧ Dt K H' mv (msD []) ∧ wlk (sf ts) here (wd.drop i) = wlk (sf ts) 0 wd)
      ⟨none, none, .ref p, 0, rfl, S1, same_upd np _ _ hdT, D.move (kp_new np), .tup (.inl (.inl upd_same)) .nil, rfl⟩ (fun _ _ _ _ _ => trivial) ?_ ?_⟩
    · rintro i x σ H0 H2 hi ⟨y5, y6, mv, here, rfl, S, hdT, D, hmv, ew⟩ ⟨rfl, c, hc, rfl⟩
      have hi' : i < wd.length := by simpa [tx] using hi
      have hc' : wd[i]? = some c := by simpa [tx] using hc
      have ed : wd.drop i = c :: wd.drop (i + 1) := by
        rw [List.drop_eq_getElem_cons hi']
        congr 1
        exact Option.some.inj ((List.getElem?_eq_getElem hi').symm.trans hc')
      rw [ed] at ew
      refine ⟨_, rfl, _, rfl, ln2 _ _, fun p1 n1 => ?_⟩
      have s3 := same_upd (o := .tup [.int (here : Nat), .str (chS c)]) n1
      have e9 : sf ts here c = (stk ts here c).map (·.e) := rfl
      cases hst : stk ts here c with
      | none =>
        have hv : valV kvs (kSL (here, c)) = none := D.none_ (by unfold fSt; rw [hst]; rfl)
        refine ⟨_, rfl, d, _, rfl, .t (s3 _ _ hdT) (upd_same (o := .tup ((kSL (here, c)).map kV))), _, rfl, ?_⟩
        rw [hv]
        refine iteT ?_
        refine q _ _ (S.trans s3) ?_
        have e0 : wlk (sf ts) here (c :: wd.drop (i + 1)) = none := by
          show (match sf ts here c with | some x => _ | none => none) = none
          rw [e9, hst]
          rfl
        rw [← ew, e0]
        exact .non
      | some o =>
        obtain ⟨ov, hv, hov⟩ := D.some_ (i := (here, c)) (by unfold fSt; rw [hst]; rfl)
        have hom := stk_m hm0 hst
        obtain ⟨oa, xs, rfl, hos, hoa⟩ := hov.tup_inv
        cases hoa with
        | cons h1 hoa =>
          cases hoa with
          | cons h2 hoa =>
            cases hoa
            cases h1.int_inv
            refine ⟨_, rfl, d, _, rfl, .t (s3 _ _ hdT) (upd_same (o := .tup ((kSL (here, c)).map kV))), _, rfl, ?_⟩
            rw [hv]
            refine iteF ?_
            refine ⟨_, rfl, _, rfl, _, rfl, ln2 _ _, fun p2 n2 => ?_⟩
            have s4 := s3.trans (same_upd (o := .tup [.int (here : Nat), .str (chS c)]) n2)
            refine ⟨d, _, rfl, by rw [← hv]; exact .t (s4 _ _ hdT) (upd_same (o := .tup ((kSL (here, c)).map kV))), oa, _, rfl, kp_same s4 _ _ hos, rfl, _, _, rfl, _, _, rfl, rfl, ?_⟩
            refine ⟨_, rfl, _, rfl, _, _, [], o.m, rfl, hmv.move (kp_same s4), h2.move (kp_same s4), by rw [hom]; exact Nat.zero_le _, fun H5 r s5 hr5 => ?_⟩
            rw [hom] at hr5
            refine ⟨_, _, r, o.e, rfl, (S.trans s4).trans s5, s5 _ _ (s4 _ _ hdT), D.move (kp_same (s4.trans s5)), hr5, ?_⟩
            rw [← ew]
            show _ = (match sf ts here c with | some x => _ | none => none)
            rw [e9, hst]
            rfl
    · rintro σ H2 hz
      obtain ⟨y5, y6, mv, here, rfl, S, hdT, D, hmv, ew⟩ := hz
      rw [List.drop_of_length_le (by show _ ≤ wd.toArray.size; simp)] at ew
      refine ⟨_, rfl, _, rfl, ln2 _ _, fun p1 n1 => q _ _ (S.trans (same_upd n1)) ?_⟩
      rw [← ew]
      exact .tup (.inl (.inl upd_same)) (.cons (.int _) (.cons (hmv.move (kp_new n1)) .nil))
end
end G1
set_option Elab.async false
set_option linter.all false
set_option maxRecDepth 100000
set_option maxHeartbeats 4000000
/-! marked, letters_of, met_words -/
namespace G1
open PySem PySem.Spec PyProof.Rows L2
open PySem.W (Datum DatumOrd T3 T4 Tup)
section
variable {P : Program} {w : World} {K : PySem.W.Frag} {mg : Str → Option Value} {base : Heap} {CF CR CL : Addr}
def fmD (F : List Tie) : List PyData := F.map fun t => Datum.toD (k3 t)
theorem k3_inv {H : Hp} {v : V} {t : Tie} (h : Dt K H v (Datum.toD (k3 t))) : ∃ a, v = .ref a ∧ SqT K H a [.int t.s, .str (chS t.a), .int t.e] := by
  obtain ⟨a, xs, rfl, hs, ha⟩ := h.tup_inv
  cases ha with
  | cons h1 ha =>
    cases ha with
    | cons h2 ha =>
      cases ha with
      | cons h3 ha =>
        cases ha
        cases h1.int_inv
        cases h2.str_inv
        cases h3.int_inv
        exact ⟨a, rfl, hs⟩
def spMa (K : PySem.W.Frag) : Sp := fun vs H Q _ => ∃ (v : V) (F : List Tie), vs = [v] ∧ Dt K H v (.tuple (fmD F)) ∧ (∀ t ∈ F, t.m = []) ∧ F.length ≤ 10000 ∧ ∀ H' p fs, Same H H' → H p = none → H' p = some (.lst fs) → DtAll K H' fs (F.map tD) → Q (.ref p) H'
theorem scMa : FnScope ["ties", "start", "letter", "end"] ["ties"] (defScope (top 25)) := ⟨rfl, rfl, rfl, by decide +kernel, rfl, by decide +kernel, by decide +kernel⟩
theorem c_marked (T : Tx K mg CF CR CL) : Cal P w K mg base 1 "marked" (spMa K) := by
  refine cal T.marked scMa (fun vs H Q E h => ?_) (fun _ _ _ _ _ _ us hl => match us, hl with | [_], _ => rfl) fun f cdv A outer s H vs Q E hr h => ?_
  · obtain ⟨_, _, rfl, _⟩ := h; rfl
  · obtain ⟨v, F, rfl, hv, hm, hl, q⟩ := h
    refine ⟨_, pss_one (ps_ret (pe_lc (own := [("start", 1), ("letter", 2), ("end", 3)]) (g := gTup K 3 (gCons (gName 1) (gCons (gName 2) (gCons (gName 3) gNil)))) (tt := tYes) rfl scMa.nd (pi_tup (pv 0)) (blkOk_by (N := ["ties", "start", "letter", "end"]) (sc := defScope (top 25)) (by decide +kernel))
      (fun _ _ _ _ _ => pg_tup rfl (pgs_cons (pg_name (i := 1) scMa.nd rfl (.inl rfl)) (pgs_cons (pg_name (i := 2) scMa.nd rfl (.inl rfl)) (pgs_cons (pg_name (i := 3) scMa.nd rfl (.inl rfl)) pgs_nil))))
      (fun _ _ _ _ _ => pts_nil) (fun _ _ _ _ _ => pe_tup (pa_cons (pv 1) (pa_cons (pv 2) (pa_cons (pv 3) (pa_cons (pe_tup pa_nil) pa_nil))))))), ?_⟩
    obtain ⟨a, xs, rfl, hs, ha⟩ := hv.tup_inv
    have lx := ha.len
    unfold fmD at lx
    rw [List.length_map] at lx
    refine ⟨_, rfl, a, rfl, ⟨xs, hs⟩, fun D nD => lc_it (walk_tup (xs := xs)) (fun i H' => ∃ fs, LD K H H' D fs ((F.take i).map tD)) ⟨[], .nil nD⟩ (fun i H' _ ⟨fs, L⟩ => kp_same L.same _ _ hs) ?_ ?_⟩
    · rintro i x H0 H1 hi ⟨fs, L⟩ ⟨rfl, hx⟩
      obtain ⟨t, ht, hd⟩ := dtAll_map (ha.move (kp_same L.same)) hx
      obtain ⟨ta, rfl, hts⟩ := k3_inv hd
      refine ⟨ta, _, rfl, hts, rfl, _, _, rfl, _, _, rfl, _, _, rfl, rfl, rfl, yesT ?_⟩
      refine ⟨_, rfl, _, rfl, _, rfl, Nat.zero_le _, fun p1 n1 => ⟨ln4 _ _ _ _, fun p2 n2 => ?_⟩⟩
      have L2 := (L.new (o := .tup []) n1).new (o := .tup [.int t.s, .str (chS t.a), .int t.e, .ref p1]) n2
      have hn := tie_mk (K := K) (h := t.s) (c := t.a) (t := t.e) (m := []) (.inl (.inl (upd_same (a := p2) (H := upd H1 p1 (.tup []))))) (.move (kp_new n2) (.tup (.inl (.inl upd_same)) .nil))
      have et : (⟨t.s, t.a, t.e, []⟩ : Tie) = t := by rw [← hm t (List.mem_of_getElem? ht)]
      rw [et] at hn
      refine ⟨fs, L2.at_, ?_, fs ++ [.ref p2], ?_⟩
      · rw [L2.len, List.length_map, List.length_take]
        exact Nat.lt_of_le_of_lt (m := 10000) (by omega) (by decide)
      · rw [List.take_add_one, ht]
        exact L2.pushT nD hn
    · rintro H1 ⟨fs, L⟩
      rw [List.take_of_length_le (by omega)] at L
      exact q _ D fs L.same nD L.at_ L.dt
/-! ### letters_of(4) -/
def spLo : Sp := fun vs H Q _ => vs = [.int 4] ∧ ∀ H', Same H H' → Q (.str (tx ltrs)) H'
theorem scLo : FnScope ["many", "letter"] ["many"] (defScope (top 22)) := ⟨rfl, rfl, rfl, by decide +kernel, rfl, by decide +kernel, by decide +kernel⟩
def l4s : List Nat := [97, 98, 99, 100]
theorem up4 {c : Nat} (h : c ∈ l4s) : Txt.upper (chS c) = chS (c - 32) := by
  have key : ∀ c ∈ l4s, Txt.upper (chS c) = chS (c - 32) := by decide +kernel
  exact key c h
theorem c_letters_of (T : Tx K mg CF CR CL) : Cal P w K mg base 1 "letters_of" spLo := by
  refine cal T.letters_of scLo (fun vs H Q E h => ?_) (fun _ _ _ _ _ _ us hl => match us, hl with | [_], _ => rfl) fun f cdv A outer s H vs Q E hr h => ?_
  · rw [h.1]; rfl
  · obtain ⟨rfl, q⟩ := h
    refine ⟨_, pss_one (ps_ret (pe_join pe_str (pe_lc (own := [("letter", 1)]) (g := gName 1) (tt := tYes) rfl scLo.nd (pi_str (pe_slice sl_str pe_str po_none (po_some (pv 0)))) (blkOk_by (N := ["many", "letter"]) (sc := defScope (top 22)) (by decide +kernel))
      (fun _ _ _ _ _ => pg_name (i := 1) scLo.nd rfl (.inl rfl)) (fun _ _ _ _ _ => pts_nil) (fun _ _ _ _ _ => pe_op op_add_str (pv 1) (pe_upper (pv 1)))))), ?_⟩
    have ec : cutS ("abcd" : Str) none (some 4) = tx l4s := by decide +kernel
    refine ⟨⟨_, rfl⟩, _, rfl, 4, rfl, _, rfl, by decide +kernel, _, rfl, fun D nD => ?_⟩
    rw [ec]
    refine lc_it (walk_str (z := tx l4s)) (fun i H' => Same H H' ∧ H' D = some (.lst ((l4s.take i).map fun c => .str (tx [c, c - 32])))) ⟨same_upd nD, upd_same⟩ (fun _ _ _ _ => trivial) ?_ ?_
    · rintro i x H0 H1 hi ⟨sm, hD⟩ ⟨rfl, c, hc, rfl⟩
      have hc' : l4s[i]? = some c := by simpa [tx] using hc
      have hm := List.mem_of_getElem? hc'
      refine ⟨rfl, yesT ?_⟩
      refine ⟨_, rfl, _, rfl, ⟨_, rfl⟩, _, rfl, rfl, (by show 1 ≤ _; decide), _, _, rfl, rfl, ?_, _, hD, ?_, sm.set nD, ?_⟩
      · rw [show (⟨#[c]⟩ : Str) = chS c from rfl, up4 hm]
        show 1 + 1 ≤ _
        decide
      · rw [List.length_map, List.length_take]
        exact Nat.lt_of_le_of_lt (m := 4) (Nat.min_le_right _ _) (by decide)
      · rw [upd_same, List.take_add_one, hc', List.map_append]
        rw [show (⟨#[c]⟩ : Str) = chS c from rfl, up4 hm]
        have e : chS c ++ chS (c - 32) = tx [c, c - 32] := tx_app [c] [c - 32]
        rw [e]
        rfl
    · rintro H1 ⟨sm, hD⟩
      have e0 : l4s.take (tx l4s).cps.size = l4s := by decide +kernel
      rw [e0] at hD
      refine ⟨_, D, (l4s.map fun c => [c, c - 32]).map tx, rfl, rfl, .inl (.inl (.inl ?_)), ?_, ?_⟩
      · rw [hD, List.map_map, List.map_map]
        rfl
      · decide +kernel
      · rw [tx_joinL]
        exact q _ sm
end
end G1
set_option Elab.async false
set_option linter.all false
set_option maxRecDepth 100000
set_option maxHeartbeats 4000000
/-! met_words -/
namespace G1
open PySem PySem.Spec PyProof.Rows L2
open PySem.W (Datum DatumOrd T3 T4 Tup)
theorem nodup_bound : ∀ (n : Nat) (l : List Nat), l.Nodup → (∀ x ∈ l, x < n) → l.length ≤ n
  | 0, l, _, h => by
    cases l with
    | nil => exact Nat.le_refl _
    | cons x r => exact absurd (h x List.mem_cons_self) (Nat.not_lt_zero _)
  | n + 1, l, nd, h => by
    have z := nodup_bound n (l.erase n) (nd.erase n) fun x hx => by
      have h1 := h x (List.mem_of_mem_erase hx)
      have h2 : x ≠ n := fun e => by rw [e] at hx; exact (List.Nodup.not_mem_erase nd) hx
      omega
    by_cases hm : n ∈ l
    · rw [List.length_erase_of_mem hm] at z
      omega
    · rw [List.erase_of_not_mem hm] at z
      omega
section
variable {P : Program} {w : World} {K : PySem.W.Frag} {mg : Str → Option Value} {base : Heap} {CF CR CL : Addr}
/-- met places with their words -/
structure FW (kvs : List (Key × V)) (f : List Nat) : Prop where
  keys : kvs.map (·.1) = f.map fun p : Nat => Sum.inl (p : Int)
  vals : ∀ kv ∈ kvs, ∃ z : Str, kv.2 = .str z ∧ z.length ≤ f.length
theorem valV_key {kvs : List (Key × V)} {k : Key} (h : k ∈ kvs.map (·.1)) : ∃ v, valV kvs k = some v ∧ (k, v) ∈ kvs := by
  induction kvs with
  | nil => cases h
  | cons kv r ih =>
    by_cases e : kv.1 = k
    · exact ⟨kv.2, valV_pos e, by rw [← e]; exact List.mem_cons_self⟩
    · rcases List.mem_cons.mp h with h1 | h1
      · exact absurd h1.symm e
      · obtain ⟨v, a, b⟩ := ih h1
        exact ⟨v, by rw [valV_neg e]; exact a, List.mem_cons_of_mem _ b⟩
theorem valV_out {kvs : List (Key × V)} {k : Key} (h : k ∉ kvs.map (·.1)) : valV kvs k = none := by
  induction kvs with
  | nil => rfl
  | cons kv r ih =>
    rw [valV_neg (fun e => h (by rw [← e]; exact List.mem_cons_self))]
    exact ih fun hm => h (List.mem_cons_of_mem _ hm)
theorem FW.mem {kvs : List (Key × V)} {f : List Nat} (F : FW kvs f) {p : Nat} : (Sum.inl (p : Int) : Key) ∈ kvs.map (·.1) ↔ p ∈ f := by
  rw [F.keys, List.mem_map]
  constructor
  · rintro ⟨q, hq, e⟩
    have := Sum.inl.inj e
    rw [show p = q by omega]
    exact hq
  · exact fun h => ⟨p, h, rfl⟩
theorem FW.in_ {kvs : List (Key × V)} {f : List Nat} (F : FW kvs f) {p : Nat} (h : p ∈ f) : ∃ z : Str, valV kvs (Sum.inl (p : Int)) = some (.str z) ∧ z.length ≤ f.length := by
  obtain ⟨v, a, b⟩ := valV_key (F.mem.mpr h)
  obtain ⟨z, e, l⟩ := F.vals _ b
  exact ⟨z, by rw [a]; exact congrArg some e, l⟩
theorem FW.out {kvs : List (Key × V)} {f : List Nat} (F : FW kvs f) {p : Nat} (h : p ∉ f) : valV kvs (Sum.inl (p : Int)) = none := valV_out fun m => h (F.mem.mp m)
theorem FW.put {kvs : List (Key × V)} {f : List Nat} (F : FW kvs f) {p : Nat} (h : p ∉ f) {z : Str} (hz : z.length ≤ f.length + 1) : FW (putK kvs (Sum.inl (p : Int)) (.str z)) (f ++ [p]) := by
  rw [putK_new _ (F.out h)]
  refine ⟨by rw [List.map_append, F.keys, List.map_append]; rfl, fun kv hk => ?_⟩
  rw [List.length_append]
  rcases List.mem_append.mp hk with hk | hk
  · obtain ⟨y, e, l⟩ := F.vals kv hk
    exact ⟨y, e, Nat.le_succ_of_le l⟩
  · rw [List.mem_singleton.mp hk]
    exact ⟨z, rfl, hz⟩
theorem FW.len {kvs : List (Key × V)} {f : List Nat} (F : FW kvs f) : kvs.length = f.length := by
  have := congrArg List.length F.keys
  simpa using this
abbrev nts (l : List Nat) : List V := l.map fun p : Nat => .int (p : Int)
theorem dp_nts {H : Hp} : ∀ l : List Nat, DpAll K H (nts l) ((l.map fun p : Nat => (p : Int)).map Datum.toD)
  | [] => .nil
  | c :: r => .cons (.int _) (dp_nts r)
def spMw (K : PySem.W.Frag) : Sp := fun vs H Q _ => ∃ (l : Addr) (fs : List V) (ts : List Tie), vs = [.ref l, .int 0, .int 4] ∧ SqL K H l fs ∧ DtAll K H fs (ts.map tD) ∧ WB ts ∧
  ∀ H' d kvs M, Same H H' → H d = none → H' d = some (.dK kvs) → FW kvs M → Bfs (sf ts) [0] 0 M → M.Nodup → M.length ≤ 9000 → Q (.ref d) H'
theorem scMw : FnScope ["ties", "start", "many", "steps", "found", "front", "here", "letter", "there"] ["ties", "start", "many"] (defScope (top 23)) := ⟨rfl, rfl, rfl, by decide +kernel, rfl, by decide +kernel, by decide +kernel⟩
theorem cut_1 (xs : List V) : cutV xs (some 1) none = xs.drop 1 := by
  unfold cutV
  rw [show HT.sIx xs.length 0 (some 1) = min 1 xs.length from HT.sIx_nat xs.length 0 1, HT.sIx_none]
  cases xs with
  | nil => rfl
  | cons x r =>
    rw [show min 1 (x :: r).length = 1 by rw [List.length_cons]; omega]
    show (List.take ((x :: r).length - 1) r) = r
    rw [List.length_cons, Nat.add_sub_cancel]
    exact List.take_length
theorem vis_some {st : Sf} {here c q : Nat} {r f : List Nat} (h : st here c = some q) : vis st here (c :: r) f = if q ∈ f then vis st here r f else vis st here r (f ++ [q]) := by
  show (match st here c with | some q => _ | none => _) = _
  rw [h]
theorem vis_none {st : Sf} {here c : Nat} {r f : List Nat} (h : st here c = none) : vis st here (c :: r) f = vis st here r f := by
  show (match st here c with | some q => _ | none => _) = _
  rw [h]
structure MwI (ts : List Tie) (f : List Nat) (kvs : List (Key × V)) : Prop where
  fw : FW kvs f
  nd : f.Nodup
  lt : ∀ p ∈ f, p < 9000
theorem MwI.len {ts : List Tie} {f : List Nat} {kvs : List (Key × V)} (I : MwI ts f kvs) : f.length ≤ 9000 := nodup_bound _ f I.nd I.lt
theorem mw0 (ts : List Tie) : MwI ts [0] [(Sum.inl 0, .str "")] := ⟨⟨rfl, fun kv hk => ⟨"", by rw [List.mem_singleton.mp hk], Nat.zero_le _⟩⟩, by decide, fun p hp => by rw [List.mem_singleton.mp hp]; decide⟩
theorem c_met_words (T : Tx K mg CF CR CL) : Cal P w K mg base 4 "met_words" (spMw K) := by
  refine cal T.met_words scMw (fun vs H Q E h => ?_) (fun _ _ _ _ _ _ us hl => match us, hl with | [_, _, _], _ => rfl) fun f cdv A outer s H vs Q E hr h => ?_
  · obtain ⟨_, _, _, rfl, _⟩ := h; rfl
  · obtain ⟨l, fs, ts, rfl, hl, hd, wb, q⟩ := h
    refine ⟨_, pss_cons (ps_par3 (i := 3) (j := 4) (l := 5) (by rfl) scMw.nd rfl rfl rfl (by decide) (by decide) (by decide) rfl rfl rfl (pa_cons (pe_c (c_steps_of T) hr (by decide) rfl (pa_cons (pv 0) pa_nil)) (pa_cons (pe_disp (pps_cons (pv 1) pe_str pps_nil) (by rfl) (by rfl) (fun z => by cases z) (by decide)) (pa_cons (pe_lst (pa_cons (pv 1) pa_nil)) pa_nil))) (by rfl))
      (pss_cons (ps_while PassesOwn.never (pt_cmpR (op_neT (List Int) hr.units) (pv 5) (pe_lst pa_nil) (nomark _))
        (pss_cons (ps_par (i := 6) (j := 5) (by rfl) scMw.nd rfl rfl (by decide) rfl rfl (pa_cons (pe_ix ix_list (pv 5) pe_int (fun _ _ => rfl)) (pa_cons (pe_slice sl_list (pv 5) (po_some pe_int) po_none) pa_nil)) (by rfl))
        (pss_one (ps_for PassesOwn.never rfl (pi_str (pe_c (c_letters_of T) hr (by decide) rfl (pa_cons (pv 2) pa_nil))) (pg_name (i := 7) scMw.nd rfl (.inl rfl))
          (pss_one (ps_if (PW.pt (pw_and (pt_cmp (pc_din (hu_of hr) (pe_tup (pa_cons (pv 6) (pa_cons (pv 7) pa_nil))) (pv 3)) rfl) (pw_and1 (pt_cmp (pc_dnotin (hu_of hr) (pe_ix ix_tup (pe_dget (hu_of hr) (pv 3) (pe_tup (pa_cons (pv 6) (pa_cons (pv 7) pa_nil))) (fun _ _ => rfl)) pe_int (fun _ _ => rfl)) (pv 4)) rfl))))
            (pss_cons (ps_set (i := 8) scMw.nd rfl (.inl rfl) (pe_ix ix_tup (pe_dget (hu_of hr) (pv 3) (pe_tup (pa_cons (pv 6) (pa_cons (pv 7) pa_nil))) (fun _ _ => rfl)) pe_int (fun _ _ => rfl)))
            (pss_cons (ps_dput (hu_of hr) (pv 4) (pv 8) (pe_op op_add_str (pe_dget (hu_of hr) (pv 4) (pv 6) (fun _ _ => rfl)) (pv 7)) rfl)
            (pss_one (ps_expr (pe_bm PySem.F.plainAttrs_list PySem.F.slot_list_append PySem.F.type_list_append mt_append (pv 5) (pa_cons (pv 8) pa_nil)))))) pss_nil))))))
      (pss_one (ps_ret (pv 4)))), ?_⟩
    refine ⟨_, rfl, l, fs, ts, rfl, hl, hd, wb.sml, wb.m, wb.len, fun H1 d kvs0 s1 nd hdT D => ?_⟩
    refine fun fd nfd => ⟨_, rfl, upd_same, [(Sum.inl 0, .str "")], rfl, (by decide), _, rfl, (by show 1 ≤ sizeLine; decide), fun fr nfr => ⟨_, _, _, rfl, ?_⟩⟩
    have nfd0 : H fd = none := s1.free nfd
    have ndfd : d ≠ fd := ne_of_none hdT nfd
    have nfrfd : fr ≠ fd := fun e => by rw [e, upd_same] at nfr; cases nfr
    have nfr1 : H1 fr = none := by rw [upd_ne nfrfd, upd_ne nfrfd] at nfr; exact nfr
    have s2 : Same H1 (upd (upd H1 fd (.dK [])) fd (.dK [(Sum.inl 0, .str "")])) := (same_upd nfd).set nfd
    have s3 := s2.set (o := .lst [.int 0]) nfr1
    refine ⟨fun m σ H' => ∃ i f kvs fr' y6 y7 y8, m = 9000 - i ∧ σ = [some (.ref l), some (.int 0), some (.int 4), some (.ref d), some (.ref fd), some (.ref fr'), y6, y7, y8] ∧ Same H H' ∧ H fr' = none ∧ H' d = some (.dT kvs0) ∧ DM K H' kSL kvs0 (fSt (stk ts)) ∧ H' fd = some (.dK kvs) ∧ H' fr' = some (.lst (nts (f.drop i))) ∧ MwI ts f kvs ∧ i ≤ f.length ∧ ∀ res, Bfs (sf ts) f i res → Bfs (sf ts) [0] 0 res,
      ⟨_, 0, [0], [(Sum.inl 0, .str "")], fr, _, _, _, rfl, rfl, s1.trans s3, s1.free nfr1, s3 _ _ hdT, D.move (kp_same s3), (upd_ne nfrfd.symm).trans upd_same, upd_same, mw0 ts, by decide, fun _ b => b⟩, ?_⟩
    rintro m σ H2 ⟨i, f, kvs, fr', y6, y7, y8, rfl, rfl, S, nfr', hdT, D, hfd, hfr, I, hi, hB⟩
    have fl := I.len
    refine ⟨_, rfl, Nat.zero_le _, fun p2 n2 => ?_⟩
    have t2 := same_upd (o := .lst []) n2
    refine ⟨(f.drop i).map fun p : Nat => (p : Int), [], .lst (.inl (.inl (t2 _ _ hfr))) (dp_nts _), .lst (.inl (.inl upd_same)) .nil, _, rfl, ?_⟩
    refine ite2 (fun h => ?_) (fun h => ?_)
    · have hne : f.drop i ≠ [] := fun e => of_decide_eq_true h (by rw [e]; rfl)
      have hlt : i < f.length := by
        have : (f.drop i).length ≠ 0 := fun e => hne (List.length_eq_zero_iff.mp e)
        rw [List.length_drop] at this
        omega
      obtain ⟨here, hhere⟩ : ∃ here, f[i]? = some here := ⟨_, List.getElem?_eq_getElem hlt⟩
      have ed : f.drop i = here :: f.drop (i + 1) := by
        rw [List.drop_eq_getElem_cons hlt]
        congr 1
        exact Option.some.inj ((List.getElem?_eq_getElem hlt).symm.trans hhere)
      refine ⟨fun σ' H' => ∃ m', m' < 9000 - i ∧ ∃ i f kvs fr' y6 y7 y8, m' = 9000 - i ∧ σ' = [some (.ref l), some (.int 0), some (.int 4), some (.ref d), some (.ref fd), some (.ref fr'), y6, y7, y8] ∧ Same H H' ∧ H fr' = none ∧ H' d = some (.dT kvs0) ∧ DM K H' kSL kvs0 (fSt (stk ts)) ∧ H' fd = some (.dK kvs) ∧ H' fr' = some (.lst (nts (f.drop i))) ∧ MwI ts f kvs ∧ i ≤ f.length ∧ ∀ res, Bfs (sf ts) f i res → Bfs (sf ts) [0] 0 res, fun _ _ h => h, ?_⟩
      refine ⟨_, rfl, fr', _, 0, .int here, rfl, rfl, .inl (.inl (t2 _ _ hfr)), by rw [ed]; exact atI_nat (j := 0) rfl, _, rfl, 1, rfl, fr', _, rfl, .inl (.inl (t2 _ _ hfr)), fun p3 n3 => ⟨_, _, rfl, ?_⟩⟩
      rw [cut_1, ed]
      have e4 : (nts (here :: f.drop (i + 1))).drop 1 = nts (f.drop (i + 1)) := rfl
      rw [e4]
      have t3 := t2.trans (same_upd (o := .lst (nts (f.drop (i + 1)))) n3)
      have n3H : H p3 = none := (S.trans t2).free n3
      refine ⟨_, rfl, rfl, fun H5 s5 => ⟨tx ltrs, rfl, for_it (walk_str (z := tx ltrs))
        (fun j σ H' => ∃ y7 y8 f' kvs', σ = [some (.ref l), some (.int 0), some (.int 4), some (.ref d), some (.ref fd), some (.ref p3), some (.int (here : Nat)), y7, y8] ∧ Same H H' ∧ H' d = some (.dT kvs0) ∧ DM K H' kSL kvs0 (fSt (stk ts)) ∧ H' fd = some (.dK kvs') ∧ H' p3 = some (.lst (nts (f'.drop (i + 1)))) ∧ MwI ts f' kvs' ∧ f'[i]? = some here ∧ vis (sf ts) here (ltrs.drop j) f' = vis (sf ts) here ltrs f)
        ⟨y7, y8, f, kvs, rfl, S.trans (t3.trans s5), s5 _ _ (t3 _ _ hdT), D.move (kp_same (t3.trans s5)), s5 _ _ (t3 _ _ hfd), s5 _ _ upd_same, I, hhere, rfl⟩ (fun _ _ _ _ _ => trivial) ?_ ?_⟩⟩
      · rintro j x σ H0 H6 hj ⟨y7, y8, f', kvs', rfl, S, hdT, D, hfd, hfr, I, hh, ev⟩ ⟨rfl, c, hc, rfl⟩
        have hc' : ltrs[j]? = some c := by simpa [tx] using hc
        have hj' : j < ltrs.length := (List.getElem?_eq_some_iff.mp hc').1
        have ec : ltrs.drop j = c :: ltrs.drop (j + 1) := by
          rw [List.drop_eq_getElem_cons hj']
          congr 1
          exact Option.some.inj ((List.getElem?_eq_getElem hj').symm.trans hc')
        rw [ec] at ev
        have fl := I.len
        have hif : i < f'.length := (List.getElem?_eq_some_iff.mp hh).1
        refine ⟨_, rfl, _, rfl, ln2 _ _, fun p4 n4 => ?_⟩
        have t4 := same_upd (o := .tup [.int (here : Nat), .str (chS c)]) n4
        have e9 : sf ts here c = (stk ts here c).map (·.e) := rfl
        cases hst : stk ts here c with
        | none =>
          have hv : valV kvs0 (kSL (here, c)) = none := D.none_ (by unfold fSt; rw [hst]; rfl)
          refine ⟨_, rfl, d, _, rfl, .t (t4 _ _ hdT) (upd_same (o := .tup ((kSL (here, c)).map kV))), _, rfl, ?_⟩
          rw [hv]
          refine iteF (iteF ?_)
          rw [vis_none (by rw [e9, hst]; rfl)] at ev
          exact ⟨_, _, f', kvs', rfl, S.trans t4, t4 _ _ hdT, D.move (kp_same t4), t4 _ _ hfd, t4 _ _ hfr, I, hh, ev⟩
        | some o =>
          obtain ⟨ov, hv, hov⟩ := D.some_ (i := (here, c)) (by unfold fSt; rw [hst]; rfl)
          obtain ⟨oa, xs, rfl, hos, hoa⟩ := hov.tup_inv
          cases hoa with
          | cons h1 hoa =>
            cases hoa with
            | cons h2 hoa =>
              cases hoa
              cases h1.int_inv
              have esf : sf ts here c = some o.e := by rw [e9, hst]; rfl
              refine ⟨_, rfl, d, _, rfl, .t (t4 _ _ hdT) (upd_same (o := .tup ((kSL (here, c)).map kV))), _, rfl, ?_⟩
              rw [hv]
              refine iteT ?_
              refine ⟨_, rfl, _, rfl, _, rfl, ln2 _ _, fun p5 n5 => ?_⟩
              have t5 := t4.trans (same_upd (o := .tup [.int (here : Nat), .str (chS c)]) n5)
              refine ⟨d, _, rfl, by rw [← hv]; exact .t (t5 _ _ hdT) (upd_same (o := .tup ((kSL (here, c)).map kV))), oa, _, 0, _, rfl, rfl, kp_same t5 _ _ hos, rfl, _, rfl, fd, _, rfl, .k (k := Sum.inl (o.e : Int)) (t5 _ _ hfd), _, rfl, ?_⟩
              rw [vis_some esf] at ev
              by_cases hm : o.e ∈ f'
              · obtain ⟨z, hz, _⟩ := I.fw.in_ hm
                rw [hz]
                refine iteF ?_
                rw [if_pos hm] at ev
                exact ⟨_, _, f', kvs', rfl, S.trans t5, t5 _ _ hdT, D.move (kp_same t5), t5 _ _ hfd, t5 _ _ hfr, I, hh, ev⟩
              · rw [I.fw.out hm]
                refine iteT ?_
                rw [if_neg hm] at ev
                refine ⟨_, rfl, _, rfl, _, rfl, ln2 _ _, fun p6 n6 => ?_⟩
                have t6 := t5.trans (same_upd (o := .tup [.int (here : Nat), .str (chS c)]) n6)
                refine ⟨d, _, rfl, by rw [← hv]; exact .t (t6 _ _ hdT) (upd_same (o := .tup ((kSL (here, c)).map kV))), oa, _, 0, _, rfl, rfl, kp_same t6 _ _ hos, rfl, ?_⟩
                obtain ⟨z, hz, hzl⟩ := I.fw.in_ (List.mem_of_getElem? hh)
                refine ⟨_, rfl, _, rfl, fd, .str z, rfl, by rw [← hz]; exact .k (k := Sum.inl (here : Int)) (t6 _ _ hfd), _, rfl, z, chS c, rfl, rfl, ?_, _, rfl, _, rfl, fd, _, rfl, .k (k := Sum.inl (o.e : Int)) (t6 _ _ hfd) ?_, ?_⟩
                · have e1 : (chS c).length = 1 := rfl
                  rw [e1]
                  exact Nat.le_trans (m := 9001) (by omega) (by decide)
                · rw [I.fw.len]
                  exact Nat.lt_of_le_of_lt fl (by decide)
                · have npfd : p3 ≠ fd := ne_of hfr hfd (fun z => nomatch z)
                  have ndfd' : d ≠ fd := ne_of hdT hfd (fun z => nomatch z)
                  have ndp : d ≠ p3 := ne_of hdT hfr (fun z => nomatch z)
                  have hle : sf ts here c = some o.e := esf
                  have olt : o.e < 9000 := by
                    obtain ⟨m1, _, _⟩ := stk_some hst
                    obtain ⟨t, ht, z⟩ := mem_hf.mp m1
                    have := wb.lt t ht
                    rcases z with rfl | rfl
                    · exact this.2
                    · exact this.1
                  have hfr7 : (upd _ fd (.dK (putK kvs' (Sum.inl (o.e : Int)) (.str (z ++ chS c))))) p3 = some (.lst (nts (f'.drop (i + 1)))) := (upd_ne npfd).trans (t6 _ _ hfr)
                  have lz : (z ++ chS c).length ≤ f'.length + 1 := by
                    have e1 : (z ++ chS c).length = z.length + 1 := Str.length_append z (chS c)
                    omega
                  refine ⟨_, rfl, .inl ⟨rfl, _, .inl (.inl hfr7)⟩, _, rfl, p3, _, _, rfl, rfl, hfr7, ?_, _, _, f' ++ [o.e], _, rfl, ((S.trans t6).set nfd0).set n3H, ?_, ?_, ?_, ?_, ⟨I.fw.put hm lz, ?_, ?_⟩, ?_, ev⟩
                  · rw [List.length_map, List.length_drop]
                    exact Nat.lt_of_le_of_lt (m := 9000) (by omega) (by decide)
                  · rw [upd_ne ndp, upd_ne ndfd']
                    exact t6 _ _ hdT
                  · exact ((D.move (kp_same t6)).move (kp_dK (t6 _ _ hfd))).move (kp_lst hfr7)
                  · rw [upd_ne npfd.symm, upd_same]
                  · rw [upd_same, List.drop_append_of_le_length (by omega)]
                    show some (HO.lst ((f'.drop (i + 1)).map _ ++ [_])) = some (HO.lst ((f'.drop (i + 1) ++ [o.e]).map _))
                    rw [List.map_append]
                    rfl
                  · exact List.nodup_append.mpr ⟨I.nd, by simp, fun a ha b hb e => hm (by rw [← List.mem_singleton.mp hb, ← e]; exact ha)⟩
                  · intro p hp
                    rcases List.mem_append.mp hp with hp | hp
                    · exact I.lt p hp
                    · rw [List.mem_singleton.mp hp]; exact olt
                  · rw [List.getElem?_append_left hif]
                    exact hh
      · rintro σ H6 ⟨y7, y8, f', kvs', rfl, S, hdT, D, hfd, hfr, I, hh, ev⟩
        have e0 : ltrs.drop (tx ltrs).cps.size = [] := by decide +kernel
        rw [e0] at ev
        have ev' : f' = vis (sf ts) here ltrs f := ev
        have hif : i < f'.length := (List.getElem?_eq_some_iff.mp hh).1
        have fl' := I.len
        exact ⟨9000 - (i + 1), by omega, i + 1, f', kvs', p3, _, _, _, rfl, rfl, S, n3H, hdT, D, hfd, hfr, I, hif, fun res b => hB res (.step hhere (by rw [← ev']; exact b))⟩
    · have he : f.drop i = [] := by
        have := Classical.byContradiction fun hn => h (decide_eq_true hn)
        exact List.map_eq_nil_iff.mp this
      have hil : i = f.length := by
        have := congrArg List.length he
        rw [List.length_drop] at this
        have e0 : ([] : List Nat).length = 0 := rfl
        omega
      exact ⟨_, rfl, q _ fd kvs f (S.trans t2) nfd0 (t2 _ _ hfd) I.fw (hB f (.done hil)) I.nd fl⟩
end
end G1
set_option Elab.async false
set_option linter.all false
set_option maxRecDepth 100000
set_option maxHeartbeats 4000000
/-! numbered -/
namespace G1
open PySem PySem.Spec PyProof.Rows L2
open PySem.W (Datum DatumOrd T3 T4 Tup)
section
variable {P : Program} {w : World} {K : PySem.W.Frag} {mg : Str → Option Value} {base : Heap} {CF CR CL : Addr}
def dk3 (x : TK) : Tie := ⟨x.a.toNat, (x.b.cps[0]?).getD 0, x.c.toNat, []⟩
theorem dk3_k3 {t : Tie} (h : t.m = []) : dk3 (k3 t) = t := by
  obtain ⟨s, a, e, m⟩ := t
  have : m = [] := h
  subst this
  rfl
theorem zip_dt {H : Hp} : ∀ {us : List Tie} {fs : List V}, DtAll K H fs (us.map fun u => Datum.toD (k3 u)) → ∃ bs : List (V × TK), bs.map (·.1) = fs ∧ bs.map (·.2) = us.map k3 ∧ ∀ b ∈ bs, Dt K H b.1 (Datum.toD b.2)
  | [], _, h => by cases h; exact ⟨[], rfl, rfl, fun b hb => (nomatch hb)⟩
  | u :: us, _, h => by
    cases h with
    | cons h1 h2 =>
      obtain ⟨bs, e1, e2, e3⟩ := zip_dt h2
      refine ⟨(_, k3 u) :: bs, by rw [List.map_cons, e1], by rw [List.map_cons, e2, List.map_cons], fun b hb => ?_⟩
      rcases List.mem_cons.mp hb with e | hb
      · rw [e]; exact h1
      · exact e3 b hb
theorem dt_zip {H : Hp} : ∀ {bs : List (V × TK)}, (∀ b ∈ bs, Dt K H b.1 (Datum.toD b.2)) → DtAll K H (bs.map (·.1)) (bs.map fun b => Datum.toD b.2)
  | [], _ => .nil
  | b :: bs, h => .cons (h b List.mem_cons_self) (dt_zip fun x hx => h x (List.mem_cons_of_mem _ hx))
def spNu (K : PySem.W.Frag) : Sp := fun vs H Q _ => ∃ (l : Addr) (fs : List V) (ts : List Tie), vs = [.ref l, .int 0, .int 4] ∧ SqL K H l fs ∧ DtAll K H fs (ts.map tD) ∧ WB ts ∧ Det ts ∧
  ∀ H' r F, Same H H' → Dt K H' r (.tuple (fmD F)) → Form ts F → (∀ t ∈ F, t.m = []) → F.length ≤ 10000 → Q r H'
theorem scNu : FnScope ["ties", "start", "many", "places", "tie"] ["ties", "start", "many"] (defScope (top 24)) := ⟨rfl, rfl, rfl, by decide +kernel, rfl, by decide +kernel, by decide +kernel⟩
theorem idx_first {M : List Nat} (nd : M.Nodup) {p : Nat} (hp : p ∈ M) {m : Nat} (hm : m < M.idxOf p) {q : Nat} (e : M[m]? = some q) : q ≠ p := fun z => by
  rw [z] at e
  have e2 := idx_at hp
  have l1 := (List.getElem?_eq_some_iff.mp e).1
  have := (List.getElem?_inj l1 nd).mp (e.trans e2.symm)
  omega
theorem c_numbered (T : Tx K mg CF CR CL) : Cal P w K mg base 5 "numbered" (spNu K) := by
  refine cal T.numbered scNu (fun vs H Q E h => ?_) (fun _ _ _ _ _ _ us hl => match us, hl with | [_, _, _], _ => rfl) fun f cdv A outer s H vs Q E hr h => ?_
  · obtain ⟨_, _, _, rfl, _⟩ := h; rfl
  · obtain ⟨l, fs, ts, rfl, hl, hd, wb, dt, q⟩ := h
    refine ⟨_, pss_cons (ps_set (i := 3) scNu.nd rfl (.inr rfl) (pe_callTy (call_list_dK rfl) (by rfl) (T.nb "list") (by decide +kernel) (pa_cons (pe_c (c_met_words T) hr (by decide) rfl (pa_cons (pv 0) (pa_cons (pv 1) (pa_cons (pv 2) pa_nil)))) pa_nil)))
      (pss_one (ps_ret (pe_tupleOf rfl (T.nb "tuple") (pe_callB (cr_sortedK hr.units) (by rfl) (T.nb "sorted") (by decide +kernel) (pa_cons
        (pe_lc (own := [("tie", 4)]) (g := gName 4) (tt := tTest (tOp (rInT Int K) (tOp (rIxT K) (tVar 4) (tC (.int 0))) (tVar 3)))
          (te := tTup (tCons (tBM K "list" (rIndex K) (tVar 3) (tCons (tOp (rIxT K) (tVar 4) (tC (.int 0))) tNil)) (tCons (tOp (rIxT K) (tVar 4) (tC (.int 1))) (tCons (tBM K "list" (rIndex K) (tVar 3) (tCons (tOp (rIxT K) (tVar 4) (tC (.int 2))) tNil)) tNil))))
          rfl scNu.nd (pi_list (pv 0)) (blkOk_by (N := ["ties", "start", "many", "places", "tie"]) (sc := defScope (top 24)) (by decide +kernel))
          (fun _ _ _ _ _ => pg_name (i := 4) scNu.nd rfl (.inl rfl)) (fun _ _ _ _ _ => pts_one (pt_cmpR (op_inT Int hr.units) (pe_ix ix_tup (pv 4) pe_int (fun _ _ => rfl)) (pv 3) (by rfl)))
          (fun _ _ _ _ _ => pe_tup (pa_cons (pe_bm PySem.F.plainAttrs_list PySem.F.slot_list_index PySem.F.type_list_index mt_index (pv 3) (pa_cons (pe_ix ix_tup (pv 4) pe_int (fun _ _ => rfl)) pa_nil)) (pa_cons (pe_ix ix_tup (pv 4) pe_int (fun _ _ => rfl)) (pa_cons (pe_bm PySem.F.plainAttrs_list PySem.F.slot_list_index PySem.F.type_list_index mt_index (pv 3) (pa_cons (pe_ix ix_tup (pv 4) pe_int (fun _ _ => rfl)) pa_nil)) pa_nil))))) pa_nil))))), ?_⟩
    refine ⟨_, rfl, _, rfl, _, rfl, l, fs, ts, rfl, hl, hd, wb, fun H1 d kvs M s1 nd hdK F b ndM lM => ?_⟩
    refine ⟨d, kvs, rfl, hdK, fun pl npl => ?_⟩
    have ek : (kvs.map fun kv => kV kv.1) = nts M := by
      have z := congrArg (List.map kV) F.keys
      rw [List.map_map, List.map_map] at z
      exact z
    rw [ek]
    have s2 : Same H1 (upd H1 pl (.lst (nts M))) := same_upd npl
    have S2 := s1.trans s2
    have lf := hd.len
    rw [List.length_map] at lf
    have flM : (nts M).all flatV = true := by
      rw [List.all_eq_true]
      intro x hx
      obtain ⟨p, _, rfl⟩ := List.mem_map.mp hx
      rfl
    have at_ : ∀ p ∈ M, (nts M)[M.idxOf p]? = some (.int (p : Int)) := fun p hp => by
      rw [List.getElem?_map, idx_at hp]
      rfl
    have fst_ : ∀ p ∈ M, ∀ (m : Nat) (z' : V), m < M.idxOf p → (nts M)[m]? = some z' → eqV z' (.int (p : Int)) = false := fun p hp m z' hm e => by
      rw [List.getElem?_map] at e
      obtain ⟨r, h1, rfl⟩ := Option.map_eq_some_iff.mp e
      have := idx_first ndM hp hm h1
      show decide _ = false
      simp
      omega
    refine ⟨_, rfl, l, rfl, ⟨fs, S2.seq hl⟩, fun D nD => lc_it (walk_list (xs := fs)) (fun i H' => ∃ es, LD K (upd H1 pl (.lst (nts M))) H' D es ((((ts.take i).filter fun t => decide (t.s ∈ M)).map (num M)).map fun u => Datum.toD (k3 u)))
      ⟨[], .nil nD⟩ (fun i H' _ ⟨es, L⟩ => L.same.seq (S2.seq hl)) ?_ ?_⟩
    · rintro i x H0 H3 hi ⟨es, L⟩ ⟨rfl, hx⟩
      obtain ⟨t, ht, hdt⟩ := dtAll_map (hd.move (kp_same (S2.trans L.same))) hx
      obtain ⟨ta, tm, rfl, hts, htm⟩ := tie_inv hdt
      have hpl : H3 pl = some (.lst (nts M)) := L.same _ _ upd_same
      have tin := List.mem_of_getElem? ht
      have les : es.length < sizeLine := by
        have z := L.len
        rw [List.length_map, List.length_map] at z
        have z2 := List.length_filter_le (fun t : Tie => decide (t.s ∈ M)) (ts.take i)
        rw [List.length_take] at z2
        have := wb.len
        exact Nat.lt_of_le_of_lt (m := 10000) (by omega) (by decide)
      have etk : ((ts.take (i + 1)).filter fun t => decide (t.s ∈ M)) = ((ts.take i).filter fun t => decide (t.s ∈ M)) ++ if t.s ∈ M then [t] else [] := by
        rw [List.take_add_one, ht, List.filter_append]
        congr 1
        by_cases hm : t.s ∈ M
        · simp [hm]
        · simp [hm]
      refine ⟨rfl, _, rfl, ta, _, 0, _, rfl, rfl, hts, rfl, _, rfl, (t.s : Int), pl, nts M, M.map (fun p : Nat => (p : Int)), .int _, rfl, .inl (.inl hpl), dp_nts M, _, rfl, ?_⟩
      have hiff : (t.s : Int) ∈ M.map (fun p : Nat => (p : Int)) ↔ t.s ∈ M := by
        rw [List.mem_map]
        exact ⟨fun ⟨r, h1, h2⟩ => by rw [show t.s = r by omega]; exact h1, fun h => ⟨_, h, rfl⟩⟩
      refine ite2 (fun h => ?_) (fun h => ?_)
      · have hm := hiff.mp (of_decide_eq_true h)
        have he : t.e ∈ M := bfs_closed dt wb.l4 b hm ⟨t, mem_hf.mpr ⟨t, tin, .inl rfl⟩, rfl, rfl, rfl⟩
        rw [if_pos hm] at etk
        refine ⟨_, rfl, .inl ⟨rfl, _, .inl (.inl hpl)⟩, _, rfl, ta, _, 0, _, rfl, rfl, hts, rfl, ?_⟩
        refine ⟨pl, nts M, _, M.idxOf t.s, _, rfl, rfl, .inl (.inl hpl), rfl, flM, at_ _ hm, ?_, fst_ _ hm, ?_⟩
        · show decide _ = true
          simp
        refine ⟨_, rfl, ta, _, 1, _, rfl, rfl, hts, rfl, ?_⟩
        refine ⟨_, rfl, .inl ⟨rfl, _, .inl (.inl hpl)⟩, _, rfl, ta, _, 2, _, rfl, rfl, hts, rfl, ?_⟩
        refine ⟨pl, nts M, _, M.idxOf t.e, _, rfl, rfl, .inl (.inl hpl), rfl, flM, at_ _ he, ?_, fst_ _ he, ?_⟩
        · show decide _ = true
          simp
        refine ⟨ln3 _ _ _, fun p5 n5 => ?_⟩
        have L2 := L.new (o := .tup [.int (M.idxOf t.s : Nat), .str (chS t.a), .int (M.idxOf t.e : Nat)]) n5
        refine ⟨es, L2.at_, les, es ++ [.ref p5], ?_⟩
        rw [etk, List.map_append, List.map_append]
        exact L2.push nD (k3_dt (t := num M t) (.inl (.inl upd_same)))
      · have hm : ¬ t.s ∈ M := fun hm => h (decide_eq_true (hiff.mpr hm))
        rw [if_neg hm, List.append_nil] at etk
        refine ⟨es, ?_⟩
        rw [etk]
        exact L
    · rintro H3 ⟨es, L⟩
      rw [List.take_of_length_le (by omega)] at L
      obtain ⟨bs, e1, e2, e3⟩ := zip_dt L.dt
      have lbs : bs.length ≤ 10000 := by
        have z := congrArg List.length e2
        rw [List.length_map, List.length_map, List.length_map] at z
        have z2 := List.length_filter_le (fun t : Tie => decide (t.s ∈ M)) ts
        have := wb.len
        omega
      refine ⟨D, bs, rfl, by rw [e1]; exact L.sq, fun x hx => (e3 x hx).dp, Nat.le_trans lbs (by decide), fun bs' l9 hp hs n9 => ?_⟩
      refine .inl ⟨l9, _, rfl, .inl (.inl upd_same), fun t9 nt9 => ?_⟩
      have hnm : ∀ x ∈ bs', ∃ u, u ∈ ((ts.filter fun t => decide (t.s ∈ M)).map (num M)) ∧ x.2 = k3 u := fun x hx => by
        have h1 : x.2 ∈ bs.map (·.2) := List.mem_map.mpr ⟨x, hp.mem_iff.mp hx, rfl⟩
        rw [e2] at h1
        obtain ⟨u, h2, h3⟩ := List.mem_map.mp h1
        exact ⟨u, h2, h3.symm⟩
      have m0 : ∀ u ∈ ((ts.filter fun t => decide (t.s ∈ M)).map (num M)), u.m = [] := fun u hu => by
        obtain ⟨t, _, rfl⟩ := List.mem_map.mp hu
        rfl
      have ebk : ∀ x ∈ bs', k3 (dk3 x.2) = x.2 := fun x hx => by
        obtain ⟨u, h1, h2⟩ := hnm x hx
        rw [h2, dk3_k3 (m0 u h1)]
      have hF : ((bs'.map (·.2)).map dk3).Perm ((ts.filter fun t => decide (t.s ∈ M)).map (num M)) := by
        have z := (hp.map (·.2)).map dk3
        rw [e2] at z
        have e9 : (((ts.filter fun t => decide (t.s ∈ M)).map (num M)).map k3).map dk3 = (ts.filter fun t => decide (t.s ∈ M)).map (num M) := by
          rw [List.map_map]
          have z9 : ∀ us : List Tie, (∀ u ∈ us, u.m = []) → us.map (dk3 ∘ k3) = us := by
            intro us
            induction us with
            | nil => intro _; rfl
            | cons u r ih =>
              intro h
              rw [List.map_cons, ih fun x hx => h x (List.mem_cons_of_mem _ hx)]
              exact congrArg (· :: r) (dk3_k3 (h u List.mem_cons_self))
          exact z9 _ m0
        rw [e9] at z
        exact z
      have eD : (fmD ((bs'.map (·.2)).map dk3)) = bs'.map fun x => Datum.toD x.2 := by
        unfold fmD
        rw [List.map_map, List.map_map]
        exact List.map_congr_left fun x hx => congrArg Datum.toD (ebk x hx)
      have S9 := ((S2.trans L.same).trans (same_upd (o := .lst (bs'.map (·.1))) n9)).trans (same_upd (o := .tup (bs'.map (·.1))) nt9)
      refine q _ (.ref t9) ((bs'.map (·.2)).map dk3) S9 ?_ ⟨⟨M, b, hF⟩, ?_⟩ (fun u hu => m0 u (hF.mem_iff.mp hu)) ?_
      · rw [eD]
        exact .tup (.inl (.inl upd_same)) (((dt_zip fun x hx => e3 x (hp.mem_iff.mp hx)).move (kp_new n9)).move (kp_new nt9))
      · rw [List.pairwise_map, List.pairwise_map]
        refine List.Pairwise.imp_of_mem (fun {x y} hx hy hk => ?_) hs
        refine kle_tle ?_
        rw [ebk x hx, ebk y hy]
        exact hk
      · rw [List.length_map, List.length_map, hp.length_eq]
        exact lbs
end
end G1
set_option Elab.async false
set_option linter.all false
set_option maxRecDepth 100000
set_option maxHeartbeats 4000000
/-! rows -/
namespace G1
open PySem PySem.Spec PyProof.Rows L2
open PySem.W (Datum DatumOrd T3 T4 Tup)
section
variable {P : Program} {w : World} {K : PySem.W.Frag} {mg : Str → Option Value} {base : Heap} {CF CR CL : Addr}
def spIi : Sp := fun vs H Q _ => ∃ i : Int, vs = [.int i] ∧ Q (.bl true) H
theorem scIi : FnScope ["value"] ["value"] (defScope (top 32)) := ⟨rfl, rfl, rfl, by decide +kernel, rfl, by decide +kernel, by decide +kernel⟩
theorem c_is_integer (T : Tx K mg CF CR CL) : Cal P w K mg base 1 "is_integer" spIi := by
  refine cal T.is_integer scIi (fun vs H Q E h => ?_) (fun _ _ _ _ _ _ us hl => match us, hl with | [_], _ => rfl) fun f cdv A outer s H vs Q E hr h => ?_
  · obtain ⟨_, rfl, _⟩ := h; rfl
  · obtain ⟨i, rfl, q⟩ := h
    refine ⟨_, pss_one (ps_ret (pe_and (pe_callB call_isi (by rfl) (T.nb "isinstance") (by decide +kernel) (pa_cons (pv 0) (pa_cons (pe_bltn (v := .ty "int") (by rfl) (T.nb "int") boot_int rfl) pa_nil)))
      (pe_one (pe_not (pe_callB call_isi (by rfl) (T.nb "isinstance") (by decide +kernel) (pa_cons (pv 0) (pa_cons (pe_bltn (v := .ty "bool") (by rfl) (T.nb "bool") boot_bool rfl) pa_nil))))))), ?_⟩
    refine ⟨_, rfl, _, _, _, _, true, rfl, .ty _, .base (.int i), kit_ty (by decide +kernel), true, rfl, iteT ?_⟩
    refine ⟨_, rfl, _, _, _, _, false, rfl, .ty _, .base (.int i), kit_ty (by decide +kernel), false, rfl, q⟩
def spIw : Sp := fun vs H Q _ => ∃ i a b : Int, vs = [.int i, .int a, .int b] ∧ a ≤ i ∧ i ≤ b ∧ Q (.bl true) H
theorem scIw : FnScope ["value", "least", "greatest"] ["value", "least", "greatest"] (defScope (top 33)) := ⟨rfl, rfl, rfl, by decide +kernel, rfl, by decide +kernel, by decide +kernel⟩
theorem c_is_within (T : Tx K mg CF CR CL) : Cal P w K mg base 2 "is_within" spIw := by
  refine cal T.is_within scIw (fun vs H Q E h => ?_) (fun _ _ _ _ _ _ us hl => match us, hl with | [_, _, _], _ => rfl) fun f cdv A outer s H vs Q E hr h => ?_
  · obtain ⟨_, _, _, rfl, _⟩ := h; rfl
  · obtain ⟨i, a, b, rfl, h1, h2, q⟩ := h
    refine ⟨_, pss_one (ps_ret (pe_and (pe_c (c_is_integer T) hr (by decide) rfl (pa_cons (pv 0) pa_nil)) (pe_one (pe_chain op_le op_le (pv 1) (pv 0) (pv 2))))), ?_⟩
    refine ⟨_, rfl, i, rfl, true, rfl, iteT ?_⟩
    refine ⟨_, rfl, _, rfl, _, _, rfl, rfl, _, rfl, ?_⟩
    refine ite2 (fun _ => ?_) (fun h => absurd (decide_eq_true h1) h)
    refine ⟨_, rfl, _, _, rfl, rfl, ?_⟩
    show Q (.bl (decide (i ≤ b))) H
    rw [decide_eq_true h2]
    exact q
/-! ### is_word -/
def Ltm (m : Nat) : List Nat := l4s.take m ++ (l4s.take m).map (· - 32)
def spIwd : Sp := fun vs H Q _ => ∃ (m : Nat) (wd : List Nat), vs = [.int m, .str (tx wd)] ∧ 1 ≤ m ∧ m ≤ 4 ∧ (∀ c ∈ wd, c ∈ Ltm m) ∧ wd.length ≤ 400 ∧ ∀ H', Same H H' → Q (.bl true) H'
theorem scIwd : FnScope ["letters", "value", "letter"] ["letters", "value"] (defScope (top 35)) := ⟨rfl, rfl, rfl, by decide +kernel, rfl, by decide +kernel, by decide +kernel⟩
theorem cutm {m : Nat} (h1 : 1 ≤ m) (h2 : m ≤ 4) : cutS ("abcd" : Str) none (some (m : Int)) = tx (l4s.take m) ∧ Txt.upper (tx (l4s.take m)) = tx ((l4s.take m).map (· - 32)) := by
  have : m = 1 ∨ m = 2 ∨ m = 3 ∨ m = 4 := by omega
  rcases this with rfl | rfl | rfl | rfl <;> decide +kernel
theorem c_is_word (T : Tx K mg CF CR CL) : Cal P w K mg base 1 "is_word" spIwd := by
  obtain ⟨tle, gle⟩ := T.gLE
  obtain ⟨tmr, gmr⟩ := T.gMR
  refine cal T.is_word scIwd (fun vs H Q E h => ?_) (fun _ _ _ _ _ _ us hl => match us, hl with | [_, _], _ => rfl) fun f cdv A outer s H vs Q E hr h => ?_
  · obtain ⟨_, _, rfl, _⟩ := h; rfl
  · obtain ⟨m, wd, rfl, h1, h2, hw, hl, q⟩ := h
    refine ⟨_, pss_cons (ps_if (PW.pt (pw_or (pt_not (pt_val (pe_callB call_isi (by rfl) (T.nb "isinstance") (by decide +kernel) (pa_cons (pv 1) (pa_cons (pe_bltn (v := .ty "str") (by rfl) (T.nb "str") boot_str rfl) pa_nil)))))
        (pw_or1 (pt_cmpR op_gt (pe_callB call_len_str (by rfl) (T.nb "len") boot_len (pa_cons (pv 1) pa_nil)) (pe_glob (v := .int 400) (by rfl) gmr ⟨_, rfl⟩) (nomark _))))) (pss_one (ps_ret pe_bl)) pss_nil)
      (pss_one (ps_ret (pe_callB (cr_all rfl) (by rfl) (T.nb "all") (by decide +kernel) (pa_cons (pe_lc (own := [("letter", 2)]) (g := gName 2) (tt := tYes) rfl scIwd.nd (pi_str (pv 1)) (blkOk_by (N := ["letters", "value", "letter"]) (sc := defScope (top 35)) (by decide +kernel))
        (fun _ _ _ _ _ => pg_name (i := 2) scIwd.nd rfl (.inl rfl)) (fun _ _ _ _ _ => pts_nil)
        (fun _ _ _ _ _ => pe_cmpR op_in_sign (pv 2) (pe_op op_add_str (pe_slice sl_str (pe_glob (v := .str "abcd") (by rfl) gle ⟨_, rfl⟩) po_none (po_some (pv 0))) (pe_upper (pe_slice sl_str (pe_glob (v := .str "abcd") (by rfl) gle ⟨_, rfl⟩) po_none (po_some (pv 0))))) (by rfl))) pa_nil)))), ?_⟩
    obtain ⟨e1, e2⟩ := cutm h1 h2
    refine ⟨_, rfl, _, _, _, _, true, rfl, .ty _, .base (.str _), kit_ty (by decide +kernel), true, rfl, iteF ?_⟩
    refine ⟨_, rfl, _, rfl, by rw [tx_len]; exact Nat.le_trans hl (by decide), _, _, rfl, rfl, _, rfl, ?_⟩
    refine ite2 (fun h => absurd (of_decide_eq_true h) (by rw [tx_len]; omega)) (fun _ => ?_)
    refine ⟨_, rfl, _, rfl, fun D nD => lc_it (walk_str (z := tx wd)) (fun i H' => Same H H' ∧ H' D = some (.lst ((List.replicate i true).map V.bl)) ∧ i ≤ wd.length) ⟨same_upd nD, upd_same, Nat.zero_le _⟩ (fun _ _ _ _ => trivial) ?_ ?_⟩
    · rintro i x H0 H1 hi ⟨sm, hD, hle⟩ ⟨rfl, c, hc, rfl⟩
      have hc' : wd[i]? = some c := by simpa [tx] using hc
      have hi' := (List.getElem?_eq_some_iff.mp hc').1
      refine ⟨rfl, yesT ?_⟩
      refine ⟨_, rfl, _, rfl, (m : Int), rfl, _, rfl, by decide +kernel, _, rfl, (m : Int), rfl, _, rfl, by decide +kernel, ⟨_, rfl⟩, _, rfl, rfl, ?_, _, _, rfl, rfl, ?_, c, _, rfl, rfl, _, hD, ?_, sm.set nD, ?_, hi'⟩
      · rw [e1, tx_len]
        exact Nat.le_trans (List.length_take_le _ _) (Nat.le_trans h2 (by decide))
      · rw [e1, e2, tx_len, tx_len, List.length_map, List.length_take]
        exact Nat.le_trans (m := 8) (by have : l4s.length = 4 := rfl; omega) (by decide)
      · rw [List.length_map, List.length_replicate]
        exact Nat.lt_of_le_of_lt (m := 400) (by omega) (by decide)
      · rw [upd_same]
        have ed : decide (c ∈ (cutS ("abcd" : Str) none (some (m : Int)) ++ Txt.upper (cutS ("abcd" : Str) none (some (m : Int)))).cps.toList) = true := by
          rw [e1, e2, tx_app]
          refine decide_eq_true ?_
          show c ∈ (l4s.take m ++ (l4s.take m).map (· - 32)).toArray.toList
          rw [List.toList_toArray]
          exact hw c (List.mem_of_getElem? hc')
        rw [ed, List.replicate_succ', List.map_append]
        rfl
    · rintro H1 ⟨sm, hD, hle⟩
      refine ⟨D, _, rfl, .inl (.inl hD), ?_⟩
      have : ∀ n : Nat, (List.replicate n true).all id = true := fun n => by
        rw [List.all_eq_true]
        intro x hx
        rw [List.eq_of_mem_replicate hx]
        rfl
      rw [this]
      exact q _ sm
/-! ### Row -/
abbrev rowO (CR dx : Addr) (m : Nat) (wd : List Nat) : HO := .ins CR dx [("many", .int m), ("held", .str (tx wd))]
/-- words over the first m letters -/
structure WM (m : Nat) (wd : List Nat) : Prop where
  m1 : 1 ≤ m
  m4 : m ≤ 4
  let_ : ∀ c ∈ wd, c ∈ Ltm m
  len : wd.length ≤ 400
theorem WM.w4 {m : Nat} {wd : List Nat} (h : WM m wd) : W4 wd := fun c hc => by
  have z := h.let_ c hc
  have key : ∀ m, m ≤ 4 → ∀ c ∈ Ltm m, c ∈ ltrs := by decide +kernel
  exact key m h.m4 c z
def spRI (CR : Addr) : Sp := fun vs H Q _ => ∃ (a dx : Addr) (m : Nat) (wd : List Nat), vs = [.ref a, .int m, .str (tx wd)] ∧ H a = some (.ins CR dx []) ∧ WM m wd ∧ ∀ H', (∀ b o, b ≠ a → H b = some o → H' b = some o) → H' a = some (rowO CR dx m (strk wd)) → Q .non H'
theorem scRI : FnScope ["self", "letters", "word"] ["self", "letters", "word"] (defScope (inClass (top 37) 0)) := ⟨rfl, rfl, rfl, by decide +kernel, rfl, by decide +kernel, by decide +kernel⟩
theorem c_row (T : Tx K mg CF CR CL) : Mak P w K mg base 3 "Row" CR (spRI CR) := by
  obtain ⟨tml, gml⟩ := T.gML
  refine makc T.rInit T.gR scRI (fun vs H Q E h => ?_) (fun _ _ _ _ _ _ us hl => match us, hl with | [_, _, _], _ => rfl) fun f cdv A outer s H vs Q E hr h => ?_
  · obtain ⟨_, _, _, _, rfl, _⟩ := h; rfl
  · obtain ⟨a, dx, m, wd, rfl, ha, wm, q⟩ := h
    refine ⟨_, pss_cons (ps_if (pt_not (pt_val (pe_c (c_is_within T) hr (by decide) rfl (pa_cons (pv 1) (pa_cons pe_int (pa_cons (pe_glob (v := .int 4) (by rfl) gml ⟨_, rfl⟩) pa_nil)))))) (pss_one ps_never) pss_nil)
      (pss_cons (ps_if (pt_not (pt_val (pe_c (c_is_word T) hr (by decide) rfl (pa_cons (pv 1) (pa_cons (pv 2) pa_nil))))) (pss_one ps_never) pss_nil)
      (pss_cons (ps_fld (pv 0) (pv 1) rfl)
      (pss_one (ps_fld (pv 0) (pe_c (c_struck T) hr (by decide) rfl (pa_cons (pv 2) pa_nil)) rfl)))), ?_⟩
    have m1 := wm.m1
    have m4 := wm.m4
    refine ⟨_, rfl, m, 1, 4, rfl, by omega, by omega, true, rfl, iteF ?_⟩
    refine ⟨_, rfl, _, rfl, m, wd, rfl, m1, m4, wm.let_, wm.len, fun H1 s1 => ⟨true, rfl, iteF ?_⟩⟩
    refine ⟨_, rfl, _, rfl, a, CR, dx, _, rfl, s1 _ _ ha, T.cR, T.nRm, (by show 0 < 1000; decide), ?_⟩
    refine ⟨_, rfl, wd, rfl, wm.w4.lw, Nat.le_trans wm.len (by decide), fun H2 s2 => ?_⟩
    refine ⟨_, rfl, a, CR, dx, _, rfl, s2 _ _ upd_same, T.cR, T.nRh, (by show 1 < 1000; decide), ?_⟩
    refine q _ (fun b o hb e => ?_) upd_same
    rw [upd_ne hb]
    exact s2 _ _ (by rw [upd_ne hb]; exact s1 _ _ e)
/-- a row in the heap -/
def RowAt (CR : Addr) (H : Hp) (m : Nat) (wd : List Nat) (v : V) : Prop := ∃ a dx, v = .ref a ∧ H a = some (rowO CR dx m wd)
theorem RowAt.go {H H' : Hp} {m : Nat} {wd : List Nat} {v : V} (h : RowAt CR H m wd v) (s : Same H H') : RowAt CR H' m wd v := by
  obtain ⟨a, dx, e, h⟩ := h
  exact ⟨a, dx, e, s _ _ h⟩
def spGl (CR : Addr) : Sp := fun vs H Q _ => ∃ (v : V) (m : Nat) (wd : List Nat), vs = [v] ∧ RowAt CR H m wd v ∧ Q (.int m) H
def spGw (CR : Addr) : Sp := fun vs H Q _ => ∃ (v : V) (m : Nat) (wd : List Nat), vs = [v] ∧ RowAt CR H m wd v ∧ Q (.str (tx wd)) H
theorem scGl : FnScope ["self"] ["self"] (defScope (inClass (top 37) 2)) := ⟨rfl, rfl, rfl, by decide +kernel, rfl, by decide +kernel, by decide +kernel⟩
theorem scGw : FnScope ["self"] ["self"] (defScope (inClass (top 37) 3)) := ⟨rfl, rfl, rfl, by decide +kernel, rfl, by decide +kernel, by decide +kernel⟩
theorem c_letters (T : Tx K mg CF CR CL) : Prp P w K mg base 1 CR "letters" (spGl CR) := by
  refine prpc T.cR T.rLetters scGl (fun vs H Q E h => ?_) (fun _ _ _ _ _ _ us hl => match us, hl with | [_], _ => rfl) fun f cdv A outer s H vs Q E hr h => ?_
  · obtain ⟨_, _, _, rfl, _⟩ := h; rfl
  · obtain ⟨v, m, wd, rfl, ⟨a, dx, rfl, ha⟩, q⟩ := h
    exact ⟨_, pss_one (ps_ret (pe_fld (pv 0) rfl)), _, rfl, a, CR, dx, _, _, rfl, ha, T.cR, T.nRm, rfl, q⟩
theorem c_word (T : Tx K mg CF CR CL) : Prp P w K mg base 1 CR "word" (spGw CR) := by
  refine prpc T.cR T.rWord scGw (fun vs H Q E h => ?_) (fun _ _ _ _ _ _ us hl => match us, hl with | [_], _ => rfl) fun f cdv A outer s H vs Q E hr h => ?_
  · obtain ⟨_, _, _, rfl, _⟩ := h; rfl
  · obtain ⟨v, m, wd, rfl, ⟨a, dx, rfl, ha⟩, q⟩ := h
    exact ⟨_, pss_one (ps_ret (pe_fld (pv 0) rfl)), _, rfl, a, CR, dx, _, _, rfl, ha, T.cR, T.nRh, rfl, q⟩
def spLn (CR : Addr) : Sp := fun vs H Q _ => ∃ (v : V) (m : Nat) (wd : List Nat), vs = [v] ∧ RowAt CR H m wd v ∧ wd.length ≤ 400 ∧ Q (.int wd.length) H
theorem scLn : FnScope ["self"] ["self"] (defScope (inClass (top 37) 4)) := ⟨rfl, rfl, rfl, by decide +kernel, rfl, by decide +kernel, by decide +kernel⟩
theorem c_rlen (T : Tx K mg CF CR CL) : Met P w K mg base 1 CR "__len__" (spLn CR) := by
  refine metc T.cR T.rLen scLn (fun vs H Q E h => ?_) (fun _ _ _ _ _ _ us hl => match us, hl with | [_], _ => rfl) fun f cdv A outer s H vs Q E hr h => ?_
  · obtain ⟨_, _, _, rfl, _⟩ := h; rfl
  · obtain ⟨v, m, wd, rfl, ⟨a, dx, rfl, ha⟩, hl, q⟩ := h
    refine ⟨_, pss_one (ps_ret (pe_callB call_len_str (by rfl) (T.nb "len") boot_len (pa_cons (pe_fld (pv 0) rfl) pa_nil))), _, rfl, a, CR, dx, _, _, rfl, ha, T.cR, T.nRh, rfl, tx wd, rfl, by rw [tx_len]; exact Nat.le_trans hl (by decide), ?_⟩
    rw [tx_len]
    exact q
def spRs (CR : Addr) : Sp := fun vs H Q _ => ∃ (v : V) (m : Nat) (wd : List Nat), vs = [v] ∧ RowAt CR H m wd v ∧ m ≤ 4 ∧ wd.length ≤ 400 ∧ ∀ z : Str, z.length ≤ 1000 → Q (.str z) H
theorem scRs : FnScope ["self", "word"] ["self"] (defScope (inClass (top 37) 7)) := ⟨rfl, rfl, rfl, by decide +kernel, rfl, by decide +kernel, by decide +kernel⟩
theorem c_rstr (T : Tx K mg CF CR CL) : Met P w K mg base 1 CR "__str__" (spRs CR) := by
  refine metc T.cR T.rStr scRs (fun vs H Q E h => ?_) (fun _ _ _ _ _ _ us hl => match us, hl with | [_], _ => rfl) fun f cdv A outer s H vs Q E hr h => ?_
  · obtain ⟨_, _, _, rfl, _⟩ := h; rfl
  · obtain ⟨v, m, wd, rfl, ⟨a, dx, rfl, ha⟩, hm, hl, q⟩ := h
    refine ⟨_, pss_cons (ps_set (i := 1) scRs.nd rfl (.inl rfl) (pe_ifExp (pt_cmpR op_eq (pe_fld (pv 0) rfl) pe_str (nomark _)) pe_str (pe_fld (pv 0) rfl)))
      (pss_one (ps_ret (pe_joined (.cons pe_str (.cons (pe_fmt (pe_fld (pv 0) rfl)) (.cons pe_str (.cons (pe_fmt (pv 1)) .nil))))))), ?_⟩
    have lm : (toString (m : Int) : Str).length ≤ 5 := by
      have key : ∀ m, m ≤ 4 → (toString ((m : Nat) : Int) : Str).length ≤ 5 := by decide +kernel
      exact key m hm
    refine ⟨_, rfl, a, CR, dx, _, _, rfl, ha, T.cR, T.nRh, rfl, rfl, _, rfl, ?_⟩
    have e1 : ∀ a b : Str, (a ++ b).length = a.length + b.length := fun a b => Str.length_append a b
    have l0 : Str.empty.length = 0 := rfl
    have l1 : ("rows " : Str).length = 5 := by decide
    have l2 : (" " : Str).length = 1 := by decide
    have l3 : ("-" : Str).length = 1 := by decide
    have lw := tx_len wd
    have big : ∀ n : Nat, n ≤ 1000 → n ≤ sizeLine := fun n h => Nat.le_trans h (by decide)
    refine ite2 (fun _ => ?_) (fun _ => ?_)
    · refine ⟨"rows ", rfl, big _ (by rw [e1]; omega), _, rfl, a, CR, dx, _, _, rfl, ha, T.cR, T.nRm, rfl, .inr ⟨m, rfl, ?_, _, rfl, big _ (by rw [e1, e1]; omega), " ", rfl, big _ (by rw [e1, e1, e1]; omega), _, rfl, .inl ⟨"-", rfl, by decide, _, rfl, big _ (by rw [e1, e1, e1, e1]; omega), q _ (by rw [e1, e1, e1, e1]; omega)⟩⟩⟩
      have key : ∀ m, m ≤ 4 → ((m : Nat) : Int).natAbs.log2 < 1920 := by decide +kernel
      exact key m hm
    · refine ⟨_, rfl, a, CR, dx, _, _, rfl, ha, T.cR, T.nRh, rfl, "rows ", rfl, big _ (by rw [e1]; omega), _, rfl, a, CR, dx, _, _, rfl, ha, T.cR, T.nRm, rfl, .inr ⟨m, rfl, ?_, _, rfl, big _ (by rw [e1, e1]; omega), " ", rfl, big _ (by rw [e1, e1, e1]; omega), _, rfl, .inl ⟨tx wd, rfl, big _ (by omega), _, rfl, big _ (by rw [e1, e1, e1, e1]; omega), q _ (by rw [e1, e1, e1, e1]; omega)⟩⟩⟩
      have key : ∀ m, m ≤ 4 → ((m : Nat) : Int).natAbs.log2 < 1920 := by decide +kernel
      exact key m hm
end
end G1
set_option Elab.async false
set_option linter.all false
set_option maxRecDepth 100000
set_option maxHeartbeats 4000000
/-! lots -/
namespace G1
open PySem PySem.Spec PyProof.Rows L2
open PySem.W (Datum DatumOrd T3 T4 Tup)
section
variable {X : Cx}
/-- t == () -/
def rEqE (K : PySem.W.Frag) : R2 := fun x y H Q => ∃ a b xs, x = .ref a ∧ y = .ref b ∧ SqT K H a xs ∧ SqT K H b [] ∧ Q (.bl xs.isEmpty) H
theorem op_eqE (hu : X.A.units + 64 < cLine) : OpR X (compareOp .Eq) (rEqE X.K) := by
  intro pins s σ H x y v u Q I rx ry h
  obtain ⟨a, b, xs, rfl, rfl, ha, hb, q⟩ := h
  cases rx
  cases ry
  obtain ⟨its, rv, p, _⟩ := I.tuple ha
  obtain ⟨its2, rv2, p2, _⟩ := I.tuple hb
  cases rv2
  refine SeqAt.eq_tupleAt (e := fun _ => true) p p2 (by omega) (fun j h1 h2 => absurd h2 (Nat.not_lt_zero _)) ⟨.bl xs.isEmpty, H, I, ?_, q⟩
  cases rv with
  | nil => rfl
  | cons r1 r2 =>
    show Value.bool _ = Value.bool _
    simp
end
section
variable {X : Cx} {k j : Nat} {C : Addr} {sp : Sp}
theorem call_lenM (c : Met X.prog X.w X.K X.mg X.base k C "__len__" sp) (hr : Room j X.A) (hk : k + 1 ≤ j) : CallR X (.builtin "len") (rLenI C sp E0) := by
  obtain ⟨f, fd, ps, c1, c2, F, b⟩ := c.ex
  exact call_lenI F c2 (hr.mono hk) b pass0
theorem call_strM (c : Met X.prog X.w X.K X.mg X.base k C "__str__" sp) (hr : Room j X.A) (hk : k + 2 ≤ j) : CallR X (.type "str") (rStrI C sp E0) := by
  obtain ⟨f, fd, ps, c1, c2, F, b⟩ := c.ex
  exact call_strI F c2 (hr.mono hk) b pass0
end
section
variable {P : Program} {w : World} {K : PySem.W.Frag} {mg : Str → Option Value} {base : Heap} {CF CR CL : Addr}
theorem row_ty {H : Hp} {m : Nat} {wd : List Nat} {a dx : Addr} (T : Tx K mg CF CR CL) (h : H a = some (rowO CR dx m wd)) : TyX K H (.ref a) (.ref CR) := .base (.ins h T.cR T.iR.f1 T.iR.f2 T.iR.f3 T.iR.f4)
def spSr (CR : Addr) : Sp := fun vs H Q _ => ∃ (v : V) (m : Nat) (wd : List Nat), vs = [v] ∧ RowAt CR H m wd v ∧ wd.length ≤ 12 ∧ Q (.bl true) H
theorem scSr : FnScope ["value"] ["value"] (defScope (top 39)) := ⟨rfl, rfl, rfl, by decide +kernel, rfl, by decide +kernel, by decide +kernel⟩
theorem c_is_small (T : Tx K mg CF CR CL) : Cal P w K mg base 3 "is_small_row" (spSr CR) := by
  obtain ⟨tms, gms⟩ := T.gMS
  refine cal T.is_small_row scSr (fun vs H Q E h => ?_) (fun _ _ _ _ _ _ us hl => match us, hl with | [_], _ => rfl) fun f cdv A outer s H vs Q E hr h => ?_
  · obtain ⟨_, _, _, rfl, _⟩ := h; rfl
  · obtain ⟨v, m, wd, rfl, hrow, hl, q⟩ := h
    refine ⟨_, pss_one (ps_ret (pe_and (pe_callB call_isi (by rfl) (T.nb "isinstance") (by decide +kernel) (pa_cons (pv 0) (pa_cons (pe_glob (v := .ref CR) (by rfl) T.gR rfl) pa_nil)))
      (pe_one (pe_cmpR op_le (pe_callB (call_lenM (c_rlen T) hr (by decide)) (by rfl) (T.nb "len") boot_len (pa_cons (pv 0) pa_nil)) (pe_glob (v := .int 12) (by rfl) gms ⟨_, rfl⟩) (nomark _))))), ?_⟩
    have hrow0 := hrow
    obtain ⟨a, dx, rfl, ha⟩ := hrow
    refine ⟨_, rfl, _, _, _, _, true, rfl, .own _, row_ty T ha, T.iR.f5, true, rfl, iteT ?_⟩
    refine ⟨_, rfl, a, dx, _, rfl, ha, _, m, wd, rfl, hrow0, by omega, wd.length, rfl, ?_, _, _, rfl, rfl, ?_⟩
    · have : (12 : Nat) < 2 ^ 62 := by decide
      omega
    · show Q (.bl (decide ((wd.length : Int) ≤ 12))) H
      rw [decide_eq_true (by omega : (wd.length : Int) ≤ 12)]
      exact q
/-- rows in the heap, one a word -/
structure RowsAt (CR : Addr) (H : Hp) (m : Nat) (rs : List V) (ws : List (List Nat)) : Prop where
  len : rs.length = ws.length
  at_ : ∀ (i : Nat) (r : V), rs[i]? = some r → ∃ wd, ws[i]? = some wd ∧ RowAt CR H m wd r
theorem RowsAt.go {H H' : Hp} {m : Nat} {rs : List V} {ws : List (List Nat)} (R : RowsAt CR H m rs ws) (s : Same H H') : RowsAt CR H' m rs ws :=
  ⟨R.len, fun i r h => let ⟨wd, e, h'⟩ := R.at_ i r h; ⟨wd, e, h'.go s⟩⟩
abbrev lotO (CL dx t : Addr) (z : Str) : HO := .ins CL dx [("own_changes", .ref t), ("own_text", .str z)]
def LotAt (CL CR : Addr) (H : Hp) (m : Nat) (ws : List (List Nat)) (v : V) : Prop := ∃ a dx t z rs, v = .ref a ∧ H a = some (lotO CL dx t z) ∧ H t = some (.tup rs) ∧ RowsAt CR H m rs ws
theorem LotAt.go {H H' : Hp} {m : Nat} {ws : List (List Nat)} {v : V} (h : LotAt CL CR H m ws v) (s : Same H H') : LotAt CL CR H' m ws v := by
  obtain ⟨a, dx, t, z, rs, e, h1, h2, h3⟩ := h
  exact ⟨a, dx, t, z, rs, e, s _ _ h1, s _ _ h2, h3.go s⟩
def spLI (CL CR : Addr) : Sp := fun vs H Q _ => ∃ (a dx t : Addr) (m : Nat) (rs : List V) (ws : List (List Nat)), vs = [.ref a, .ref t] ∧ H a = some (.ins CL dx []) ∧ H t = some (.tup rs) ∧ RowsAt CR H m rs ws ∧ (∀ wd ∈ ws, wd.length ≤ 12) ∧ m ≤ 4 ∧ 1 ≤ ws.length ∧ ws.length ≤ 5 ∧
  ∀ H' z, (∀ b o, b ≠ a → H b = some o → H' b = some o) → H' a = some (lotO CL dx t z) → Q .non H'
theorem scLI : FnScope ["self", "changes", "index", "value", "own"] ["self", "changes"] (defScope (inClass (top 40) 0)) := ⟨rfl, rfl, rfl, by decide +kernel, rfl, by decide +kernel, by decide +kernel⟩
theorem c_lot (T : Tx K mg CF CR CL) : Mak P w K mg base 4 "RowLot" CL (spLI CL CR) := by
  obtain ⟨tmt, gmt⟩ := T.gMT
  refine makc T.lInit T.gL scLI (fun vs H Q E h => ?_) (fun _ _ _ _ _ _ us hl => match us, hl with | [_, _], _ => rfl) fun f cdv A outer s H vs Q E hr h => ?_
  · obtain ⟨_, _, _, _, _, _, rfl, _⟩ := h; rfl
  · obtain ⟨a, dx, t, m, rs, ws, rfl, ha, ht, R, hw, hm, h1, h5, q⟩ := h
    refine ⟨_, pss_cons (ps_if (PW.pt (pw_or (pt_not (pt_val (pe_callB call_isi (by rfl) (T.nb "isinstance") (by decide +kernel) (pa_cons (pv 1) (pa_cons (pe_bltn (v := .ty "tuple") (by rfl) (T.nb "tuple") boot_tuple rfl) pa_nil))))) (pw_or1 (pt_cmpR (op_eqE hr.units) (pv 1) (pe_tup pa_nil) (nomark _))))) (pss_one ps_never) pss_nil)
      (pss_cons (ps_for PassesOwn.never rfl (pi_enumT rfl (T.nb "enumerate") (pa_cons (pv 1) pa_nil)) (pg_tup rfl (pgs_cons (pg_name (i := 2) scLI.nd rfl (.inl rfl)) (pgs_cons (pg_name (i := 3) scLI.nd rfl (.inl rfl)) pgs_nil)))
        (pss_one (ps_if (PW.pt (pw_or (pt_cmpR op_eq (pv 2) (pe_glob (v := .int 5) (by rfl) gmt ⟨_, rfl⟩) (nomark _)) (pw_or (pt_not (pt_val (pe_c (c_is_small T) hr (by decide) rfl (pa_cons (pv 3) pa_nil)))) (pw_or1 (pt_cmpR op_ne (pe_pr (c_letters T) hr (by decide) (pv 3)) (pe_pr (c_letters T) hr (by decide) (pe_ix ix_tup (pv 1) pe_int (fun _ _ => rfl))) (nomark _)))))) (pss_one ps_never) pss_nil)))
      (pss_cons (ps_fld (pv 0) (pv 1) rfl)
      (pss_one (ps_fld (pv 0) (pe_join pe_str (pe_lc (own := [("own", 4)]) (g := gName 4) (tt := tYes) (te := tCB (rStrI CR (spRs CR) E0) (tCons (tVar 4) tNil)) rfl scLI.nd (pi_tup (pv 1)) (blkOk_by (N := ["self", "changes", "index", "value", "own"]) (sc := defScope (inClass (top 40) 0)) (by decide +kernel))
        (fun _ _ _ _ _ => pg_name (i := 4) scLI.nd rfl (.inl rfl)) (fun _ _ _ _ _ => pts_nil) (fun _ _ _ _ _ => pe_callTy (call_strM (c_rstr T) hr (by decide)) (by rfl) (T.nb "str") boot_str (pa_cons (pv 4) pa_nil)))) rfl)))), ?_⟩
    refine ⟨_, rfl, _, _, _, _, true, rfl, .ty _, .base (.tup ht), kit_ty (by decide +kernel), true, rfl, iteF ?_⟩
    have lr : rs.length = ws.length := R.len
    refine ⟨_, rfl, Nat.zero_le _, fun p0 n0 => ⟨t, p0, rs, rfl, rfl, .inl (.inl (same_upd n0 _ _ ht)), .inl (.inl upd_same), _, rfl, ?_⟩⟩
    have er : rs.isEmpty = false := by
      cases rs with
      | nil =>
        have : ([] : List V).length = 0 := rfl
        omega
      | cons _ _ => rfl
    rw [er]
    refine iteF ?_
    obtain ⟨r0, hr0⟩ : ∃ r0, rs[0]? = some r0 := ⟨_, List.getElem?_eq_getElem (by omega : 0 < rs.length)⟩
    refine ⟨_, rfl, t, rs, rfl, .inl (.inl (same_upd n0 _ _ ht)), for_it (walk_enT (xs := rs)) (fun i σ H' => ∃ y2 y3 y4, σ = [some (.ref a), some (.ref t), y2, y3, y4] ∧ Same H H') ⟨none, none, none, rfl, same_upd n0⟩ (fun i σ H' _ hp => ?_) ?_ ?_⟩
    · obtain ⟨_, _, _, _, sm⟩ := hp
      exact .inl (.inl (sm _ _ ht))
    · rintro i x σ H0 H1 hi ⟨y2, y3, y4, rfl, sm⟩ ⟨Tp, x1, x2, rfl, nT, rfl, e1, e2⟩
      cases e1
      have sm2 := sm.trans (same_upd (o := .tup [.int (i : Nat), x2]) nT)
      obtain ⟨wd, hwd, hrow⟩ := R.at_ i x2 e2
      have hrow2 := hrow.go sm2
      obtain ⟨wd0, _, hrow0⟩ := R.at_ 0 r0 hr0
      have hrow02 := hrow0.go sm2
      refine ⟨Tp, _, rfl, .inl (.inl upd_same), rfl, _, _, rfl, _, _, rfl, rfl, _, rfl, rfl, _, rfl, ?_⟩
      refine ite2 (fun h => absurd (of_decide_eq_true h) (fun z => by injection z with z; omega)) (fun _ => ?_)
      refine ⟨_, rfl, x2, m, wd, rfl, hrow2, hw wd (List.mem_of_getElem? hwd), true, rfl, iteF ?_⟩
      obtain ⟨a1, dx1, ex1, ha1⟩ := id hrow2
      obtain ⟨a0, dx0, ex0, ha0⟩ := id hrow02
      refine ⟨_, rfl, a1, dx1, _, ex1, ha1, .ref a1, m, wd, rfl, ⟨a1, dx1, rfl, ha1⟩, ?_⟩
      refine ⟨_, rfl, t, rs, 0, r0, rfl, rfl, .inl (.inl (sm2 _ _ ht)), atI_nat (j := 0) hr0, a0, dx0, _, ex0, ha0, .ref a0, m, wd0, rfl, ⟨a0, dx0, rfl, ha0⟩, rfl, _, rfl, ?_⟩
      have ed : (!decide (V.int (m : Int) = V.int (m : Int))) = false := by simp
      rw [ed]
      exact iteF ⟨_, _, _, rfl, sm2⟩
    · rintro σ H1 ⟨y2, y3, y4, rfl, sm⟩
      have nta : t ≠ a := ne_of ht ha (fun z => nomatch z)
      refine ⟨_, rfl, _, rfl, a, CL, dx, _, rfl, sm _ _ ha, T.cL, T.nLc, (by show 0 < 1000; decide), ?_⟩
      have ht2 : (upd H1 a (.ins CL dx (putF "own_changes" (.ref t) []))) t = some (.tup rs) := by rw [upd_ne nta]; exact sm _ _ ht
      have R2 : RowsAt CR (upd H1 a (.ins CL dx (putF "own_changes" (.ref t) []))) m rs ws := by
        refine ⟨lr, fun i r h => ?_⟩
        obtain ⟨wd, e, a', dx', er', h'⟩ := R.at_ i r h
        refine ⟨wd, e, a', dx', er', ?_⟩
        have hne : a' ≠ a := fun z => by
          rw [z, ha] at h'
          have := Option.some.inj h'
          injection this with _ _ z3
          cases z3
        rw [upd_ne hne]
        exact sm _ _ h'
      refine ⟨⟨_, rfl⟩, _, rfl, t, rfl, ⟨rs, .inl (.inl ht2)⟩, fun D nD => lc_it (walk_tup (xs := rs)) (fun i H' => Same (upd H1 a (.ins CL dx (putF "own_changes" (.ref t) []))) H' ∧ ∃ zs : List Str, H' D = some (.lst (zs.map V.str)) ∧ zs.length = i ∧ ∀ z ∈ zs, z.length ≤ 1000)
        ⟨same_upd nD, [], upd_same, rfl, fun z hz => (nomatch hz)⟩ (fun i H' _ hp => .inl (.inl (hp.1 _ _ ht2))) ?_ ?_⟩
      · rintro i x H0 H3 hi ⟨s3, zs, hD, hlz, hz⟩ ⟨rfl, hx⟩
        obtain ⟨wd, hwd, a1, dx1, rfl, h1'⟩ := R2.at_ i x hx
        refine ⟨rfl, yesT ?_⟩
        refine ⟨_, rfl, a1, dx1, _, rfl, s3 _ _ h1', _, m, wd, rfl, ⟨a1, dx1, rfl, s3 _ _ h1'⟩, hm, Nat.le_trans (hw wd (List.mem_of_getElem? hwd)) (by decide), fun z hzl => ⟨z, rfl, _, hD, ?_, s3.set nD, zs ++ [z], ?_, ?_, ?_⟩⟩
        · rw [List.length_map]
          exact Nat.lt_of_le_of_lt (m := 5) (by omega) (by decide)
        · rw [upd_same, List.map_append]
          rfl
        · rw [List.length_append, hlz]
          rfl
        · intro y hy
          rcases List.mem_append.mp hy with hy | hy
          · exact hz y hy
          · rw [List.mem_singleton.mp hy]; exact hzl
      · rintro H3 ⟨s3, zs, hD, hlz, hz⟩
        have key : ∀ l : List Str, (∀ z ∈ l, z.length ≤ 1000) → (l.map (·.length)).sum ≤ 1000 * l.length := by
          intro l
          induction l with
          | nil => intro _; exact Nat.le_refl _
          | cons x r ih =>
            intro hl
            have h1 := hl x List.mem_cons_self
            have h2 := ih fun w hw => hl w (List.mem_cons_of_mem _ hw)
            simp only [List.map_cons, List.sum_cons, List.length_cons]
            omega
        have k9 := key zs hz
        refine ⟨_, D, zs, rfl, rfl, .inl (.inl (.inl hD)), ?_, ?_⟩
        · have : ("\n" : Str).length = 1 := by decide
          rw [this]
          omega
        · refine ⟨_, rfl, a, CL, dx, _, rfl, s3 _ _ upd_same, T.cL, T.nLt, (by show 1 < 1000; decide), q _ _ (fun b o hb e => ?_) upd_same⟩
          rw [upd_ne hb]
          exact s3 _ _ (by rw [upd_ne hb]; exact sm _ _ e)
end
end G1
set_option Elab.async false
set_option linter.all false
set_option maxRecDepth 100000
set_option maxHeartbeats 4000000
/-! forms of lots -/
namespace G1
open PySem PySem.Spec PyProof.Rows L2
open PySem.W (Datum DatumOrd T3 T4 Tup)
/-- a word goes round in the web of the words -/
def Acc (ws : List (List Nat)) (wd : List Nat) : Prop := ∃ ts, Fld ws ts ∧ Path ts 0 wd 0
theorem acc_iff {ws : List (List Nat)} {ts : List Tie} (F : Fld ws ts) {wd : List Nat} : Acc ws wd ↔ Path ts 0 wd 0 :=
  ⟨fun ⟨us, G, p⟩ => (G.same F wd).mp p, fun p => ⟨ts, F, p⟩⟩
structure FormW (ws : List (List Nat)) (F : List Tie) : Prop where
  ex : ∃ ts, Fld ws ts ∧ (ts.map ky).Nodup ∧ L4 ts ∧ Form ts F
  m0 : ∀ t ∈ F, t.m = []
  len : F.length ≤ 10000
theorem FormW.acc {ws : List (List Nat)} {F : List Tie} (f : FormW ws F) (wd : List Nat) : wlk (sf F) 0 wd = some 0 ↔ Acc ws wd := by
  obtain ⟨ts, A, nd, l, h⟩ := f.ex
  rw [wlk_path (h.det A.det l), h.acc A.det l, acc_iff A]
theorem FormW.sml {ws : List (List Nat)} {F : List Tie} (f : FormW ws F) : Sml F := by
  obtain ⟨ts, A, nd, l, h⟩ := f.ex
  exact l4_sml (h.l4 l)
theorem k3_map {F G : List Tie} (hF : ∀ t ∈ F, t.m = []) (hG : ∀ t ∈ G, t.m = []) (e : F.map k3 = G.map k3) : F = G := by
  have key : ∀ us : List Tie, (∀ u ∈ us, u.m = []) → (us.map k3).map dk3 = us := by
    intro us
    induction us with
    | nil => intro _; rfl
    | cons u r ih =>
      intro h
      rw [List.map_cons, List.map_cons, ih fun x hx => h x (List.mem_cons_of_mem _ hx), dk3_k3 (h u List.mem_cons_self)]
  rw [← key F hF, ← key G hG, e]
theorem form_same {ws us : List (List Nat)} {F G : List Tie} (f : FormW ws F) (g : FormW us G) : F.map k3 = G.map k3 ↔ (∀ w ∈ ws, Acc us w) ∧ ∀ w ∈ us, Acc ws w := by
  obtain ⟨ts, A, nd, l, h⟩ := f.ex
  obtain ⟨ts2, A2, nd2, l2, h2⟩ := g.ex
  constructor
  · intro e
    have e2 := k3_map f.m0 g.m0 e
    refine ⟨fun w hw => (g.acc w).mp ?_, fun w hw => (f.acc w).mp ?_⟩
    · rw [← e2]
      exact (f.acc w).mpr ((acc_iff A).mpr (A.way w hw))
    · rw [e2]
      exact (g.acc w).mpr ((acc_iff A2).mpr (A2.way w hw))
  · rintro ⟨a, b⟩
    rw [form_eq A A2 l l2 nd nd2 h h2 (fun w hw => (acc_iff A2).mp (a w hw)) (fun w hw => (acc_iff A).mp (b w hw))]
section
variable {P : Program} {w : World} {K : PySem.W.Frag} {mg : Str → Option Value} {base : Heap} {CF CR CL : Addr}
theorem lot_ty {H : Hp} {z : Str} {a dx t : Addr} (T : Tx K mg CF CR CL) (h : H a = some (lotO CL dx t z)) : TyX K H (.ref a) (.ref CL) := .base (.ins h T.cL T.iL.f1 T.iL.f2 T.iL.f3 T.iL.f4)
def spGc (CL : Addr) : Sp := fun vs H Q _ => ∃ (a dx t : Addr) (z : Str), vs = [.ref a] ∧ H a = some (lotO CL dx t z) ∧ Q (.ref t) H
theorem scGc : FnScope ["self"] ["self"] (defScope (inClass (top 40) 2)) := ⟨rfl, rfl, rfl, by decide +kernel, rfl, by decide +kernel, by decide +kernel⟩
theorem c_changes (T : Tx K mg CF CR CL) : Prp P w K mg base 1 CL "changes" (spGc CL) := by
  refine prpc T.cL T.lChanges scGc (fun vs H Q E h => ?_) (fun _ _ _ _ _ _ us hl => match us, hl with | [_], _ => rfl) fun f cdv A outer s H vs Q E hr h => ?_
  · obtain ⟨_, _, _, _, rfl, _⟩ := h; rfl
  · obtain ⟨a, dx, t, z, rfl, ha, q⟩ := h
    exact ⟨_, pss_one (ps_ret (pe_fld (pv 0) rfl)), _, rfl, a, CL, dx, _, _, rfl, ha, T.cL, T.nLc, rfl, q⟩
def spCk (CL CR : Addr) : Sp := fun vs H Q _ => ∃ (v : V) (m : Nat) (ws : List (List Nat)), vs = [v] ∧ LotAt CL CR H m ws v ∧ Q .non H
theorem scCk : FnScope ["value"] ["value"] (defScope (top 42)) := ⟨rfl, rfl, rfl, by decide +kernel, rfl, by decide +kernel, by decide +kernel⟩
theorem c_check (T : Tx K mg CF CR CL) : Cal P w K mg base 1 "check_row_lot" (spCk CL CR) := by
  refine cal T.check_row_lot scCk (fun vs H Q E h => ?_) (fun _ _ _ _ _ _ us hl => match us, hl with | [_], _ => rfl) fun f cdv A outer s H vs Q E hr h => ?_
  · obtain ⟨_, _, _, rfl, _⟩ := h; rfl
  · obtain ⟨v, m, ws, rfl, ⟨a, dx, t, z, rs, rfl, ha, ht, R⟩, q⟩ := h
    refine ⟨_, pss_one (ps_if (pt_not (pt_val (pe_callB call_isi (by rfl) (T.nb "isinstance") (by decide +kernel) (pa_cons (pv 0) (pa_cons (pe_glob (v := .ref CL) (by rfl) T.gL rfl) pa_nil))))) (pss_one ps_never) pss_nil), ?_⟩
    exact ⟨_, rfl, _, _, _, _, true, rfl, .own _, lot_ty T ha, T.iL.f5, true, rfl, iteF q⟩
def spLe (CL CR : Addr) : Sp := fun vs H Q _ => ∃ (v : V) (m : Nat) (ws : List (List Nat)), vs = [v] ∧ LotAt CL CR H m ws v ∧ 1 ≤ ws.length ∧ Q (.int m) H
theorem scLe : FnScope ["lot"] ["lot"] (defScope (top 43)) := ⟨rfl, rfl, rfl, by decide +kernel, rfl, by decide +kernel, by decide +kernel⟩
theorem c_letters_in (T : Tx K mg CF CR CL) : Cal P w K mg base 3 "letters_in" (spLe CL CR) := by
  refine cal T.letters_in scLe (fun vs H Q E h => ?_) (fun _ _ _ _ _ _ us hl => match us, hl with | [_], _ => rfl) fun f cdv A outer s H vs Q E hr h => ?_
  · obtain ⟨_, _, _, rfl, _⟩ := h; rfl
  · obtain ⟨v, m, ws, rfl, ⟨a, dx, t, z, rs, rfl, ha, ht, R⟩, h1, q⟩ := h
    refine ⟨_, pss_one (ps_ret (pe_pr (c_letters T) hr (by decide) (pe_ix ix_tup (pe_pr (c_changes T) hr (by decide) (pv 0)) pe_int (fun _ _ => rfl)))), ?_⟩
    have lr := R.len
    obtain ⟨r0, hr0⟩ : ∃ r0, rs[0]? = some r0 := ⟨_, List.getElem?_eq_getElem (by omega : 0 < rs.length)⟩
    obtain ⟨wd0, _, a0, dx0, rfl, ha0⟩ := R.at_ 0 r0 hr0
    exact ⟨_, rfl, a, dx, _, rfl, ha, a, dx, t, z, rfl, ha, t, rs, 0, _, rfl, rfl, .inl (.inl ht), atI_nat (j := 0) hr0, a0, dx0, _, rfl, ha0, .ref a0, m, wd0, rfl, ⟨a0, dx0, rfl, ha0⟩, q⟩
def spCks (CL CR : Addr) : Sp := fun vs H Q _ => ∃ (v u : V) (m : Nat) (ws us : List (List Nat)), vs = [v, u] ∧ LotAt CL CR H m ws v ∧ LotAt CL CR H m us u ∧ 1 ≤ ws.length ∧ 1 ≤ us.length ∧ Q .non H
theorem scCks : FnScope ["lot", "other_lot"] ["lot", "other_lot"] (defScope (top 44)) := ⟨rfl, rfl, rfl, by decide +kernel, rfl, by decide +kernel, by decide +kernel⟩
theorem c_checks (T : Tx K mg CF CR CL) : Cal P w K mg base 4 "check_row_lots" (spCks CL CR) := by
  refine cal T.check_row_lots scCks (fun vs H Q E h => ?_) (fun _ _ _ _ _ _ us hl => match us, hl with | [_, _], _ => rfl) fun f cdv A outer s H vs Q E hr h => ?_
  · obtain ⟨_, _, _, _, _, rfl, _⟩ := h; rfl
  · obtain ⟨v, u, m, ws, us, rfl, h1, h2, l1, l2, q⟩ := h
    refine ⟨_, pss_cons (ps_expr (pe_c (c_check T) hr (by decide) rfl (pa_cons (pv 0) pa_nil))) (pss_cons (ps_expr (pe_c (c_check T) hr (by decide) rfl (pa_cons (pv 1) pa_nil)))
      (pss_one (ps_if (pt_cmpR op_ne (pe_c (c_letters_in T) hr (by decide) rfl (pa_cons (pv 0) pa_nil)) (pe_c (c_letters_in T) hr (by decide) rfl (pa_cons (pv 1) pa_nil)) (nomark _)) (pss_one ps_never) pss_nil))), ?_⟩
    refine ⟨_, rfl, v, m, ws, rfl, h1, _, rfl, u, m, us, rfl, h2, _, rfl, v, m, ws, rfl, h1, l1, _, rfl, u, m, us, rfl, h2, l2, rfl, _, rfl, ?_⟩
    have ed : (!decide (V.int (m : Int) = V.int (m : Int))) = false := by simp
    rw [ed]
    exact iteF q
/-! ### row_form_of, form_has_row -/
def spRf (K : PySem.W.Frag) (CR : Addr) : Sp := fun vs H Q _ => ∃ (t : Addr) (m : Nat) (rs : List V) (ws : List (List Nat)), vs = [.ref t] ∧ SqT K H t rs ∧ RowsAt CR H m rs ws ∧ Okl ws ∧ ∀ H' r F, Same H H' → Dt K H' r (.tuple (fmD F)) → FormW ws F → Q r H'
theorem scRf : FnScope ["told", "own"] ["told"] (defScope (top 45)) := ⟨rfl, rfl, rfl, by decide +kernel, rfl, by decide +kernel, by decide +kernel⟩
theorem c_row_form_of (T : Tx K mg CF CR CL) : Cal P w K mg base 6 "row_form_of" (spRf K CR) := by
  refine cal T.row_form_of scRf (fun vs H Q E h => ?_) (fun _ _ _ _ _ _ us hl => match us, hl with | [_], _ => rfl) fun f cdv A outer s H vs Q E hr h => ?_
  · obtain ⟨_, _, _, _, rfl, _⟩ := h; rfl
  · obtain ⟨t, m, rs, ws, rfl, ht, R, ok, q⟩ := h
    refine ⟨_, pss_one (ps_ret (pe_c (c_numbered T) hr (by decide) rfl (pa_cons (pe_c (c_folded T) hr (by decide) rfl (pa_cons (pe_lc (own := [("own", 1)]) (g := gName 1) (tt := tYes) (te := tProp CR (spGw CR) [] E0 (tVar 1)) rfl scRf.nd (pi_tup (pv 0)) (blkOk_by (N := ["told", "own"]) (sc := defScope (top 45)) (by decide +kernel))
      (fun _ _ _ _ _ => pg_name (i := 1) scRf.nd rfl (.inl rfl)) (fun _ _ _ _ _ => pts_nil) (fun _ _ _ _ _ => pe_pr (c_word T) hr (by decide) (pv 1))) pa_nil)) (pa_cons pe_int (pa_cons pe_int pa_nil))))), ?_⟩
    have lr := R.len
    refine ⟨_, rfl, t, rfl, ⟨rs, ht⟩, fun D nD => lc_it (walk_tup (xs := rs)) (fun i H' => Same H H' ∧ H' D = some (.lst (txs (ws.take i)))) ⟨same_upd nD, upd_same⟩ (fun i H' _ hp => kp_same hp.1 _ _ ht) ?_ ?_⟩
    · rintro i x H0 H1 hi ⟨sm, hD⟩ ⟨rfl, hx⟩
      obtain ⟨wd, hwd, a1, dx1, rfl, h1⟩ := R.at_ i x hx
      refine ⟨rfl, yesT ?_⟩
      refine ⟨_, rfl, a1, dx1, _, rfl, sm _ _ h1, _, m, wd, rfl, ⟨a1, dx1, rfl, sm _ _ h1⟩, _, hD, ?_, sm.set nD, ?_⟩
      · unfold txs
        rw [List.length_map, List.length_take]
        have := ok.n
        exact Nat.lt_of_le_of_lt (m := 50) (by omega) (by decide)
      · rw [upd_same, List.take_add_one, hwd]
        unfold txs
        rw [List.map_append]
        rfl
    · rintro H1 ⟨sm, hD⟩
      rw [List.take_of_length_le (by omega)] at hD
      refine ⟨D, ws, rfl, .inl (.inl hD), ok, fun H2 p fs ts s2 np hp hd A nd wb => ?_⟩
      exact ⟨p, fs, ts, rfl, .inl (.inl hp), hd, wb, A.det, fun H3 r F s3 hr3 hF hm hl => q _ r F (sm.trans (s2.trans s3)) hr3 ⟨⟨ts, A, nd, wb.l4, hF⟩, hm, hl⟩⟩
def spFh (K : PySem.W.Frag) : Sp := fun vs H Q _ => ∃ (v : V) (F : List Tie) (ws : List (List Nat)) (wd : List Nat), vs = [v, .str (tx wd)] ∧ Dt K H v (.tuple (fmD F)) ∧ FormW ws F ∧ wd.length ≤ 1000 ∧ ∀ H' b, Same H H' → (b = true ↔ Acc ws wd) → Q (.bl b) H'
theorem scFh : FnScope ["form", "word", "found"] ["form", "word"] (defScope (top 46)) := ⟨rfl, rfl, rfl, by decide +kernel, rfl, by decide +kernel, by decide +kernel⟩
theorem c_form_has (T : Tx K mg CF CR CL) : Cal P w K mg base 5 "form_has_row" (spFh K) := by
  refine cal T.form_has_row scFh (fun vs H Q E h => ?_) (fun _ _ _ _ _ _ us hl => match us, hl with | [_, _], _ => rfl) fun f cdv A outer s H vs Q E hr h => ?_
  · obtain ⟨_, _, _, _, rfl, _⟩ := h; rfl
  · obtain ⟨v, F, ws, wd, rfl, hv, fw, hl, q⟩ := h
    refine ⟨_, pss_cons (ps_set (i := 2) scFh.nd rfl (.inl rfl) (pe_c (c_gone_word T) hr (by decide) rfl (pa_cons (pe_c (c_marked T) hr (by decide) rfl (pa_cons (pv 0) pa_nil)) (pa_cons (pv 1) pa_nil))))
      (pss_one (ps_ret (pe_and (pe_cmpR op_notN (pv 2) pe_non (nomark _)) (pe_one (pe_cmpR op_eq (pe_ix ix_tup (pv 2) pe_int (fun _ _ => rfl)) pe_int (nomark _)))))), ?_⟩
    refine ⟨_, rfl, v, F, rfl, hv, fw.m0, fw.len, fun H1 p fs s1 np hp hd => ?_⟩
    refine ⟨_, rfl, p, fs, F, wd, rfl, .inl (.inl hp), hd, fw.sml, fw.m0, fw.len, hl, fun H2 r s2 hr2 => ?_⟩
    have hac := fw.acc wd
    cases hw : wlk (sf F) 0 wd with
    | none =>
      rw [hw] at hr2 hac
      cases hr2
      refine ⟨_, rfl, rfl, false, rfl, iteF ?_⟩
      exact q _ false (s1.trans s2) ⟨fun z => (nomatch z), fun z => (nomatch hac.mpr z)⟩
    | some x =>
      rw [hw] at hr2 hac
      obtain ⟨ra, xs, rfl, hrs, hra⟩ := hr2.tup_inv
      cases hra with
      | cons h1 hra =>
        cases h1.int_inv
        refine ⟨_, rfl, rfl, true, rfl, iteT ?_⟩
        refine ⟨_, rfl, ra, _, 0, _, rfl, rfl, hrs, atI_nat (j := 0) rfl, rfl, q _ _ (s1.trans s2) ?_⟩
        rw [← hac, decide_eq_true_iff]
        exact ⟨fun z => by injection z with z; exact congrArg some (by omega), fun z => by rw [Option.some.inj z]; rfl⟩
end
end G1
set_option Elab.async false
set_option linter.all false
set_option maxRecDepth 100000
set_option maxHeartbeats 4000000
/-! row_form, same_rows, rows_within, needless_rows -/
namespace G1
open PySem PySem.Spec PyProof.Rows L2
open PySem.W (Datum DatumOrd T3 T4 Tup)
section
variable {P : Program} {w : World} {K : PySem.W.Frag} {mg : Str → Option Value} {base : Heap} {CF CR CL : Addr}
def spRo (K : PySem.W.Frag) (CL CR : Addr) : Sp := fun vs H Q _ => ∃ (v : V) (m : Nat) (ws : List (List Nat)), vs = [v] ∧ LotAt CL CR H m ws v ∧ Okl ws ∧ ∀ H' r F, Same H H' → Dt K H' r (.tuple (fmD F)) → FormW ws F → Q r H'
theorem scRo : FnScope ["lot"] ["lot"] (defScope (top 47)) := ⟨rfl, rfl, rfl, by decide +kernel, rfl, by decide +kernel, by decide +kernel⟩
theorem c_row_form (T : Tx K mg CF CR CL) : Cal P w K mg base 7 "row_form" (spRo K CL CR) := by
  refine cal T.row_form scRo (fun vs H Q E h => ?_) (fun _ _ _ _ _ _ us hl => match us, hl with | [_], _ => rfl) fun f cdv A outer s H vs Q E hr h => ?_
  · obtain ⟨_, _, _, rfl, _⟩ := h; rfl
  · obtain ⟨v, m, ws, rfl, hlot, ok, q⟩ := h
    refine ⟨_, pss_cons (ps_expr (pe_c (c_check T) hr (by decide) rfl (pa_cons (pv 0) pa_nil))) (pss_one (ps_ret (pe_c (c_row_form_of T) hr (by decide) rfl (pa_cons (pe_pr (c_changes T) hr (by decide) (pv 0)) pa_nil)))), ?_⟩
    obtain ⟨a, dx, t, z, rs, ev, ha, ht, R⟩ := id hlot
    exact ⟨_, rfl, v, m, ws, rfl, hlot, _, rfl, a, dx, _, ev, ha, a, dx, t, z, rfl, ha, t, m, rs, ws, rfl, .inl (.inl ht), R, ok, q⟩
def spSm (K : PySem.W.Frag) (CL CR : Addr) : Sp := fun vs H Q _ => ∃ (v u : V) (m : Nat) (ws us : List (List Nat)), vs = [v, u] ∧ LotAt CL CR H m ws v ∧ LotAt CL CR H m us u ∧ Okl ws ∧ Okl us ∧ 1 ≤ ws.length ∧ 1 ≤ us.length ∧ ∀ H' b, Same H H' → (b = true ↔ (∀ x ∈ ws, Acc us x) ∧ ∀ x ∈ us, Acc ws x) → Q (.bl b) H'
theorem scSm : FnScope ["lot", "other_lot"] ["lot", "other_lot"] (defScope (top 48)) := ⟨rfl, rfl, rfl, by decide +kernel, rfl, by decide +kernel, by decide +kernel⟩
theorem fmD_toD (F : List Tie) : (.tuple (fmD F) : PyData) = Datum.toD (Tup.mk (F.map k3)) := by
  show _ = PyData.tuple ((F.map k3).map Datum.toD)
  rw [List.map_map]
  rfl
theorem xc_same_rows (T : Tx K mg CF CR CL) : CalX P w K mg base 8 "same_rows" ["lot", "other_lot"] (top 48) (spSm K CL CR) := by
  refine calx T.same_rows scSm (fun vs H Q E h => ?_) (fun _ _ _ _ _ _ us hl => match us, hl with | [_, _], _ => rfl) fun f cdv A outer s H vs Q E hr h => ?_
  · obtain ⟨_, _, _, _, _, rfl, _⟩ := h; rfl
  · obtain ⟨v, u, m, ws, us, rfl, h1, h2, ok1, ok2, l1, l2, q⟩ := h
    refine ⟨_, pss_cons (ps_expr (pe_c (c_checks T) hr (by decide) rfl (pa_cons (pv 0) (pa_cons (pv 1) pa_nil))))
      (pss_one (ps_ret (pe_cmpR (op_eqT (Tup TK) hr.units) (pe_c (c_row_form T) hr (by decide) rfl (pa_cons (pv 0) pa_nil)) (pe_c (c_row_form T) hr (by decide) rfl (pa_cons (pv 1) pa_nil)) (nomark _)))), ?_⟩
    refine ⟨_, rfl, _, rfl, v, u, m, ws, us, rfl, h1, h2, l1, l2, _, rfl, v, m, ws, rfl, h1, ok1, fun H1 r F s1 hr1 fF => ?_⟩
    refine ⟨_, rfl, u, m, us, rfl, h2.go s1, ok2, fun H2 r2 G s2 hr2 fG => ?_⟩
    refine ⟨⟨F.map k3⟩, ⟨G.map k3⟩, ?_, ?_, ?_⟩
    · rw [← fmD_toD]; exact (hr1.move (kp_same s2)).dp
    · rw [← fmD_toD]; exact hr2.dp
    · refine q _ _ (s1.trans s2) ?_
      rw [decide_eq_true_iff, ← form_same fF fG]
      exact ⟨fun e => congrArg Tup.items e, fun e => congrArg Tup.mk e⟩
def spWi (K : PySem.W.Frag) (CL CR : Addr) : Sp := fun vs H Q _ => ∃ (v u : V) (m : Nat) (ws us : List (List Nat)), vs = [v, u] ∧ LotAt CL CR H m ws v ∧ LotAt CL CR H m us u ∧ Okl us ∧ (∀ x ∈ ws, x.length ≤ 100) ∧ 1 ≤ ws.length ∧ ws.length ≤ 50 ∧ 1 ≤ us.length ∧ ∀ H' b, Same H H' → (b = true ↔ ∀ x ∈ ws, Acc us x) → Q (.bl b) H'
theorem scWi : FnScope ["lot", "other_lot", "form", "own"] ["lot", "other_lot"] (defScope (top 49)) := ⟨rfl, rfl, rfl, by decide +kernel, rfl, by decide +kernel, by decide +kernel⟩
theorem xc_rows_within (T : Tx K mg CF CR CL) : CalX P w K mg base 8 "rows_within" ["lot", "other_lot"] (top 49) (spWi K CL CR) := by
  refine calx T.rows_within scWi (fun vs H Q E h => ?_) (fun _ _ _ _ _ _ us hl => match us, hl with | [_, _], _ => rfl) fun f cdv A outer s H vs Q E hr h => ?_
  · obtain ⟨_, _, _, _, _, rfl, _⟩ := h; rfl
  · obtain ⟨v, u, m, ws, us, rfl, h1, h2, ok2, hws, l1, l50, l2, q⟩ := h
    refine ⟨_, pss_cons (ps_expr (pe_c (c_checks T) hr (by decide) rfl (pa_cons (pv 0) (pa_cons (pv 1) pa_nil))))
      (pss_cons (ps_set (i := 2) scWi.nd rfl (.inr rfl) (pe_c (c_row_form T) hr (by decide) rfl (pa_cons (pv 1) pa_nil)))
      (pss_one (ps_ret (pe_callB (cr_all rfl) (by rfl) (T.nb "all") (by decide +kernel) (pa_cons (pe_lc (own := [("own", 3)]) (g := gName 3) (tt := tYes) (te := tCall (spFh K) [] E0 (tCons (tVar 2) (tCons (tProp CR (spGw CR) [] E0 (tVar 3)) tNil))) rfl scWi.nd (pi_tup (pe_pr (c_changes T) hr (by decide) (pv 0))) (blkOk_by (N := ["lot", "other_lot", "form", "own"]) (sc := defScope (top 49)) (by decide +kernel))
        (fun _ _ _ _ _ => pg_name (i := 3) scWi.nd rfl (.inl rfl)) (fun _ _ _ _ _ => pts_nil) (fun _ _ _ _ _ => pe_c (c_form_has T) hr (by decide) rfl (pa_cons (pv 2) (pa_cons (pe_pr (c_word T) hr (by decide) (pv 3)) pa_nil)))) pa_nil))))), ?_⟩
    refine ⟨_, rfl, _, rfl, v, u, m, ws, us, rfl, h1, h2, l1, l2, _, rfl, u, m, us, rfl, h2, ok2, fun H1 r F s1 hr1 fF => ?_⟩
    obtain ⟨a, dx, t, z, rs, ev, ha, ht, R⟩ := h1.go s1
    have lr := R.len
    refine ⟨_, rfl, a, dx, _, ev, ha, a, dx, t, z, rfl, ha, t, rfl, ⟨rs, .inl (.inl ht)⟩, fun D nD => lc_it (walk_tup (xs := rs)) (fun i H' => Same H1 H' ∧ ∃ bs : List Bool, H' D = some (.lst (bs.map V.bl)) ∧ bs.length = i ∧ ∀ (j : Nat) b, bs[j]? = some b → ∃ wd, ws[j]? = some wd ∧ (b = true ↔ Acc us wd))
      ⟨same_upd nD, [], upd_same, rfl, fun j b e => (nomatch e)⟩ (fun i H' _ hp => .inl (.inl (hp.1 _ _ ht))) ?_ ?_⟩
    · rintro i x H0 H2 hi ⟨sm, bs, hD, hlb, hbs⟩ ⟨rfl, hx⟩
      obtain ⟨wd, hwd, a1, dx1, rfl, h1'⟩ := R.at_ i x hx
      refine ⟨rfl, yesT ?_⟩
      refine ⟨_, rfl, _, rfl, a1, dx1, _, rfl, sm _ _ h1', _, m, wd, rfl, ⟨a1, dx1, rfl, sm _ _ h1'⟩, _, F, us, wd, rfl, hr1.move (kp_same sm), fF, Nat.le_trans (hws wd (List.mem_of_getElem? hwd)) (by decide), fun H3 b s3 hb => ?_⟩
      refine ⟨_, s3 _ _ hD, ?_, (sm.trans s3).set nD, bs ++ [b], ?_, ?_, ?_⟩
      · rw [List.length_map]
        exact Nat.lt_of_le_of_lt (m := 50) (by omega) (by decide)
      · rw [upd_same, List.map_append]; rfl
      · rw [List.length_append, hlb]; rfl
      · intro j b' e
        by_cases hj : j < bs.length
        · rw [List.getElem?_append_left hj] at e
          exact hbs j b' e
        · rw [List.getElem?_append_right (by omega)] at e
          have hj0 : j - bs.length = 0 := by
            have := (List.getElem?_eq_some_iff.mp e).1
            have e1 : [b].length = 1 := rfl
            omega
          rw [hj0] at e
          cases e
          exact ⟨wd, by rw [show j = i by omega]; exact hwd, hb⟩
    · rintro H2 ⟨sm, bs, hD, hlb, hbs⟩
      refine ⟨D, bs, rfl, .inl (.inl hD), q _ _ (s1.trans sm) ?_⟩
      rw [List.all_eq_true]
      constructor
      · intro h x hx
        obtain ⟨j, hj⟩ := List.mem_iff_getElem?.mp hx
        have hjl := (List.getElem?_eq_some_iff.mp hj).1
        obtain ⟨b, hb⟩ : ∃ b, bs[j]? = some b := ⟨_, List.getElem?_eq_getElem (by omega)⟩
        obtain ⟨wd, e, hw⟩ := hbs j b hb
        rw [hj] at e
        cases e
        exact hw.mp (h b (List.mem_of_getElem? hb))
      · intro h b hb
        obtain ⟨j, hj⟩ := List.mem_iff_getElem?.mp hb
        obtain ⟨wd, e, hw⟩ := hbs j b hj
        exact hw.mpr (h wd (List.mem_of_getElem? e))
/-! ### needless_rows -/
theorem cutV_take (xs : List V) (i : Nat) : cutV xs none (some (i : Int)) = xs.take i := by
  unfold cutV
  rw [HT.sIx_none, HT.sIx_nat, List.drop_zero, Nat.sub_zero]
  exact (List.take_eq_take_iff.mpr (by omega))
theorem cutV_drop (xs : List V) (i : Nat) : cutV xs (some (i : Int)) none = xs.drop i := by
  unfold cutV
  rw [HT.sIx_none, HT.sIx_nat]
  by_cases h : i ≤ xs.length
  · rw [Nat.min_eq_left h]
    exact List.take_of_length_le (by rw [List.length_drop]; exact Nat.le_refl _)
  · rw [Nat.min_eq_right (by omega), List.drop_of_length_le (Nat.le_refl _), List.drop_of_length_le (by omega), List.take_nil]
theorem npI {σ : L2.St} {H : Hp} {Q : Option Int → Hp → Prop} (h : Q none H) : tNoPart σ H Q := h
theorem cutV_whole {xs : List V} {lo hi : Option Int} (h : HT.sIx xs.length 0 lo = 0 ∧ HT.sIx xs.length xs.length hi = xs.length) : cutV xs lo hi = xs := by
  unfold cutV
  rw [h.1, h.2, List.drop_zero, Nat.sub_zero, List.take_length]
theorem rslA_all {t : Addr} {xs : List V} {lo hi : Option Int} {H : Hp} {Q : VK} (h : SqT K H t xs) (q : ∀ H' p, Same H H' → SqT K H' p (cutV xs lo hi) → Q (.ref p) H') : rSlA K (.ref t) lo hi H Q :=
  ⟨t, xs, rfl, h, fun hw => q H t (Same.refl _) (by rw [cutV_whole hw]; exact h), fun _ p np => q _ p (same_upd np) (.inl (.inl upd_same))⟩
theorem RowsAt.cut {H : Hp} {m : Nat} {rs : List V} {ws : List (List Nat)} (R : RowsAt CR H m rs ws) (i : Nat) : RowsAt CR H m (rs.take i ++ rs.drop (i + 1)) (ws.eraseIdx i) := by
  have e : ws.eraseIdx i = ws.take i ++ ws.drop (i + 1) := List.eraseIdx_eq_take_drop_succ ws i
  have lr := R.len
  rw [e]
  refine ⟨by rw [List.length_append, List.length_append, List.length_take, List.length_take, List.length_drop, List.length_drop, lr], fun j r h => ?_⟩
  have l1 : (rs.take i).length = (ws.take i).length := by rw [List.length_take, List.length_take, lr]
  by_cases hj : j < (rs.take i).length
  · rw [List.getElem?_append_left hj, List.getElem?_take] at h
    rw [List.getElem?_append_left (by omega), List.getElem?_take]
    have hji : j < i := by rw [List.length_take] at hj; omega
    rw [if_pos hji] at h ⊢
    exact R.at_ j r h
  · rw [List.getElem?_append_right (by omega), List.getElem?_drop] at h
    rw [List.getElem?_append_right (by omega), List.getElem?_drop, ← l1]
    exact R.at_ _ r h
def spNe (K : PySem.W.Frag) (CL CR : Addr) : Sp := fun vs H Q _ => ∃ (v : V) (m : Nat) (ws : List (List Nat)), vs = [v] ∧ LotAt CL CR H m ws v ∧ (∀ i, i < ws.length → Okl (ws.eraseIdx i)) ∧ (∀ x ∈ ws, x.length ≤ 100) ∧ ws.length ≤ 50 ∧
  ∀ H' r (bs : Nat → Bool), Same H H' → (∀ i wd, ws[i]? = some wd → (bs i = true ↔ Acc (ws.eraseIdx i) wd)) → Dt K H' r (.tuple (((List.range ws.length).filter bs).map fun i : Nat => .int (i : Int))) → Q r H'
theorem scNe : FnScope ["lot", "found", "at", "own", "others"] ["lot"] (defScope (top 50)) := ⟨rfl, rfl, rfl, by decide +kernel, rfl, by decide +kernel, by decide +kernel⟩
theorem xc_needless (T : Tx K mg CF CR CL) : CalX P w K mg base 7 "needless_rows" ["lot"] (top 50) (spNe K CL CR) := by
  refine calx T.needless_rows scNe (fun vs H Q E h => ?_) (fun _ _ _ _ _ _ us hl => match us, hl with | [_], _ => rfl) fun f cdv A outer s H vs Q E hr h => ?_
  · obtain ⟨_, _, _, rfl, _⟩ := h; rfl
  · obtain ⟨v, m, ws, rfl, hlot, ok, hws, l50, q⟩ := h
    refine ⟨_, pss_cons (ps_expr (pe_c (c_check T) hr (by decide) rfl (pa_cons (pv 0) pa_nil)))
      (pss_cons (ps_set (i := 1) scNe.nd rfl (.inl rfl) (pe_lst pa_nil))
      (pss_cons (ps_for PassesOwn.never rfl (pi_enumT rfl (T.nb "enumerate") (pa_cons (pe_pr (c_changes T) hr (by decide) (pv 0)) pa_nil)) (pg_tup rfl (pgs_cons (pg_name (i := 2) scNe.nd rfl (.inl rfl)) (pgs_cons (pg_name (i := 3) scNe.nd rfl (.inl rfl)) pgs_nil)))
        (pss_cons (ps_set (i := 4) scNe.nd rfl (.inl rfl) (pe_tup (StX.pa_star (pe_slice sl_tupA (pe_pr (c_changes T) hr (by decide) (pv 0)) po_none (po_some (pv 2))) (StX.pa_star (pe_slice sl_tupA (pe_pr (c_changes T) hr (by decide) (pv 0)) (po_some (pe_op op_add (pv 2) pe_int)) po_none) pa_nil))))
        (pss_one (ps_if (pt_val (pe_c (c_form_has T) hr (by decide) rfl (pa_cons (pe_c (c_row_form_of T) hr (by decide) rfl (pa_cons (pv 4) pa_nil)) (pa_cons (pe_pr (c_word T) hr (by decide) (pv 3)) pa_nil))))
          (pss_one (ps_expr (pe_bm PySem.F.plainAttrs_list PySem.F.slot_list_append PySem.F.type_list_append mt_append (pv 1) (pa_cons (pv 2) pa_nil)))) pss_nil))))
      (pss_one (ps_ret (pe_tupleOf rfl (T.nb "tuple") (pv 1)))))), ?_⟩
    obtain ⟨a, dx, t, z, rs, ev, ha, ht, R⟩ := id hlot
    have lr := R.len
    refine ⟨_, rfl, v, m, ws, rfl, hlot, Nat.zero_le _, fun p np => ?_⟩
    have s0 := same_upd (o := .lst []) np
    refine ⟨_, rfl, a, dx, _, ev, s0 _ _ ha, a, dx, t, z, rfl, s0 _ _ ha, t, rs, rfl, .inl (.inl (s0 _ _ ht)), for_it (walk_enT (xs := rs)) (fun i σ H' => ∃ y2 y3 y4, ∃ bs : Nat → Bool, σ = [some v, some (.ref p), y2, y3, y4] ∧ Same H H' ∧ H' p = some (.lst (nts ((List.range i).filter bs))) ∧ ∀ j wd, j < i → ws[j]? = some wd → (bs j = true ↔ Acc (ws.eraseIdx j) wd))
      ⟨none, none, none, fun _ => false, rfl, s0, upd_same, fun _ _ h => absurd h (Nat.not_lt_zero _)⟩ (fun i σ H' _ hp => ?_) ?_ ?_⟩
    · obtain ⟨_, _, _, _, _, sm, _⟩ := hp
      exact .inl (.inl (sm _ _ ht))
    · rintro i x σ H0 H1 hi ⟨y2, y3, y4, bs, rfl, sm, hp, hbs⟩ ⟨Tp, x1, x2, rfl, nT, rfl, e1, e2⟩
      cases e1
      have s1 := sm.trans (same_upd (o := .tup [.int (i : Nat), x2]) nT)
      have hp1 := same_upd (o := .tup [.int (i : Nat), x2]) nT _ _ hp
      obtain ⟨wd, hwd, hrow⟩ := R.at_ i x2 e2
      refine ⟨Tp, _, rfl, .inl (.inl upd_same), rfl, _, _, rfl, _, _, rfl, rfl, ?_⟩
      have ha1 := s1 _ _ ha
      refine ⟨_, rfl, a, dx, _, ev, ha1, a, dx, t, z, rfl, ha1, _, rfl, (i : Int), rfl, rslA_all (.inl (.inl (s1 _ _ ht))) fun H2 p2 s2 h2 => ⟨p2, _, rfl, .inl h2, ?_⟩⟩
      refine ⟨_, rfl, a, dx, _, ev, s2 _ _ ha1, a, dx, t, z, rfl, s2 _ _ ha1, _, rfl, _, _, rfl, rfl, ((i + 1 : Nat) : Int), rfl, npI ?_⟩
      refine rslA_all (.inl (.inl (s2 _ _ (s1 _ _ ht)))) fun H3 p3 s3 h3 => ⟨p3, _, rfl, .inl h3, ?_, fun p4 n4 => ?_⟩
      · rw [cutV_take, cutV_drop, List.append_nil, List.length_append, List.length_take, List.length_drop]
        exact Nat.le_trans (m := 100) (by omega) (by decide)
      · rw [cutV_take, cutV_drop, List.append_nil]
        have s4 := (s1.trans (s2.trans s3)).trans (same_upd (o := .tup (rs.take i ++ rs.drop (i + 1))) n4)
        have t4 := (s2.trans s3).trans (same_upd (o := .tup (rs.take i ++ rs.drop (i + 1))) n4)
        have hi2 : i < ws.length := by omega
        refine ⟨_, rfl, p4, m, _, ws.eraseIdx i, rfl, .inl (.inl upd_same), (R.cut i).go s4, ok i hi2, fun H5 r F s5 hr5 fF => ?_⟩
        obtain ⟨a1, dx1, ex1, h1'⟩ := hrow.go (s4.trans s5)
        refine ⟨_, rfl, a1, dx1, _, ex1, h1', _, m, wd, rfl, ⟨a1, dx1, rfl, h1'⟩, r, F, ws.eraseIdx i, wd, rfl, hr5, fF, Nat.le_trans (hws wd (List.mem_of_getElem? hwd)) (by decide), fun H6 b s6 hb => ⟨b, rfl, ?_⟩⟩
        have s7 := s4.trans (s5.trans s6)
        have hp7 := s6 _ _ (s5 _ _ (t4 _ _ hp1))
        have er : ∀ bs' : Nat → Bool, (∀ j, j < i → bs' j = bs j) → (List.range (i + 1)).filter bs' = (List.range i).filter bs ++ if bs' i = true then [i] else [] := fun bs' h => by
          rw [List.range_succ, List.filter_append]
          congr 1
          · exact List.filter_congr fun j hj => h j (List.mem_range.mp hj)
          · cases hb' : bs' i <;> simp [hb']
        have next : ∀ j wd', j < i + 1 → ws[j]? = some wd' → ((fun j => if j = i then b else bs j) j = true ↔ Acc (ws.eraseIdx j) wd') := fun j wd' hj e => by
          by_cases hji : j = i
          · subst hji
            rw [hwd] at e
            cases e
            simpa using hb
          · have := hbs j wd' (by omega) e
            simpa [hji] using this
        have ef := er (fun j => if j = i then b else bs j) (fun j hj => by simp [Nat.ne_of_lt hj])
        cases b with
        | true =>
          refine iteT ⟨_, rfl, .inl ⟨rfl, _, .inl (.inl hp7)⟩, _, rfl, p, _, _, rfl, rfl, hp7, ?_, _, _, _, fun j => if j = i then true else bs j, rfl, s7.set np, ?_, next⟩
          · rw [List.length_map]
            have := List.length_filter_le bs (List.range i)
            rw [List.length_range] at this
            exact Nat.lt_of_le_of_lt (m := 50) (by omega) (by decide)
          · rw [upd_same, ef]
            simp [nts]
        | false =>
          refine iteF ⟨_, _, _, fun j => if j = i then false else bs j, rfl, s7, ?_, next⟩
          rw [ef]
          simpa [nts] using hp7
    · rintro σ H1 ⟨y2, y3, y4, bs, rfl, sm, hp, hbs⟩
      refine ⟨_, rfl, .inl ⟨p, _, rfl, .inl (.inl hp), fun t9 n9 => q _ (.ref t9) bs (sm.trans (same_upd n9)) (fun i wd h => hbs i wd (by have := (List.getElem?_eq_some_iff.mp h).1; omega) h) ?_⟩⟩
      rw [← lr]
      have key : ∀ l : List Nat, DtAll K (upd H1 t9 (.tup (nts ((List.range rs.length).filter bs)))) (nts l) (l.map fun i : Nat => .int (i : Int)) := by
        intro l
        induction l with
        | nil => exact .nil
        | cons c r ih => exact .cons (.int _) ih
      exact .tup (.inl (.inl upd_same)) (key _)
theorem c_same_rows (T : Tx K mg CF CR CL) : Cal P w K mg base 8 "same_rows" (spSm K CL CR) := (xc_same_rows T).cal
theorem c_rows_within (T : Tx K mg CF CR CL) : Cal P w K mg base 8 "rows_within" (spWi K CL CR) := (xc_rows_within T).cal
theorem c_needless (T : Tx K mg CF CR CL) : Cal P w K mg base 7 "needless_rows" (spNe K CL CR) := (xc_needless T).cal
end
end G1
set_option Elab.async false
set_option linter.all false
set_option maxRecDepth 100000
set_option maxHeartbeats 4000000
/-! text[::-1] -/
namespace G1
open PySem PySem.Spec PyProof.Rows L2
theorem step_rev_tx (x : List Nat) (u : Tok) : Txt.sliceBy (tx x) none none (-1, u) = tx x.reverse := by
  have z := step_rev_list (tx x) u
  have e : (Txt.sliceBy (tx x) none none (-1, u)).cps.toList = x.reverse := by
    rw [z]
    apply List.ext_getElem?
    intro i
    rw [List.getElem?_map]
    by_cases h : i < x.length
    · rw [List.getElem?_range (by rw [tx_len]; exact h), List.getElem?_reverse h, Option.map_some, tx_len]
      have hl : x.length - 1 - i < x.length := by omega
      rw [List.getElem?_eq_getElem hl]
      show some (x.toArray.getD (x.length - 1 - i) 0) = _
      simp [Array.getD, hl]
    · rw [List.getElem?_eq_none (by rw [List.length_range, tx_len]; omega), List.getElem?_eq_none (by rw [List.length_reverse]; omega)]
      rfl
  show _ = (⟨x.reverse.toArray⟩ : Str)
  rw [← e]
def tRevT (te : TE) : TE := fun σ H Q => te σ H fun v H1 => ∃ x : List Nat, v = .str (tx x) ∧ x.length ≤ sizeLine ∧ Q (.str (tx x.reverse)) H1
theorem pe_revT {X : Cx} {e : Expr} {te : TE} {k : Nat} {p1 p2 p3 pos : Pos} (he : PE X e te) : PE X (.Subscript e (.Slice none none (some (.UnaryOp .USub (.Constant (.int 1) k p1) p2)) p3) pos) (tRevT te) := by
  refine ⟨fun pins s σ H Q I h => ?_⟩
  refine Subscript_ (thn (he.run pins s σ H _ I h) fun v s1 ⟨x, H1, I1, r1, q1⟩ => ?_)
  obtain ⟨xs, ex, hz, q⟩ := q1
  subst ex
  obtain ⟨tk, rfl⟩ := (show ∃ t, v = Value.str (tx xs) t from r1)
  have hst : PO X (some (.UnaryOp .USub (.Constant (.int 1) k p1) p2)) (tPart (tUn (rU fun i => .int (-i)) (tC (.int 1)))) := po_some (pe_un un_neg pe_int)
  refine wpAny_Slice (thn (po_none.run pins s1 σ H1 (fun o H2 => o = none ∧ H2 = H1) I1 ⟨rfl, rfl⟩) fun vl s2 ⟨l, H2, I2, pl, el, e2⟩ => ?_)
  subst el e2
  refine thn (po_none.run pins s2 σ H2 (fun o H3 => o = none ∧ H3 = H2) I2 ⟨rfl, rfl⟩) fun vu s3 ⟨u, H3, I3, pu, eu, e3⟩ => ?_
  subst eu e3
  refine thn (hst.run pins s3 σ H3 (fun o H4 => o = some (-1) ∧ H4 = H3) I3 ⟨1, rfl, -1, rfl, rfl, rfl⟩) fun vs s4 ⟨o, H4, I4, ps, eo, e4⟩ => ?_
  subst eo e4
  have I5 : Inv X pins σ H4 { s4 with heap := s4.heap.push { cls := .type "slice", data := .fields #[vl, vu, vs] } } := I4.kept (t' := s4.toks) fun b ob q => Heap.get?_push_of_some _ q
  obtain ⟨l0, rfl, hl0⟩ := IsPart.raw pl
  obtain ⟨u0, rfl, hu0⟩ := IsPart.raw pu
  obtain ⟨v0, rfl, hv0⟩ := IsPart.raw ps
  have el : l0 = none := by cases l0 with | none => rfl | some _ => cases hl0
  have eu : u0 = none := by cases u0 with | none => rfl | some _ => cases hu0
  subst el eu
  obtain ⟨tk2, rfl⟩ : ∃ t, v0 = some (-1, t) := by
    cases v0 with
    | none => cases hv0
    | some q =>
      obtain ⟨a, b⟩ := q
      have : a = -1 := by injection hv0 with h; first | exact h.symm | skip
      exact ⟨b, by rw [this]⟩
  show wpAny (model X.prog X.w) X.A (subscriptTail e (.Slice none none (some (.UnaryOp .USub (.Constant (.int 1) k p1) p2)) p3) (.str (tx xs) tk) (.ref s4.heap.objs.size)) (EP X pins σ Q) X.xe _
  refine tail_any (ops := [.ref s4.heap.objs.size, .str (tx xs) tk]) (T := "str") (typeIs_str _ _ _) F.slot_str_getitem.lookup ?_ (by with_unfolding_all rfl)
  refine wpAny_getItem_str_slice (l := none) (u := none) (st := some (-1, tk2)) ⟨_, Heap.get?_push_size _ rfl, rfl, rfl⟩ rfl ?_
  refine post_val_or_str ⟨Nat.le_trans (Txt.sliceBy_le (tx xs) none none (-1, tk2) (by show (-1 : Int) ≠ 0; decide)) (by rw [tx_len]; exact hz), fun t' c => ?_⟩
  refine ⟨.str (tx xs.reverse), H4, (I5.tok c), ?_, q⟩
  exact ⟨t', by rw [← step_rev_tx xs tk2]; rfl⟩
end G1
set_option Elab.async false
set_option linter.all false
set_option maxRecDepth 100000
set_option maxHeartbeats 4000000
/-! the law: the till, coins, words -/
namespace G1
open PySem PySem.Spec PyProof.Rows L2
open PySem.W (Datum DatumOrd T3 T4 Tup)
/-- what the law draws from -/
def Till (H : Hp) (T : Addr) : Prop := ∃ a b c : Int, H T = some (.lst [.int a, .int b, .int c]) ∧ 0 ≤ a
/-- all but the till stays -/
structure Og (T : Addr) (H H' : Hp) : Prop where
  off : ∀ b o, b ≠ T → H b = some o → H' b = some o
  till : Till H' T
theorem Og.trans {T : Addr} {H H1 H' : Hp} (x : Og T H H1) (y : Og T H1 H') : Og T H H' := ⟨fun b o h e => y.off b o h (x.off b o h e), y.till⟩
theorem Og.same {T : Addr} {H H1 H' : Hp} (x : Og T H H1) (s : Same H1 H') : Og T H H' := ⟨fun b o h e => s _ _ (x.off b o h e), let ⟨a, b, c, e, h⟩ := x.till; ⟨a, b, c, s _ _ e, h⟩⟩
theorem Og.of {T : Addr} {H H' : Hp} (t : Till H T) (s : Same H H') : Og T H H' := ⟨fun b o _ e => s _ _ e, let ⟨a, b, c, e, h⟩ := t; ⟨a, b, c, s _ _ e, h⟩⟩
theorem Og.refl {T : Addr} {H : Hp} (t : Till H T) : Og T H H := .of t (Same.refl _)
theorem Till.lst {H : Hp} {T : Addr} (t : Till H T) : ∃ xs, H T = some (.lst xs) := let ⟨_, _, _, e, _⟩ := t; ⟨_, e⟩
/-- a new place, or one that was none at the start -/
theorem Og.set {T : Addr} {H H' : Hp} {p : Addr} {o : HO} (x : Og T H H') (n : H p = none) (h : p ≠ T) : Og T H (upd H' p o) := by
  refine ⟨fun b u hb e => ?_, ?_⟩
  · rw [upd_ne (ne_of_none e n)]
    exact x.off b u hb e
  · obtain ⟨a, b, c, e, h0⟩ := x.till
    exact ⟨a, b, c, by rw [upd_ne h.symm]; exact e, h0⟩
theorem Og.free {T : Addr} {H H' : Hp} {p : Addr} (x : Og T H H') (n : H' p = none) : H p = none := by
  cases q : H p with
  | none => rfl
  | some o =>
    have hp : p ≠ T := fun e => by
      obtain ⟨xs, h⟩ := x.till.lst
      rw [e, h] at n
      cases n
    rw [x.off p o hp q] at n
    cases n
section
variable {P : Program} {w : World} {K : PySem.W.Frag} {mg : Str → Option Value} {base : Heap} {CF CR CL : Addr}
theorem og_kp {T : Addr} {H H' : Hp} (x : Og T H H') (t : Till H T) : Kp K H H' := fun a xs q => by
  obtain ⟨ys, h⟩ := t.lst
  rcases q with (q | ⟨o, q⟩) | q
  · exact .inl (.inl (x.off _ _ (ne_of q h (fun z => nomatch z)) q))
  · exact .inl (.inr ⟨o, x.off _ _ (ne_of q h (fun z => nomatch z)) q⟩)
  · exact .inr q
def spPay : Sp := fun vs H Q _ => ∃ (T : Addr) (u : Nat), vs = [.ref T, .int u] ∧ Till H T ∧ 1 ≤ u ∧ u ≤ 100000 ∧ ∀ H' (r : Nat), Og T H H' → r < u → Q (.int r) H'
theorem scPay : FnScope ["_law_till_here", "_law_upto", "_law_figure", "_law_seed"] ["_law_till_here", "_law_upto"] (defScope (top 53)) := ⟨rfl, rfl, rfl, by decide +kernel, rfl, by decide +kernel, by decide +kernel⟩
theorem c_pay (T : Tx K mg CF CR CL) : Cal P w K mg base 1 "_law_pay" spPay := by
  refine cal T.l_pay scPay (fun vs H Q E h => ?_) (fun _ _ _ _ _ _ us hl => match us, hl with | [_, _], _ => rfl) fun f cdv A outer s H vs Q E hr h => ?_
  · obtain ⟨_, _, rfl, _⟩ := h; rfl
  · obtain ⟨Tl, u, rfl, ⟨a, b, c, hT, ha⟩, hu, hu2, q⟩ := h
    refine ⟨_, pss_cons (ps_if (pt_cmpR op_gt (pe_ix ix_list (pv 0) pe_int (fun _ _ => rfl)) pe_int (nomark _))
        (pss_cons (ps_asg (pe_callB call_divmod (by rfl) (T.nb "divmod") (by decide +kernel) (pa_cons (pe_ix ix_list (pv 0) pe_int (fun _ _ => rfl)) (pa_cons (pv 1) pa_nil)))
          (pg_tup rfl (pgs_cons (pg_sub (pv 0) pe_int set_list) (pgs_cons (pg_name (i := 2) scPay.nd rfl (.inl rfl)) pgs_nil))))
        (pss_one (ps_ret (pv 2)))) pss_nil)
      (pss_cons (ps_asg (pe_op op_add (pe_ix ix_list (pv 0) pe_int (fun _ _ => rfl)) pe_int) (pg_sub (pv 0) pe_int set_list))
      (pss_cons (ps_set (i := 3) scPay.nd rfl (.inl rfl) (pe_op op_mod (pe_callTy call_int1 (by rfl) (T.nb "int") boot_int (pa_cons (pe_op op_add (pe_ix ix_list (pv 0) pe_int (fun _ _ => rfl)) (pe_op op_mul pe_int (pe_ix ix_list (pv 0) pe_int (fun _ _ => rfl)))) pa_nil)) pe_int))
      (pss_cons (ps_asg (pe_op op_mod (pe_callTy call_int1 (by rfl) (T.nb "int") boot_int (pa_cons (pe_op op_add (pe_op op_add (pe_op op_mul (pv 3) (pe_op op_add (pe_op op_mod (pe_callTy call_int1 (by rfl) (T.nb "int") boot_int (pa_cons (pv 3) pa_nil)) pe_int) pe_int)) (pe_op op_mul pe_int (pe_ix ix_list (pv 0) pe_int (fun _ _ => rfl)))) pe_int) pa_nil)) pe_int) (pg_sub (pv 0) pe_int set_list))
      (pss_one (ps_ret (pe_op op_mod (pe_callTy call_int1 (by rfl) (T.nb "int") boot_int (pa_cons (pe_op op_fdiv (pe_ix ix_list (pv 0) pe_int (fun _ _ => rfl)) pe_int) pa_nil)) (pv 1))))))), ?_⟩
    have up : ∀ {H' : Hp} {a' b' c' : Int}, 0 ≤ a' → (∀ b o, b ≠ Tl → H b = some o → H' b = some o) → Og Tl H (upd H' Tl (.lst [.int a', .int b', .int c'])) := fun h0 off => ⟨fun b o hb e => by rw [upd_ne hb]; exact off b o hb e, _, _, _, upd_same, h0⟩
    refine ⟨_, rfl, Tl, _, 0, _, rfl, rfl, .inl (.inl hT), rfl, _, _, rfl, rfl, _, rfl, ?_⟩
    refine ite2 (fun h => ?_) (fun h => ?_)
    · refine ⟨_, rfl, Tl, _, 0, _, rfl, rfl, .inl (.inl hT), rfl, _, rfl, a, u, rfl, ⟨by omega, by omega⟩, fun p np => ?_⟩
      have nTp : Tl ≠ p := ne_of_none hT np
      have hT2 : (upd H p (.tup [.int (a / u), .int (a % u)])) Tl = some (.lst [.int a, .int b, .int c]) := by rw [upd_ne nTp]; exact hT
      refine ⟨p, _, rfl, .inl (.inl upd_same), rfl, _, _, rfl, _, rfl, Tl, _, 0, 0, rfl, rfl, hT2, rfl, _, _, rfl, rfl, _, rfl, ?_⟩
      have hr0 : 0 ≤ a % (u : Int) := Int.emod_nonneg _ (by omega)
      have hr1 : a % (u : Int) < u := Int.emod_lt_of_pos _ (by omega)
      have e : (a % (u : Int)) = ((a % (u : Int)).toNat : Int) := (Int.toNat_of_nonneg hr0).symm
      rw [e]
      refine q _ _ (up (Int.ediv_nonneg ha (by omega)) fun b' o hb e => ?_) (by omega)
      rw [upd_ne (ne_of_none e np)]
      exact e
    · refine ⟨_, rfl, Tl, _, 2, _, rfl, rfl, .inl (.inl hT), rfl, _, _, rfl, rfl, _, rfl, Tl, _, 2, 2, rfl, rfl, hT, rfl, ?_⟩
      have hT2 : (upd H Tl (.lst [.int a, .int b, .int (c + 1)])) Tl = some (.lst [.int a, .int b, .int (c + 1)]) := upd_same
      refine ⟨_, rfl, Tl, _, 1, _, rfl, rfl, .inl (.inl hT2), rfl, _, rfl, Tl, _, 2, _, rfl, rfl, .inl (.inl hT2), rfl, _, _, rfl, rfl, .inl ⟨by decide, by decide⟩, _, _, rfl, rfl, .inl ⟨_, rfl, ?_⟩⟩
      refine ⟨_, _, rfl, rfl, (by show (0 : Int) < 2147483543; decide), ?_⟩
      have s0 : ∀ x : Int, 0 ≤ x % 2147483543 ∧ x % 2147483543 < 2147483543 := fun x => ⟨Int.emod_nonneg _ (by decide), Int.emod_lt_of_pos _ (by decide)⟩
      obtain ⟨q0, q1⟩ := s0 (b + 50021 * (c + 1))
      refine ⟨_, rfl, _, rfl, .inl ⟨_, rfl, ?_⟩⟩
      refine ⟨_, _, rfl, rfl, (by show (0 : Int) < 28001; decide), _, _, rfl, rfl, _, _, rfl, rfl, .inl ⟨?_, ?_⟩, ?_⟩
      · show -(2 ^ 64) < (b + 50021 * (c + 1)) % 2147483543
        omega
      · show (b + 50021 * (c + 1)) % 2147483543 < 2 ^ 64
        omega
      refine ⟨_, rfl, Tl, _, 2, _, rfl, rfl, .inl (.inl hT2), rfl, _, _, rfl, rfl, .inl ⟨by decide, by decide⟩, _, _, rfl, rfl, _, _, rfl, rfl, .inl ⟨_, rfl, ?_⟩⟩
      refine ⟨_, _, rfl, rfl, (by show (0 : Int) < 2147483543; decide), _, rfl, Tl, _, 1, 1, rfl, rfl, hT2, rfl, ?_⟩
      refine ⟨_, rfl, Tl, _, 1, _, rfl, rfl, .inl (.inl upd_same), rfl, _, _, rfl, rfl, ⟨by decide, by decide⟩, .inl ⟨_, rfl, ?_⟩⟩
      refine ⟨_, rfl, _, _, rfl, rfl, (by show (0 : Int) < u; omega), ?_⟩
      have key : ∀ x y : Int, Q (.int (x % (u : Int))) (upd (upd H Tl (.lst [.int a, .int b, .int (c + 1)])) Tl (.lst [.int a, .int y, .int (c + 1)])) := fun x y => by
        have hr0 : 0 ≤ x % (u : Int) := Int.emod_nonneg _ (by omega)
        have hr1 : x % (u : Int) < u := Int.emod_lt_of_pos _ (by omega)
        have e : (x % (u : Int)) = ((x % (u : Int)).toNat : Int) := (Int.toNat_of_nonneg hr0).symm
        rw [e]
        refine q _ _ (up ha fun b' o hb e => ?_) (by omega)
        rw [upd_ne hb]
        exact e
      exact key _ _
/-! ### _law_coin -/
def spCoin (K : PySem.W.Frag) : Sp := fun vs H Q _ => ∃ (T : Addr) (v : V), vs = [.ref T, v] ∧ Till H T ∧
  ((∃ z : List Nat, v = .str (tx z) ∧ 1 ≤ z.length ∧ z.length ≤ 1000 ∧ ∀ H' (i : Nat) c, Og T H H' → z[i]? = some c → Q (.str (chS c)) H') ∨
   (∃ (l : Addr) (xs : List V), v = .ref l ∧ l ≠ T ∧ H l = some (.lst xs) ∧ 1 ≤ xs.length ∧ xs.length ≤ 1000 ∧ ∀ H' (i : Nat) x, Og T H H' → xs[i]? = some x → Q x H'))
theorem scCoin : FnScope ["_law_till_here", "_law_things"] ["_law_till_here", "_law_things"] (defScope (top 54)) := ⟨rfl, rfl, rfl, by decide +kernel, rfl, by decide +kernel, by decide +kernel⟩
theorem c_coin (T : Tx K mg CF CR CL) : Cal P w K mg base 2 "_law_coin" (spCoin K) := by
  refine cal T.l_coin scCoin (fun vs H Q E h => ?_) (fun _ _ _ _ _ _ us hl => match us, hl with | [_, _], _ => rfl) fun f cdv A outer s H vs Q E hr h => ?_
  · obtain ⟨_, _, rfl, _⟩ := h; rfl
  · obtain ⟨Tl, v, rfl, hT, h⟩ := h
    refine ⟨_, pss_one (ps_ret (pe_ix ix_seq (pv 1) (pe_c (c_pay T) hr (by decide) rfl (pa_cons (pv 0) (pa_cons (pe_callB call_len (by rfl) (T.nb "len") boot_len (pa_cons (pv 1) pa_nil)) pa_nil))) (fun _ _ => rfl))), ?_⟩
    rcases h with ⟨z, rfl, h1, h2, q⟩ | ⟨l, xs, rfl, hl, hL, h1, h2, q⟩
    · refine ⟨_, rfl, _, rfl, _, rfl, _, z.length, rfl, ⟨by rw [tx_len]; exact Nat.le_trans h2 (by decide), (tx_len z).symm⟩, Tl, z.length, rfl, hT, h1, by omega, fun H' r og hr' => ?_⟩
      have e : z[r]? = some z[r] := List.getElem?_eq_getElem hr'
      refine .inr (.inr ⟨tx z, r, z[r], rfl, rfl, by rw [tx_len]; exact Nat.le_trans h2 (by decide), atI_nat ?_, q H' r z[r] og e⟩)
      show z.toArray.toList[r]? = _
      rw [List.toList_toArray]
      exact e
    · refine ⟨_, rfl, _, rfl, _, rfl, _, xs.length, rfl, .inl ⟨xs, .inl (.inl hL), rfl⟩, Tl, xs.length, rfl, hT, h1, by omega, fun H' r og hr' => ?_⟩
      have e : xs[r]? = some xs[r] := List.getElem?_eq_getElem hr'
      exact .inl ⟨l, xs, r, xs[r], rfl, rfl, .inl (.inl (og.off _ _ hl hL)), atI_nat e, q H' r _ og e⟩
/-! ### _law_flip, _law_struck, _law_undo -/
theorem flip_lt {c : Nat} (h : Lt c) : (if lw c = true then Txt.upper (chS c) else Txt.lower (chS c)) = chS (sw c) := by
  have key : ∀ c : Nat, c < 123 → (65 ≤ c ∧ c ≤ 90 ∨ 97 ≤ c ∧ c ≤ 122) → (if lw c = true then Txt.upper (chS c) else Txt.lower (chS c)) = chS (sw c) := by decide +kernel
  rcases h with h | h
  · unfold Small at h; exact key c (by omega) (.inr h)
  · unfold Big at h; exact key c (by omega) (.inl h)
theorem scFl : FnScope ["_law_sign"] ["_law_sign"] (defScope (top 55)) := ⟨rfl, rfl, rfl, by decide +kernel, rfl, by decide +kernel, by decide +kernel⟩
theorem c_flip (T : Tx K mg CF CR CL) : Cal P w K mg base 1 "_law_flip" spUL := by
  refine cal T.l_flip scFl (fun vs H Q E h => ?_) (fun _ _ _ _ _ _ us hl => match us, hl with | [_], _ => rfl) fun f cdv A outer s H vs Q E hr h => ?_
  · obtain ⟨_, rfl, _⟩ := h; rfl
  · obtain ⟨c, rfl, hc, q⟩ := h
    refine ⟨_, pss_one (ps_ret (pe_ifExp (pt_val (pe_m0 PySem.F.slot_str_islower PySem.F.type_str_islower mt_islower (pv 0))) (pe_upper (pv 0)) (pe_lower (pv 0)))), ?_⟩
    refine ⟨_, rfl, ⟨_, rfl⟩, _, rfl, rfl, trivial, _, rfl, ?_⟩
    rw [islow hc]
    have hf := flip_lt hc
    refine ite2 (fun hb => ?_) (fun hb => ?_)
    · rw [if_pos hb] at hf
      exact ⟨_, rfl, ⟨_, rfl⟩, _, rfl, rfl, (by show 1 ≤ _; decide), by rw [hf]; exact q⟩
    · rw [if_neg hb] at hf
      exact ⟨_, rfl, ⟨_, rfl⟩, _, rfl, rfl, (by show 1 ≤ _; decide), by rw [hf]; exact q⟩
def spLS : Sp := fun vs H Q _ => ∃ wd, vs = [.str (tx wd)] ∧ LW wd ∧ wd.length ≤ 1000 ∧ Q (.str (tx (strk wd))) H
theorem scLS : FnScope ["_law_word", "_law_left", "_law_sign"] ["_law_word"] (defScope (top 56)) := ⟨rfl, rfl, rfl, by decide +kernel, rfl, by decide +kernel, by decide +kernel⟩
theorem sIx_neg1 (n : Nat) (d : Nat) : HT.sIx n d (some (-1)) = n - 1 := by
  unfold HT.sIx
  simp
  omega
theorem cut_last (f : List Nat) : cutS (tx f) (some (-1)) none = tx (f.drop (f.length - 1)) := by
  unfold cutS
  rw [sIx_neg1, HT.sIx_none, tx_len]
  show (⟨_⟩ : Str) = ⟨_⟩
  congr 1
  show ((f.toArray.toList.drop _).take _).toArray = _
  rw [List.toList_toArray, List.take_of_length_le (by rw [List.length_drop]; exact Nat.le_refl _)]
theorem cut_init (f : List Nat) : cutS (tx f) none (some (-1)) = tx f.dropLast := by
  unfold cutS
  rw [sIx_neg1, HT.sIx_none, tx_len]
  show (⟨_⟩ : Str) = ⟨_⟩
  congr 1
  show ((f.toArray.toList.drop 0).take _).toArray = _
  rw [List.toList_toArray, List.drop_zero, Nat.sub_zero, List.dropLast_eq_take]
theorem tx_inj {a b : List Nat} (h : tx a = tx b) : a = b := by
  unfold tx at h
  injection h with h
  have := congrArg Array.toList h
  simpa using this
theorem last_iff (f : List Nat) (c : Nat) : tx (f.drop (f.length - 1)) = chS c ↔ f.getLast? = some c := by
  have e : chS c = tx [c] := rfl
  rw [e]
  constructor
  · intro h
    have h2 := tx_inj h
    rw [List.getLast?_eq_getElem?]
    have h3 := congrArg (fun l : List Nat => l[0]?) h2
    simpa using h3
  · intro h
    obtain ⟨r, rfl⟩ := List.getLast?_eq_some_iff.mp h
    congr 1
    simp
theorem c_lstruck (T : Tx K mg CF CR CL) : Cal P w K mg base 2 "_law_struck" spLS := by
  refine cal T.l_struck scLS (fun vs H Q E h => ?_) (fun _ _ _ _ _ _ us hl => match us, hl with | [_], _ => rfl) fun f cdv A outer s H vs Q E hr h => ?_
  · obtain ⟨_, rfl, _⟩ := h; rfl
  · obtain ⟨wd, rfl, hw, hl, q⟩ := h
    refine ⟨_, pss_cons (ps_set (i := 1) scLS.nd rfl (.inl rfl) pe_str)
      (pss_cons (ps_for PassesOwn.never rfl (pi_str (pv 0)) (pg_name (i := 2) scLS.nd rfl (.inl rfl))
        (pss_one (ps_set (i := 1) scLS.nd rfl (.inl rfl) (pe_ifExp (pt_cmpR op_eq (pe_slice sl_str (pv 1) (po_some (pe_un un_neg pe_int)) po_none) (pe_c (c_flip T) hr (by decide) rfl (pa_cons (pv 2) pa_nil)) (nomark _))
          (pe_slice sl_str (pv 1) po_none (po_some (pe_un un_neg pe_int))) (pe_op op_add_str (pv 1) (pv 2))))))
      (pss_one (ps_ret (pv 1)))), ?_⟩
    refine ⟨_, rfl, _, rfl, for_it walk_str (fun i σ H' => ∃ y, σ = [some (.str (tx wd)), some (.str (tx (strk (wd.take i)))), y] ∧ H' = H) ⟨none, rfl, rfl⟩ (fun _ _ _ _ _ => trivial) ?_ ?_⟩
    · rintro i x σ H0 H1 hi ⟨y, rfl, rfl⟩ ⟨rfl, c, hc, rfl⟩
      have hc' : wd[i]? = some c := by simpa [tx] using hc
      have hlt : Lt c := hw c (List.mem_of_getElem? hc')
      have hfl : (strk (wd.take i)).length ≤ 1000 := by
        have z := strk_len (wd.take i) []
        rw [List.length_take] at z
        unfold strk
        simp at z
        omega
      have et : strk (wd.take (i + 1)) = spS (strk (wd.take i)) c := strk_take hc'
      refine ⟨_, rfl, _, rfl, -1, rfl, _, rfl, by rw [tx_len]; exact Nat.le_trans hfl (by decide), _, rfl, c, rfl, hlt, rfl, _, rfl, ?_⟩
      rw [cut_last]
      refine ite2 (fun h => ?_) (fun h => ?_)
      · have h2 : (strk (wd.take i)).getLast? = some (sw c) := (last_iff _ _).mp (by
          have := of_decide_eq_true h
          injection this)
        refine ⟨_, rfl, _, rfl, -1, rfl, _, rfl, by rw [tx_len]; exact Nat.le_trans hfl (by decide), some (.str (chS c)), ?_, rfl⟩
        rw [cut_init, et]
        unfold spS
        rw [if_pos h2]
        rfl
      · have h2 : ¬ (strk (wd.take i)).getLast? = some (sw c) := fun e => h (decide_eq_true (congrArg V.str ((last_iff _ _).mpr e)))
        refine ⟨_, rfl, _, rfl, _, _, rfl, rfl, ?_, some (.str (chS c)), ?_, rfl⟩
        · rw [tx_len]
          have e1 : (chS c).length = 1 := rfl
          show _ + (chS c).length ≤ _
          rw [e1]
          exact Nat.le_trans (m := 1001) (by omega) (by decide)
        · rw [et]
          unfold spS
          rw [if_neg h2]
          have e : tx (strk (wd.take i)) ++ (⟨#[c]⟩ : Str) = tx (strk (wd.take i) ++ [c]) := tx_app _ [c]
          rw [e]
          rfl
    · rintro σ H1 ⟨y, rfl, rfl⟩
      have e : wd.take (tx wd).cps.size = wd := by simp [tx]
      rw [e]
      exact ⟨_, rfl, q⟩
/-- turned over and read back -/
def und (w : List Nat) : List Nat := w.reverse.map sw
def spLu : Sp := fun vs H Q _ => ∃ wd, vs = [.str (tx wd)] ∧ LW wd ∧ wd.length ≤ 1000 ∧ ∀ H', Same H H' → Q (.str (tx (und wd))) H'
theorem scLu : FnScope ["_law_word", "_law_sign"] ["_law_word"] (defScope (top 57)) := ⟨rfl, rfl, rfl, by decide +kernel, rfl, by decide +kernel, by decide +kernel⟩
theorem c_lundo (T : Tx K mg CF CR CL) : Cal P w K mg base 2 "_law_undo" spLu := by
  refine cal T.l_undo scLu (fun vs H Q E h => ?_) (fun _ _ _ _ _ _ us hl => match us, hl with | [_], _ => rfl) fun f cdv A outer s H vs Q E hr h => ?_
  · obtain ⟨_, rfl, _⟩ := h; rfl
  · obtain ⟨wd, rfl, hw, hl, q⟩ := h
    refine ⟨_, pss_one (ps_ret (pe_join pe_str (pe_lc (own := [("_law_sign", 1)]) (g := gName 1) (tt := tYes) rfl scLu.nd (pi_str (pe_revT (pv 0))) (blkOk_by (N := ["_law_word", "_law_sign"]) (sc := defScope (top 57)) (by decide +kernel))
      (fun _ _ _ _ _ => pg_name (i := 1) scLu.nd rfl (.inl rfl)) (fun _ _ _ _ _ => pts_nil) (fun _ _ _ _ _ => pe_c (c_flip T) hr (by decide) rfl (pa_cons (pv 1) pa_nil))))), ?_⟩
    have lu : (und wd).length = wd.length := by unfold und; rw [List.length_map, List.length_reverse]
    refine ⟨⟨_, rfl⟩, _, rfl, wd, rfl, Nat.le_trans hl (by decide), _, rfl, fun D nD => lc_it (walk_str (z := tx wd.reverse)) (fun i H' => Same H H' ∧ H' D = some (.lst ((((wd.reverse.take i).map sw).map chS).map V.str))) ⟨same_upd nD, upd_same⟩ (fun _ _ _ _ => trivial) ?_ ?_⟩
    · rintro i x H0 H1 hi ⟨sm, hD⟩ ⟨rfl, c, hc, rfl⟩
      have hc' : wd.reverse[i]? = some c := by simpa [tx] using hc
      have hlt : Lt c := hw c (List.mem_reverse.mp (List.mem_of_getElem? hc'))
      refine ⟨rfl, yesT ?_⟩
      refine ⟨_, rfl, c, rfl, hlt, _, hD, ?_, sm.set nD, ?_⟩
      · rw [List.length_map, List.length_map, List.length_map, List.length_take, List.length_reverse]
        exact Nat.lt_of_le_of_lt (m := 1000) (by omega) (by decide)
      · rw [upd_same, List.take_add_one, hc', List.map_append, List.map_append, List.map_append]
        rfl
    · rintro H1 ⟨sm, hD⟩
      rw [List.take_of_length_le (by show _ ≤ (wd.reverse.toArray).size; simp)] at hD
      refine ⟨_, D, (und wd).map chS, rfl, rfl, .inl (.inl (.inl hD)), ?_, by rw [tx_join]; exact q _ sm⟩
      have e1 : (((und wd).map chS).map (·.length)).sum = (und wd).length := by
        rw [List.map_map]
        have : ((fun x : Str => x.length) ∘ chS) = fun _ => 1 := rfl
        rw [this, List.map_const', List.sum_replicate_nat, Nat.mul_one]
      rw [e1, lu]
      show _ + _ * 0 ≤ _
      omega
end
end G1
set_option Elab.async false
set_option linter.all false
set_option maxRecDepth 100000
set_option maxHeartbeats 4000000
/-! the law's webs: clash, ends, walk -/
namespace G1
open PySem PySem.Spec PyProof.Rows _root_.L2
open PySem.W (Datum DatumOrd T3 T4 Tup)
section
variable {P : Program} {w : World} {K : PySem.W.Frag} {mg : Str → Option Value} {base : Heap} {CF CR CL : Addr}
def iE (k : Kn) (p : Nat × Nat) : Option PyData := (k p.1 p.2).map fun t => .int t.e
theorem iE_put (k : Kn) (q : Tie) (p : Nat × Nat) : (if p = (q.s, q.a) then some (.int q.e) else iE k p) = iE (knPut k q) p := by
  unfold iE knPut
  by_cases e : p = (q.s, q.a)
  · rw [if_pos e, if_pos (by rw [e]; exact ⟨rfl, rfl⟩)]
    rfl
  · rw [if_neg e, if_neg (fun z => e (Prod.ext z.1 z.2))]
/-- all keys are places with letters -/
def NK (kvs : List (List Key × V)) : Prop := ∀ k v, valV kvs k = some v → ∃ p, k = kSL p
theorem NK.put {kvs : List (List Key × V)} (h : NK kvs) (p : Nat × Nat) (v : V) : NK (putK kvs (kSL p) v) := fun k u e => by
  rw [valV_put] at e
  by_cases hk : k = kSL p
  · exact ⟨p, hk⟩
  · rw [if_neg hk] at e
    exact h k u e
theorem upS {c : Nat} (h : c ∈ l4s) : Txt.upper (chS c) = chS (sw c) := by
  rw [up4 h]
  have key : ∀ c ∈ l4s, c - 32 = sw c := by decide
  rw [key c h]
def spLc (K : PySem.W.Frag) : Sp := fun vs H Q _ => ∃ (l : Addr) (fs : List V) (ts : List Tie), vs = [.ref l] ∧ SqL K H l fs ∧ DtAll K H fs (fmD ts) ∧ L4 ts ∧ ts.length ≤ 10000 ∧
  ∀ H' r, Same H H' → Dt K H' r (match G1.clash ts with | none => .tuple [] | some q => .tuple [.int q.1.e, .int q.2.e]) → Q r H'
theorem scLc : FnScope ["_law_ties", "_law_ends_here", "_law_near", "_law_letter", "_law_far", "_law_start", "_law_sign", "_law_stop"] ["_law_ties"] (defScope (top 64)) := ⟨rfl, rfl, rfl, by decide +kernel, rfl, by decide +kernel, by decide +kernel⟩
theorem c_lclash (T : Tx K mg CF CR CL) : Cal P w K mg base 1 "_law_clash" (spLc K) := by
  refine cal T.l_clash scLc (fun vs H Q E h => ?_) (fun _ _ _ _ _ _ us hl => match us, hl with | [_], _ => rfl) fun f cdv A outer s H vs Q E hr h => ?_
  · obtain ⟨_, _, _, rfl, _⟩ := h; rfl
  · obtain ⟨l, fs, ts, rfl, hl, hd, l4, htl, q⟩ := h
    refine ⟨_, pss_cons (ps_set (i := 1) scLc.nd rfl (.inl rfl) pe_dnewT)
      (pss_cons (ps_for PassesOwn.never rfl (pi_list (pv 0)) (pg_tup rfl (pgs_cons (pg_name (i := 2) scLc.nd rfl (.inl rfl)) (pgs_cons (pg_name (i := 3) scLc.nd rfl (.inl rfl)) (pgs_cons (pg_name (i := 4) scLc.nd rfl (.inl rfl)) pgs_nil))))
        (pss_one (ps_for PassesOwn.never rfl (pi_list (pe_lst (pa_cons (pe_tup (pa_cons (pv 2) (pa_cons (pv 3) (pa_cons (pv 4) pa_nil)))) (pa_cons (pe_tup (pa_cons (pv 4) (pa_cons (pe_upper (pv 3)) (pa_cons (pv 2) pa_nil)))) pa_nil))))
          (pg_tup rfl (pgs_cons (pg_name (i := 5) scLc.nd rfl (.inl rfl)) (pgs_cons (pg_name (i := 6) scLc.nd rfl (.inl rfl)) (pgs_cons (pg_name (i := 7) scLc.nd rfl (.inl rfl)) pgs_nil))))
          (pss_cons (ps_if (pt_cmpR op_ne (pe_dget2 (hu_of hr) (pv 1) (pe_tup (pa_cons (pv 5) (pa_cons (pv 6) pa_nil))) (pv 7) ⟨rfl, rfl, rfl, rfl⟩) (pv 7) (nomark _))
            (pss_one (ps_ret (pe_tup (pa_cons (pe_dget (hu_of hr) (pv 1) (pe_tup (pa_cons (pv 5) (pa_cons (pv 6) pa_nil))) (fun _ _ => rfl)) (pa_cons (pv 7) pa_nil))))) pss_nil)
          (pss_one (ps_dput (hu_of hr) (pv 1) (pe_tup (pa_cons (pv 5) (pa_cons (pv 6) pa_nil))) (pv 7) rfl))))))
      (pss_one (ps_ret (pe_tup pa_nil)))), ?_⟩
    refine fun d nd => ?_
    have lf := hd.len
    unfold fmD at lf
    rw [List.length_map] at lf
    refine ⟨_, rfl, l, rfl, ⟨fs, (same_upd nd).seq hl⟩, for_it (walk_list (xs := fs))
      (fun i σ H' => ∃ y2 y3 y4 y5 y6 y7 kvs kn, σ = [some (.ref l), some (.ref d), y2, y3, y4, y5, y6, y7] ∧ Same H H' ∧ H' d = some (.dT kvs) ∧ DM K H' kSL kvs (iE kn) ∧ kvs.length ≤ 2 * i ∧ ck (hf (ts.drop i)) kn = G1.clash ts)
      ⟨none, none, none, none, none, none, [], kn0, rfl, same_upd nd, upd_same, DM.nil, Nat.le_refl _, rfl⟩ (fun i σ H' _ hp => ?_) ?_ ?_⟩
    · obtain ⟨_, _, _, _, _, _, _, _, _, sm, _⟩ := hp
      exact sm.seq hl
    · rintro i x σ H0 H1 hi ⟨y2, y3, y4, y5, y6, y7, kvs, kn, rfl, sm, hdT, D, hk, ec⟩ ⟨rfl, hx⟩
      obtain ⟨t, ht, hdt⟩ := dtAll_map (hd.move (kp_same sm)) hx
      have hit : i < ts.length := by omega
      have ed : ts.drop i = t :: ts.drop (i + 1) := by
        rw [List.drop_eq_getElem_cons hit]
        congr 1
        exact Option.some.inj ((List.getElem?_eq_getElem hit).symm.trans ht)
      rw [ed, hf_cons] at ec
      have ta := l4 t (List.mem_of_getElem? ht)
      obtain ⟨tp, rfl, hts⟩ := k3_inv hdt
      refine ⟨tp, _, rfl, hts, rfl, _, _, rfl, _, _, rfl, _, _, rfl, rfl, ?_⟩
      refine ⟨_, rfl, _, rfl, _, rfl, ln3 _ _ _, fun p1 n1 => ⟨_, rfl, _, rfl, ⟨_, rfl⟩, _, rfl, rfl, (by show 1 ≤ _; decide), _, rfl, ln3 _ _ _, fun p2 n2 => ⟨ln2 _ _, fun pp npp => ?_⟩⟩⟩
      rw [show Txt.upper (chS t.a) = chS (sw t.a) from upS ta] at npp ⊢
      have sm3 := ((same_upd (o := .tup [.int t.s, .str (chS t.a), .int t.e]) n1).trans (same_upd (o := .tup [.int t.e, .str (chS (sw t.a)), .int t.s]) n2)).trans (same_upd (o := .lst [.ref p1, .ref p2]) npp)
      have hq1 := (same_upd (o := .lst [.ref p1, .ref p2]) npp) _ _ ((same_upd (o := .tup [.int t.e, .str (chS (sw t.a)), .int t.s]) n2) _ _ (upd_same (H := H1) (a := p1) (o := .tup [.int t.s, .str (chS t.a), .int t.e])))
      have hq2 := (same_upd (o := .lst [.ref p1, .ref p2]) npp) _ _ (upd_same (H := upd H1 p1 (.tup [.int t.s, .str (chS t.a), .int t.e])) (a := p2) (o := .tup [.int t.e, .str (chS (sw t.a)), .int t.s]))
      refine ⟨pp, rfl, ⟨_, .inl (.inl upd_same)⟩, for_it (walk_list (xs := [.ref p1, .ref p2]))
        (fun j σ H' => ∃ y5 y6 y7 kvs kn, σ = [some (.ref l), some (.ref d), some (.int t.s), some (.str (chS t.a)), some (.int t.e), y5, y6, y7] ∧ Same H H' ∧ H' p1 = some (.tup [.int t.s, .str (chS t.a), .int t.e]) ∧ H' p2 = some (.tup [.int t.e, .str (chS (sw t.a)), .int t.s]) ∧ H' pp = some (.lst [.ref p1, .ref p2]) ∧ H' d = some (.dT kvs) ∧ DM K H' kSL kvs (iE kn) ∧ kvs.length ≤ 2 * i + j ∧ ck (([t, bk t].drop j) ++ hf (ts.drop (i + 1))) kn = G1.clash ts)
        ⟨y5, y6, y7, kvs, kn, rfl, sm.trans sm3, hq1, hq2, upd_same, sm3 _ _ hdT, D.move (kp_same sm3), by omega, ec⟩ (fun j σ H' _ hp => ?_) ?_ ?_⟩
      · obtain ⟨_, _, _, _, _, _, _, _, _, h, _⟩ := hp
        exact .inl (.inl h)
      · rintro j z σ H0 H3 hj ⟨y5, y6, y7, kvs, kn, rfl, sm, hx1, hx2, hpp, hdT, D, hk, ec⟩ ⟨rfl, hz⟩
        obtain ⟨u, pu, rfl, hus, ec2⟩ : ∃ (u : Tie) (pu : Addr), z = .ref pu ∧ H3 pu = some (.tup [.int u.s, .str (chS u.a), .int u.e]) ∧ ck (u :: ([t, bk t].drop (j + 1) ++ hf (ts.drop (i + 1)))) kn = G1.clash ts := by
          have hj2 : j = 0 ∨ j = 1 := by have : [V.ref p1, V.ref p2].length = 2 := rfl; omega
          rcases hj2 with rfl | rfl
          · cases hz; exact ⟨t, p1, rfl, hx1, ec⟩
          · cases hz; exact ⟨bk t, p2, rfl, hx2, ec⟩
        have kl : kvs.length < sizeLine := Nat.lt_of_le_of_lt (m := 30000) (by have : [V.ref p1, V.ref p2].length = 2 := rfl; omega) (by decide)
        have hkb : ∀ {H4 : Hp} {p : Addr}, (upd H4 p (.tup [.int (u.s : Int), .str (chS u.a)])) p = some (.tup ((kSL (u.s, u.a)).map kV)) := upd_same
        refine ⟨pu, _, rfl, .inl (.inl hus), rfl, _, _, rfl, _, _, rfl, _, _, rfl, rfl, ?_⟩
        have put : ck (u :: ([t, bk t].drop (j + 1) ++ hf (ts.drop (i + 1)))) kn = ck ([t, bk t].drop (j + 1) ++ hf (ts.drop (i + 1))) (knPut kn u) → ∀ H4, Same H3 H4 → ∀ p9, H4 p9 = none →
            Same H (upd (upd H4 p9 (.tup [.int u.s, .str (chS u.a)])) d (.dT (putK kvs (kSL (u.s, u.a)) (.int u.e)))) ∧ (∀ b o, b ≠ d → H3 b = some o → (upd (upd H4 p9 (.tup [.int u.s, .str (chS u.a)])) d (.dT (putK kvs (kSL (u.s, u.a)) (.int u.e)))) b = some o) ∧
            (upd H4 p9 (.tup [.int u.s, .str (chS u.a)])) d = some (.dT kvs) ∧
            DM K (upd (upd H4 p9 (.tup [.int u.s, .str (chS u.a)])) d (.dT (putK kvs (kSL (u.s, u.a)) (.int u.e)))) kSL (putK kvs (kSL (u.s, u.a)) (.int u.e)) (iE (knPut kn u)) ∧ (putK kvs (kSL (u.s, u.a)) (.int u.e)).length ≤ 2 * i + (j + 1) ∧ ck ([t, bk t].drop (j + 1) ++ hf (ts.drop (i + 1))) (knPut kn u) = G1.clash ts := fun en H4 s4 p9 n9 => by
          have s5 : Same H3 (upd H4 p9 (.tup [.int u.s, .str (chS u.a)])) := s4.trans (same_upd n9)
          have hd5 := s5 _ _ hdT
          have kp5 := (kp_same (K := K) s5).trans (kp_dT (o := .dT (putK kvs (kSL (u.s, u.a)) (.int u.e))) hd5)
          exact ⟨(sm.trans s5).set nd, fun b o hb e => by rw [upd_ne hb]; exact s5 _ _ e, hd5, ((D.move kp5).put kSL_inj (.int _)).congr (iE_put kn u), Nat.le_trans (DSub.putK_len _ _ _) (by omega), by rw [← en]; exact ec2⟩
        have nd1 : p1 ≠ d := ne_of hx1 hdT (fun z => nomatch z)
        have nd2 : p2 ≠ d := ne_of hx2 hdT (fun z => nomatch z)
        have ndp : pp ≠ d := ne_of hpp hdT (fun z => nomatch z)
        refine ⟨_, rfl, d, rfl, .inr ⟨kvs, .inl hdT⟩, _, rfl, _, rfl, ln2 _ _, fun p3 n3 => ?_⟩
        have s1 : Same H3 (upd H3 p3 (.tup [.int (u.s : Int), .str (chS u.a)])) := same_upd n3
        refine ⟨_, rfl, _, .t (s1 _ _ hdT) hkb, _, rfl, ?_⟩
        cases hkn : kn u.s u.a with
        | none =>
          have hv : valV kvs (kSL (u.s, u.a)) = none := D.none_ (by unfold iE; rw [hkn]; rfl)
          rw [hv]
          refine ⟨rfl, _, rfl, ?_⟩
          have ef : (!decide ((none : Option V).getD (V.int (u.e : Int)) = V.int (u.e : Int))) = false := by simp
          rw [ef]
          refine iteF ?_
          refine ⟨_, rfl, _, rfl, _, rfl, _, rfl, ln2 _ _, fun p9 n9 => ?_⟩
          obtain ⟨r1, r2, r3, r4, r5, r6⟩ := put (ck_none' hkn) _ s1 p9 n9
          exact ⟨d, _, rfl, .t r3 hkb kl, _, _, _, _, knPut kn u, rfl, r1, r2 _ _ nd1 hx1, r2 _ _ nd2 hx2, r2 _ _ ndp hpp, upd_same, r4, r5, r6⟩
        | some o =>
          obtain ⟨ov, hv, hov⟩ := D.some_ (i := (u.s, u.a)) (by unfold iE; rw [hkn]; rfl)
          cases hov.int_inv
          rw [hv]
          refine ⟨rfl, _, rfl, ?_⟩
          refine ite2 (fun he => ?_) (fun he => ?_)
          · have hne : o.e ≠ u.e := fun e => by
              rw [e] at he
              simp at he
            refine ⟨_, rfl, _, rfl, _, rfl, ln2 _ _, fun p4 n4 => ?_⟩
            have s2 := s1.trans (same_upd (o := .tup [.int (u.s : Int), .str (chS u.a)]) n4)
            refine ⟨d, _, rfl, by rw [← hv]; exact .t (s2 _ _ hdT) hkb, _, rfl, ln2 _ _, fun p5 n5 => q _ _ ((sm.trans s2).trans (same_upd n5)) ?_⟩
            rw [← ec2, ck_diff hkn hne]
            exact .tup (.inl (.inl upd_same)) (.cons (.int _) (.cons (.int _) .nil))
          · have heq : o.e = u.e := Classical.byContradiction fun hne => he (by
              show (!decide (V.int (o.e : Int) = V.int (u.e : Int))) = true
              rw [decide_eq_false (fun z => hne (by injection z with z; omega))]
              rfl)
            refine ⟨_, rfl, _, rfl, _, rfl, _, rfl, ln2 _ _, fun p9 n9 => ?_⟩
            obtain ⟨r1, r2, r3, r4, r5, r6⟩ := put (ck_same hkn heq) _ s1 p9 n9
            exact ⟨d, _, rfl, .t r3 hkb kl, _, _, _, _, knPut kn u, rfl, r1, r2 _ _ nd1 hx1, r2 _ _ nd2 hx2, r2 _ _ ndp hpp, upd_same, r4, r5, r6⟩
      · rintro σ H3 ⟨y5, y6, y7, kvs, kn, rfl, sm, hx1, hx2, hpp, hdT, D, hk, ec⟩
        exact ⟨_, _, _, y5, y6, y7, kvs, kn, rfl, sm, hdT, D, by have : [V.ref p1, V.ref p2].length = 2 := rfl; omega, ec⟩
    · rintro σ H1 hz
      obtain ⟨y2, y3, y4, y5, y6, y7, kvs, kn, rfl, sm, hdT, D, hk, ec⟩ := hz
      rw [List.drop_of_length_le (by omega)] at ec
      have e0 : (none : Option (Tie × Tie)) = G1.clash ts := ec
      refine ⟨Nat.zero_le _, fun p5 n5 => q _ _ (sm.trans (same_upd n5)) ?_⟩
      rw [← e0]
      exact .tup (.inl (.inl upd_same)) .nil
end
end G1
set_option Elab.async false
set_option linter.all false
set_option maxRecDepth 100000
set_option maxHeartbeats 4000000
/-! the law's webs: ends, walk -/
namespace G1
open PySem PySem.Spec PyProof.Rows _root_.L2
open PySem.W (Datum DatumOrd T3 T4 Tup)
section
variable {P : Program} {w : World} {K : PySem.W.Frag} {mg : Str → Option Value} {base : Heap} {CF CR CL : Addr}
def spEn (K : PySem.W.Frag) : Sp := fun vs H Q _ => ∃ (l : Addr) (fs : List V) (ts : List Tie), vs = [.ref l] ∧ SqL K H l fs ∧ DtAll K H fs (fmD ts) ∧ L4 ts ∧ ts.length ≤ 10000 ∧
  ∀ H' d kvs, Same H H' → H d = none → H' d = some (.dT kvs) → DM K H' kSL kvs (iE (stk ts)) → NK kvs → Q (.ref d) H'
theorem scEn : FnScope ["_law_ties", "_law_found", "_law_near", "_law_sign", "_law_far"] ["_law_ties"] (defScope (top 66)) := ⟨rfl, rfl, rfl, by decide +kernel, rfl, by decide +kernel, by decide +kernel⟩
theorem c_ends (T : Tx K mg CF CR CL) : Cal P w K mg base 1 "_law_ends" (spEn K) := by
  refine cal T.l_ends scEn (fun vs H Q E h => ?_) (fun _ _ _ _ _ _ us hl => match us, hl with | [_], _ => rfl) fun f cdv A outer s H vs Q E hr h => ?_
  · obtain ⟨_, _, _, rfl, _⟩ := h; rfl
  · obtain ⟨l, fs, ts, rfl, hl, hd, l4, htl, q⟩ := h
    refine ⟨_, pss_cons (ps_set (i := 1) scEn.nd rfl (.inl rfl) pe_dnewT)
      (pss_cons (ps_for PassesOwn.never rfl (pi_list (pv 0)) (pg_tup rfl (pgs_cons (pg_name (i := 2) scEn.nd rfl (.inl rfl)) (pgs_cons (pg_name (i := 3) scEn.nd rfl (.inl rfl)) (pgs_cons (pg_name (i := 4) scEn.nd rfl (.inl rfl)) pgs_nil))))
        (pss_cons (ps_dput (hu_of hr) (pv 1) (pe_tup (pa_cons (pv 2) (pa_cons (pv 3) pa_nil))) (pv 4) rfl)
        (pss_one (ps_dput (hu_of hr) (pv 1) (pe_tup (pa_cons (pv 4) (pa_cons (pe_upper (pv 3)) pa_nil))) (pv 2) rfl))))
      (pss_one (ps_ret (pv 1)))), ?_⟩
    refine fun d nd => ?_
    have lf := hd.len
    unfold fmD at lf
    rw [List.length_map] at lf
    refine ⟨_, rfl, l, rfl, ⟨fs, (same_upd nd).seq hl⟩, for_it (walk_list (xs := fs))
      (fun i σ H' => ∃ y2 y3 y4 kvs kn, σ = [some (.ref l), some (.ref d), y2, y3, y4] ∧ Same H H' ∧ H' d = some (.dT kvs) ∧ DM K H' kSL kvs (iE kn) ∧ NK kvs ∧ kvs.length ≤ 2 * i ∧ (hf (ts.drop i)).foldl knPut kn = stk ts)
      ⟨none, none, none, [], kn0, rfl, same_upd nd, upd_same, DM.nil, fun k v e => (nomatch e), Nat.le_refl _, rfl⟩ (fun i σ H' _ hp => ?_) ?_ ?_⟩
    · obtain ⟨_, _, _, _, _, _, sm, _⟩ := hp
      exact sm.seq hl
    · rintro i x σ H0 H1 hi ⟨y2, y3, y4, kvs, kn, rfl, sm, hdT, D, nk, hk, ec⟩ ⟨rfl, hx⟩
      obtain ⟨t, ht, hdt⟩ := dtAll_map (hd.move (kp_same sm)) hx
      have hit : i < ts.length := by omega
      have ed : ts.drop i = t :: ts.drop (i + 1) := by
        rw [List.drop_eq_getElem_cons hit]
        congr 1
        exact Option.some.inj ((List.getElem?_eq_getElem hit).symm.trans ht)
      rw [ed, hf_cons] at ec
      have ta := l4 t (List.mem_of_getElem? ht)
      obtain ⟨tp, rfl, hts⟩ := k3_inv hdt
      refine ⟨tp, _, rfl, hts, rfl, _, _, rfl, _, _, rfl, _, _, rfl, rfl, ?_⟩
      have kl : kvs.length < sizeLine := Nat.lt_of_le_of_lt (m := 30000) (by omega) (by decide)
      have lp := DSub.putK_len kvs (kSL (t.s, t.a)) (V.int t.e)
      have kl2 : (putK kvs (kSL (t.s, t.a)) (V.int t.e)).length < sizeLine := Nat.lt_of_le_of_lt (m := 30000) (by omega) (by decide)
      refine ⟨_, rfl, _, rfl, _, rfl, _, rfl, ln2 _ _, fun p1 n1 => ?_⟩
      have s1 := same_upd (o := .tup [.int (t.s : Int), .str (chS t.a)]) n1
      have hd1 := s1 _ _ hdT
      refine ⟨d, _, rfl, .t hd1 (upd_same (o := .tup ((kSL (t.s, t.a)).map kV))) kl, ?_⟩
      have D1 := ((D.move ((kp_same (K := K) s1).trans (kp_dT (o := .dT (putK kvs (kSL (t.s, t.a)) (.int t.e))) hd1))).put kSL_inj (.int t.e)).congr (iE_put kn t)
      refine ⟨_, rfl, _, rfl, _, rfl, _, rfl, ⟨_, rfl⟩, _, rfl, rfl, (by show 1 ≤ _; decide), ln2 _ _, fun p2 n2 => ?_⟩
      rw [show Txt.upper (chS t.a) = chS (sw t.a) from upS ta]
      have s2 := same_upd (o := .tup [.int (t.e : Int), .str (chS (sw t.a))]) n2
      have hd2 := s2 _ _ (upd_same (H := upd H1 p1 (.tup [.int (t.s : Int), .str (chS t.a)])) (a := d) (o := .dT (putK kvs (kSL (t.s, t.a)) (.int t.e))))
      refine ⟨d, _, rfl, .t hd2 (upd_same (o := .tup ((kSL ((bk t).s, (bk t).a)).map kV))) kl2, _, _, _, _, knPut (knPut kn t) (bk t), rfl, ?_, upd_same, ?_, (nk.put _ _).put _ _, ?_, ec⟩
      · exact ((((sm.trans s1).set nd).trans s2).set nd)
      · exact ((D1.move ((kp_same (K := K) s2).trans (kp_dT (o := .dT (putK (putK kvs (kSL (t.s, t.a)) (.int t.e)) (kSL ((bk t).s, (bk t).a)) (.int t.s))) hd2))).put kSL_inj (.int (bk t).e)).congr (iE_put (knPut kn t) (bk t))
      · have := DSub.putK_len (putK kvs (kSL (t.s, t.a)) (V.int t.e)) (kSL ((bk t).s, (bk t).a)) (V.int t.s)
        omega
    · rintro σ H1 hz
      obtain ⟨y2, y3, y4, kvs, kn, rfl, sm, hdT, D, nk, hk, ec⟩ := hz
      rw [List.drop_of_length_le (by omega)] at ec
      have e0 : kn = stk ts := ec
      rw [e0] at D
      exact ⟨_, rfl, q _ d kvs sm nd hdT D nk⟩
def spWk (K : PySem.W.Frag) : Sp := fun vs H Q _ => ∃ (d : Addr) (kvs : List (List Key × V)) (ts : List Tie) (wd : List Nat), vs = [.ref d, .int 0, .str (tx wd)] ∧ H d = some (.dT kvs) ∧ DM K H kSL kvs (iE (stk ts)) ∧ NK kvs ∧
  ∀ H' (r : Int), Same H H' → (r = 0 ↔ wlk (sf ts) 0 wd = some 0) → Q (.int r) H'
theorem scWk : FnScope ["_law_ends_here", "_law_here", "_law_word", "_law_sign"] ["_law_ends_here", "_law_here", "_law_word"] (defScope (top 67)) := ⟨rfl, rfl, rfl, by decide +kernel, rfl, by decide +kernel, by decide +kernel⟩
theorem c_walk (T : Tx K mg CF CR CL) : Cal P w K mg base 1 "_law_walk" (spWk K) := by
  refine cal T.l_walk scWk (fun vs H Q E h => ?_) (fun _ _ _ _ _ _ us hl => match us, hl with | [_, _, _], _ => rfl) fun f cdv A outer s H vs Q E hr h => ?_
  · obtain ⟨_, _, _, _, rfl, _⟩ := h; rfl
  · obtain ⟨d, kvs, ts, wd, rfl, hdT, D, nk, q⟩ := h
    refine ⟨_, pss_cons (ps_for PassesOwn.never rfl (pi_str (pv 2)) (pg_name (i := 3) scWk.nd rfl (.inl rfl))
        (pss_one (ps_set (i := 1) scWk.nd rfl (.inl rfl) (pe_dget2 (hu_of hr) (pv 0) (pe_tup (pa_cons (pv 1) (pa_cons (pv 3) pa_nil))) (pe_un un_neg pe_int) ⟨rfl, rfl, rfl, rfl⟩))))
      (pss_one (ps_ret (pv 1))), ?_⟩
    refine ⟨_, rfl, _, rfl, for_it walk_str (fun i σ H' => ∃ (y : Option V) (r : Int), σ = [some (.ref d), some (.int r), some (.str (tx wd)), y] ∧ Same H H' ∧ ((∃ p : Nat, r = p ∧ wlk (sf ts) p (wd.drop i) = wlk (sf ts) 0 wd) ∨ (r = -1 ∧ wlk (sf ts) 0 wd = none)))
      ⟨none, 0, rfl, Same.refl _, .inl ⟨0, rfl, rfl⟩⟩ (fun _ _ _ _ _ => trivial) ?_ ?_⟩
    · rintro i x σ H0 H1 hi ⟨y, r, rfl, sm, hc⟩ ⟨rfl, c, hcc, rfl⟩
      have hi' : i < wd.length := by simpa [tx] using hi
      have hc' : wd[i]? = some c := by simpa [tx] using hcc
      have ed : wd.drop i = c :: wd.drop (i + 1) := by
        rw [List.drop_eq_getElem_cons hi']
        congr 1
        exact Option.some.inj ((List.getElem?_eq_getElem hi').symm.trans hc')
      rw [ed] at hc
      refine ⟨_, rfl, d, rfl, .inr ⟨kvs, .inl (sm _ _ hdT)⟩, _, rfl, _, rfl, ln2 _ _, fun p1 n1 => ?_⟩
      have s1 := sm.trans (same_upd (o := .tup [.int r, .str (chS c)]) n1)
      refine ⟨1, rfl, _, .t (s1 _ _ hdT) (upd_same (o := .tup (([Sum.inl r, Sum.inr (chS c)] : List Key).map kV))), ?_⟩
      rcases hc with ⟨p, rfl, e⟩ | ⟨rfl, e⟩
      · have e9 : sf ts p c = (stk ts p c).map (·.e) := rfl
        cases hst : stk ts p c with
        | none =>
          have hv : valV kvs (kSL (p, c)) = none := D.none_ (by unfold iE; rw [hst]; rfl)
          rw [show valV kvs [Sum.inl (p : Int), Sum.inr (chS c)] = none from hv]
          refine ⟨_, -1, rfl, s1, .inr ⟨rfl, ?_⟩⟩
          rw [← e]
          show (match sf ts p c with | some x => _ | none => none) = none
          rw [e9, hst]
          rfl
        | some o =>
          obtain ⟨ov, hv, hov⟩ := D.some_ (i := (p, c)) (by unfold iE; rw [hst]; rfl)
          cases hov.int_inv
          rw [show valV kvs [Sum.inl (p : Int), Sum.inr (chS c)] = some (.int o.e) from hv]
          refine ⟨_, (o.e : Int), rfl, s1, .inl ⟨o.e, rfl, ?_⟩⟩
          rw [← e]
          show _ = (match sf ts p c with | some x => _ | none => none)
          rw [e9, hst]
          rfl
      · have hv : valV kvs [Sum.inl (-1 : Int), Sum.inr (chS c)] = none := by
          cases hq : valV kvs [Sum.inl (-1 : Int), Sum.inr (chS c)] with
          | none => rfl
          | some v =>
            obtain ⟨p, hp⟩ := nk _ v hq
            unfold kSL at hp
            injection hp with h1 _
            have := Sum.inl.inj h1
            omega
        rw [hv]
        exact ⟨_, -1, rfl, s1, .inr ⟨rfl, e⟩⟩
    · rintro σ H1 hz
      obtain ⟨y, r, rfl, sm, hc⟩ := hz
      refine ⟨_, rfl, q _ r sm ?_⟩
      rcases hc with ⟨p, rfl, e⟩ | ⟨rfl, e⟩
      · rw [List.drop_of_length_le (by show _ ≤ wd.toArray.size; simp)] at e
        rw [← e]
        show _ ↔ some p = some 0
        exact ⟨fun h => congrArg some (by omega), fun h => by rw [Option.some.inj h]; rfl⟩
      · rw [e]
        exact ⟨fun h => by omega, fun h => (nomatch h)⟩
end
end G1
set_option Elab.async false
set_option linter.all false
set_option maxRecDepth 100000
set_option maxHeartbeats 4000000
/-! the law's draws: drawn, presses, lot -/
namespace G1
open PySem PySem.Spec PyProof.Rows _root_.L2
open PySem.W (Datum DatumOrd T3 T4 Tup)
/-- a drawn word -/
def Drw (m n : Nat) (wd : List Nat) : Prop := ∃ raw : List Nat, raw.length ≤ n ∧ (∀ c ∈ raw, c ∈ Ltm m) ∧ wd = strk raw
section
variable {P : Program} {w : World} {K : PySem.W.Frag} {mg : Str → Option Value} {base : Heap} {CF CR CL : Addr}
theorem cutM {m : Nat} (h1 : 1 ≤ m) (h2 : m ≤ 4) : cutS ("ABCD" : Str) none (some (m : Int)) = tx ((l4s.take m).map (· - 32)) := by
  have : m = 1 ∨ m = 2 ∨ m = 3 ∨ m = 4 := by omega
  rcases this with rfl | rfl | rfl | rfl <;> decide +kernel
def spDr : Sp := fun vs H Q _ => ∃ (T : Addr) (m n : Nat), vs = [.ref T, .int m, .int n] ∧ Till H T ∧ 1 ≤ m ∧ m ≤ 4 ∧ n ≤ 100 ∧ ∀ H' wd, Og T H H' → Drw m n wd → Q (.str (tx wd)) H'
theorem scDr : FnScope ["_law_till_here", "_law_many", "_law_long", "_law_signs", "_law_turn"] ["_law_till_here", "_law_many", "_law_long"] (defScope (top 58)) := ⟨rfl, rfl, rfl, by decide +kernel, rfl, by decide +kernel, by decide +kernel⟩
theorem ltm_lw {m : Nat} (h : m ≤ 4) {c : Nat} (hc : c ∈ Ltm m) : Lt c := by
  have key : ∀ m, m ≤ 4 → ∀ c ∈ Ltm m, (97 ≤ c ∧ c ≤ 122) ∨ (65 ≤ c ∧ c ≤ 90) := by decide +kernel
  exact key m h c hc
theorem c_drawn (T : Tx K mg CF CR CL) : Cal P w K mg base 3 "_law_drawn" spDr := by
  refine cal T.l_drawn scDr (fun vs H Q E h => ?_) (fun _ _ _ _ _ _ us hl => match us, hl with | [_, _, _], _ => rfl) fun f cdv A outer s H vs Q E hr h => ?_
  · obtain ⟨_, _, _, rfl, _⟩ := h; rfl
  · obtain ⟨Tl, m, n, rfl, hT, m1, m4, hn, q⟩ := h
    refine ⟨_, pss_cons (ps_set (i := 3) scDr.nd rfl (.inr rfl) (pe_op op_add_str (pe_slice sl_str pe_str po_none (po_some (pv 1))) (pe_slice sl_str pe_str po_none (po_some (pv 1)))))
      (pss_one (ps_ret (pe_c (c_lstruck T) hr (by decide) rfl (pa_cons (pe_join pe_str (pe_lc (own := [("_law_turn", 4)]) (g := gName 4) (tt := tYes) (te := tCall (spCoin K) [] E0 (tCons (tVar 0) (tCons (tVar 3) tNil))) rfl scDr.nd (pi_range1 rfl (T.nb "range") (pa_cons (pe_c (c_pay T) hr (by decide) rfl (pa_cons (pv 0) (pa_cons (pe_op op_add (pv 2) pe_int) pa_nil))) pa_nil)) (blkOk_by (N := ["_law_till_here", "_law_many", "_law_long", "_law_signs", "_law_turn"]) (sc := defScope (top 58)) (by decide +kernel))
        (fun _ _ _ _ _ => pg_name (i := 4) scDr.nd rfl (.inl rfl)) (fun _ _ _ _ _ => pts_nil) (fun _ _ _ _ _ => pe_c (c_coin T) hr (by decide) rfl (pa_cons (pv 0) (pa_cons (pv 3) pa_nil))))) pa_nil)))), ?_⟩
    obtain ⟨e1, _⟩ := cutm m1 m4
    have e2 := cutM m1 m4
    have lz : (Ltm m).length = 2 * m := by
      have key : ∀ m, m ≤ 4 → (Ltm m).length = 2 * m := by decide
      exact key m m4
    refine ⟨_, rfl, (m : Int), rfl, _, rfl, by decide +kernel, _, rfl, (m : Int), rfl, _, rfl, by decide +kernel, _, _, rfl, rfl, ?_, ?_⟩
    · rw [e1, e2, tx_len, tx_len, List.length_map, List.length_take]
      exact Nat.le_trans (m := 8) (by have : l4s.length = 4 := rfl; omega) (by decide)
    rw [e1, e2, tx_app]
    refine ⟨⟨_, rfl⟩, _, rfl, _, rfl, _, _, rfl, rfl, Tl, n + 1, rfl, hT, by omega, by omega, fun H1 r og1 hr1 => ⟨(r : Int), rfl, ?_, ?_, fun D nD => ?_⟩⟩
    · show -(2 ^ 62 : Int) ≤ (r : Int)
      omega
    · show (r : Int) < 2 ^ 62
      omega
    have nDT : D ≠ Tl := fun e => by
      obtain ⟨xs, h⟩ := og1.till.lst
      rw [e, h] at nD
      cases nD
    have nDH := og1.free nD
    refine lc_it (walk_range (lo := 0) (n := r)) (fun i H' => Og Tl H H' ∧ ∃ raw : List Nat, H' D = some (.lst ((raw.map chS).map V.str)) ∧ raw.length = i ∧ ∀ c ∈ raw, c ∈ Ltm m) ⟨og1.same (same_upd nD), [], upd_same, rfl, fun c hc => (nomatch hc)⟩ (fun _ _ _ _ => trivial) ?_ ?_
    · rintro i x H0 H2 hi ⟨og, raw, hD, hlr, hc⟩ ⟨rfl, rfl⟩
      refine ⟨rfl, yesT ?_⟩
      refine ⟨_, rfl, _, rfl, Tl, _, rfl, og.till, .inl ⟨Ltm m, rfl, by omega, by omega, fun H3 j c og3 hj => ⟨_, og3.off _ _ nDT hD, ?_, (og.trans og3).set nDH nDT, raw ++ [c], ?_, ?_, ?_⟩⟩⟩
      · rw [List.length_map, List.length_map]
        exact Nat.lt_of_le_of_lt (m := 200) (by omega) (by decide)
      · rw [upd_same, List.map_append, List.map_append]
        rfl
      · rw [List.length_append, hlr]
        rfl
      · intro c' h'
        rcases List.mem_append.mp h' with h' | h'
        · exact hc c' h'
        · rw [List.mem_singleton.mp h']
          exact List.mem_of_getElem? hj
    · rintro H2 ⟨og, raw, hD, hlr, hc⟩
      refine ⟨_, D, raw.map chS, rfl, rfl, .inl (.inl (.inl hD)), ?_, ?_⟩
      · have e9 : ((raw.map chS).map (·.length)).sum = raw.length := by
          rw [List.map_map]
          have : ((fun x : Str => x.length) ∘ chS) = fun _ => 1 := rfl
          rw [this, List.map_const', List.sum_replicate_nat, Nat.mul_one]
        rw [e9]
        show _ + _ * 0 ≤ _
        omega
      · rw [tx_join]
        exact ⟨raw, rfl, fun c h => ltm_lw m4 (hc c h), by omega, q _ _ og ⟨raw, by omega, hc, rfl⟩⟩
/-! ### _law_presses -/
/-- a product of words and undone words -/
inductive Prd (ws : List (List Nat)) : Nat → List Nat → Prop
  | zero : Prd ws 0 []
  | yes {k : Nat} {p w : List Nat} (h : Prd ws k p) (hw : w ∈ ws) : Prd ws (k + 1) (strk (p ++ w))
  | inv {k : Nat} {p w : List Nat} (h : Prd ws k p) (hw : w ∈ ws) : Prd ws (k + 1) (strk (p ++ und w))
def spPr (K : PySem.W.Frag) : Sp := fun vs H Q _ => ∃ (T l : Addr) (ws : List (List Nat)), vs = [.ref T, .ref l, .int 3] ∧ Till H T ∧ l ≠ T ∧ H l = some (.lst (txs ws)) ∧ 1 ≤ ws.length ∧ ws.length ≤ 100 ∧ (∀ x ∈ ws, LW x ∧ x.length ≤ 100) ∧
  ∀ H' k wd, Og T H H' → k ≤ 3 → Prd ws k wd → Q (.str (tx wd)) H'
theorem scPr : FnScope ["_law_till_here", "_law_words_here", "_law_most", "_law_found", "_law_turn", "_law_own"] ["_law_till_here", "_law_words_here", "_law_most"] (defScope (top 68)) := ⟨rfl, rfl, rfl, by decide +kernel, rfl, by decide +kernel, by decide +kernel⟩
theorem lw_app {a b : List Nat} (h : LW a) (k : LW b) : LW (a ++ b) := fun c hc => (List.mem_append.mp hc).elim (h c) (k c)
theorem lw_und {a : List Nat} (h : LW a) : LW (und a) := fun c hc => by
  unfold und at hc
  obtain ⟨d, hd, rfl⟩ := List.mem_map.mp hc
  rcases h d (List.mem_reverse.mp hd) with z | z
  · exact .inr (sw_small z).1
  · exact .inl (sw_big z).1
theorem und_len (a : List Nat) : (und a).length = a.length := by unfold und; rw [List.length_map, List.length_reverse]
theorem lw_strk {a : List Nat} (h : LW a) : LW (strk a) := strk_lw a [] (fun _ h => (nomatch h)) h
theorem strk_le (a : List Nat) : (strk a).length ≤ a.length := by
  have z := strk_len a []
  unfold strk
  simp at z
  omega
theorem Prd.lw {ws : List (List Nat)} (h : ∀ x ∈ ws, LW x ∧ x.length ≤ 100) {k : Nat} {p : List Nat} (d : Prd ws k p) : LW p ∧ p.length ≤ 100 * k := by
  induction d with
  | zero => exact ⟨fun _ h => (nomatch h), Nat.zero_le _⟩
  | @yes k p w _ hw ih =>
    refine ⟨lw_strk (lw_app ih.1 (h w hw).1), Nat.le_trans (strk_le _) ?_⟩
    have := (h w hw).2
    rw [List.length_append]
    omega
  | @inv k p w _ hw ih =>
    refine ⟨lw_strk (lw_app ih.1 (lw_und (h w hw).1)), Nat.le_trans (strk_le _) ?_⟩
    have := (h w hw).2
    rw [List.length_append, und_len]
    omega
theorem txs_at {ws : List (List Nat)} {i : Nat} {x : V} (e : (txs ws)[i]? = some x) : ∃ wd, ws[i]? = some wd ∧ x = .str (tx wd) := by
  unfold txs at e
  rw [List.getElem?_map] at e
  obtain ⟨c, h1, h2⟩ := Option.map_eq_some_iff.mp e
  exact ⟨c, h1, h2.symm⟩
theorem txs_len (ws : List (List Nat)) : (txs ws).length = ws.length := List.length_map _
theorem c_presses (T : Tx K mg CF CR CL) : Cal P w K mg base 3 "_law_presses" (spPr K) := by
  refine cal T.l_presses scPr (fun vs H Q E h => ?_) (fun _ _ _ _ _ _ us hl => match us, hl with | [_, _, _], _ => rfl) fun f cdv A outer s H vs Q E hr h => ?_
  · obtain ⟨_, _, _, rfl, _⟩ := h; rfl
  · obtain ⟨Tl, l, ws, rfl, hT, hlT, hl, w1, w100, hw, q⟩ := h
    refine ⟨_, pss_cons (ps_set (i := 3) scPr.nd rfl (.inl rfl) pe_str)
      (pss_cons (ps_for PassesOwn.never rfl (pi_range1 rfl (T.nb "range") (pa_cons (pe_op op_add pe_int (pe_c (c_pay T) hr (by decide) rfl (pa_cons (pv 0) (pa_cons (pv 2) pa_nil)))) pa_nil)) (pg_name (i := 4) scPr.nd rfl (.inl rfl))
        (pss_cons (ps_set (i := 5) scPr.nd rfl (.inl rfl) (pe_c (c_coin T) hr (by decide) rfl (pa_cons (pv 0) (pa_cons (pv 1) pa_nil))))
        (pss_one (ps_set (i := 3) scPr.nd rfl (.inl rfl) (pe_c (c_lstruck T) hr (by decide) rfl (pa_cons (pe_op op_add_str (pv 3) (pe_ifExp (pt_cmpR op_eq (pe_c (c_pay T) hr (by decide) rfl (pa_cons (pv 0) (pa_cons pe_int pa_nil))) pe_int (nomark _)) (pv 5) (pe_c (c_lundo T) hr (by decide) rfl (pa_cons (pv 5) pa_nil)))) pa_nil))))))
      (pss_one (ps_ret (pv 3)))), ?_⟩
    refine ⟨_, rfl, _, rfl, Tl, 3, rfl, hT, by decide, by decide, fun H1 r og1 hr1 => ⟨_, _, rfl, rfl, ((1 + r : Nat) : Int), by rw [Int.natCast_add]; rfl, ?_, ?_, ?_⟩⟩
    · show -(2 ^ 62 : Int) ≤ ((1 + r : Nat) : Int)
      omega
    · show ((1 + r : Nat) : Int) < 2 ^ 62
      omega
    refine for_it (walk_range (lo := 0) (n := 1 + r)) (fun i σ H' => ∃ y4 y5 p, σ = [some (.ref Tl), some (.ref l), some (.int 3), some (.str (tx p)), y4, y5] ∧ Og Tl H H' ∧ Prd ws i p) ⟨none, none, [], rfl, og1, .zero⟩ (fun _ _ _ _ _ => trivial) ?_ ?_
    · rintro i x σ H0 H2 hi ⟨y4, y5, p, rfl, og, hp⟩ ⟨rfl, rfl⟩
      obtain ⟨lp, hpl⟩ := hp.lw hw
      have hl2 := og.off _ _ hlT hl
      refine ⟨_, rfl, _, rfl, Tl, _, rfl, og.till, .inr ⟨l, txs ws, rfl, hlT, hl2, by rw [txs_len]; exact w1, by rw [txs_len]; omega, fun H3 j x og3 hj => ?_⟩⟩
      obtain ⟨wd, hwd, rfl⟩ := txs_at hj
      have wm := List.mem_of_getElem? hwd
      obtain ⟨lww, hwl⟩ := hw wd wm
      refine ⟨_, rfl, _, rfl, Tl, 2, rfl, og3.till, by decide, by decide, fun H4 r4 og4 hr4 => ⟨rfl, _, rfl, ?_⟩⟩
      have ogs := og.trans (og3.trans og4)
      refine ite2 (fun h => ?_) (fun h => ?_)
      · refine ⟨_, rfl, _, _, rfl, rfl, ?_, p ++ wd, by rw [tx_app]; rfl, lw_app lp lww, ?_, _, _, strk (p ++ wd), rfl, ogs, .yes hp wm⟩
        · rw [tx_len, tx_len]
          exact Nat.le_trans (m := 1000) (by omega) (by decide)
        · rw [List.length_append]
          omega
      · refine ⟨_, rfl, wd, rfl, lww, by omega, fun H5 s5 => ⟨_, _, rfl, rfl, ?_, p ++ und wd, by rw [tx_app]; rfl, lw_app lp (lw_und lww), ?_, _, _, strk (p ++ und wd), rfl, ogs.same s5, .inv hp wm⟩⟩
        · rw [tx_len, tx_len, und_len]
          exact Nat.le_trans (m := 1000) (by omega) (by decide)
        · rw [List.length_append, und_len]
          omega
    · rintro σ H2 ⟨y4, y5, p, rfl, og, hp⟩
      exact ⟨_, rfl, q _ _ p og (by omega) hp⟩
end
end G1
set_option Elab.async false
set_option linter.all false
set_option maxRecDepth 100000
set_option maxHeartbeats 4000000
/-! the law's lots -/
namespace G1
open PySem PySem.Spec PyProof.Rows _root_.L2
open PySem.W (Datum DatumOrd T3 T4 Tup)
section
variable {P : Program} {w : World} {K : PySem.W.Frag} {mg : Str → Option Value} {base : Heap} {CF CR CL : Addr}
/-- a row that may be told in a lot -/
structure Rw (m : Nat) (wd : List Nat) : Prop where
  wm : WM m wd
  red : strk wd = wd
  len : wd.length ≤ 12
theorem RowsAt.lst {H : Hp} {m : Nat} {rs xs ys : List V} {ws : List (List Nat)} {D : Addr} (R : RowsAt CR H m rs ws) (h : H D = some (.lst xs)) : RowsAt CR (upd H D (.lst ys)) m rs ws :=
  ⟨R.len, fun i r e => by
    obtain ⟨wd, e1, a, dx, e2, e3⟩ := R.at_ i r e
    exact ⟨wd, e1, a, dx, e2, by rw [upd_ne (ne_of e3 h (fun z => nomatch z))]; exact e3⟩⟩
theorem RowsAt.snoc {H : Hp} {m : Nat} {rs : List V} {ws : List (List Nat)} {r : V} {wd : List Nat} (R : RowsAt CR H m rs ws) (h : RowAt CR H m wd r) : RowsAt CR H m (rs ++ [r]) (ws ++ [wd]) := by
  refine ⟨by rw [List.length_append, List.length_append, R.len]; rfl, fun i x e => ?_⟩
  by_cases hi : i < rs.length
  · rw [List.getElem?_append_left hi] at e
    obtain ⟨wd', e1, h'⟩ := R.at_ i x e
    exact ⟨wd', by rw [List.getElem?_append_left (by rw [← R.len]; exact hi)]; exact e1, h'⟩
  · rw [List.getElem?_append_right (by omega)] at e
    have h0 : i - rs.length = 0 := by
      have := (List.getElem?_eq_some_iff.mp e).1
      have e1 : [r].length = 1 := rfl
      omega
    rw [h0] at e
    cases e
    refine ⟨wd, ?_, h⟩
    rw [List.getElem?_append_right (by rw [← R.len]; omega), ← R.len, h0]
    rfl
def spLt (CL CR : Addr) : Sp := fun vs H Q _ => ∃ (m : Nat) (l : Addr) (ws : List (List Nat)), vs = [.int m, .ref l] ∧ H l = some (.lst (txs ws)) ∧ (∀ x ∈ ws, Rw m x) ∧ 1 ≤ ws.length ∧ ws.length ≤ 5 ∧ ∀ H' r, Same H H' → LotAt CL CR H' m ws r → Q r H'
theorem scLt : FnScope ["_law_many", "_law_words_here", "_law_word"] ["_law_many", "_law_words_here"] (defScope (top 69)) := ⟨rfl, rfl, rfl, by decide +kernel, rfl, by decide +kernel, by decide +kernel⟩
theorem c_llot (T : Tx K mg CF CR CL) : Cal P w K mg base 6 "_law_lot" (spLt CL CR) := by
  refine cal T.l_lot scLt (fun vs H Q E h => ?_) (fun _ _ _ _ _ _ us hl => match us, hl with | [_, _], _ => rfl) fun f cdv A outer s H vs Q E hr h => ?_
  · obtain ⟨_, _, _, rfl, _⟩ := h; rfl
  · obtain ⟨m, l, ws, rfl, hl, hw, w1, w5, q⟩ := h
    refine ⟨_, pss_one (ps_ret (pe_mk (c_lot T) hr (by decide) rfl (pa_cons (pe_tupleOf rfl (T.nb "tuple") (pe_lc (own := [("_law_word", 2)]) (g := gName 2) (tt := tYes) (te := tMake CR (spRI CR) [] E0 (tCons (tVar 0) (tCons (tVar 2) tNil))) rfl scLt.nd (pi_list (pv 1)) (blkOk_by (N := ["_law_many", "_law_words_here", "_law_word"]) (sc := defScope (top 69)) (by decide +kernel))
      (fun _ _ _ _ _ => pg_name (i := 2) scLt.nd rfl (.inl rfl)) (fun _ _ _ _ _ => pts_nil) (fun _ _ _ _ _ => pe_mk (c_row T) hr (by decide) rfl (pa_cons (pv 0) (pa_cons (pv 2) pa_nil))))) pa_nil))), ?_⟩
    refine ⟨_, rfl, l, rfl, ⟨_, .inl (.inl hl)⟩, fun D nD => lc_it (walk_list (xs := txs ws)) (fun i H' => Same H H' ∧ ∃ rs, H' D = some (.lst rs) ∧ RowsAt CR H' m rs (ws.take i)) ⟨same_upd nD, [], upd_same, rfl, fun i r e => (nomatch e)⟩ (fun i H' _ hp => .inl (.inl (hp.1 _ _ hl))) ?_ ?_⟩
    · rintro i x H0 H1 hi ⟨sm, rs, hD, R⟩ ⟨rfl, hx⟩
      obtain ⟨wd, hwd, rfl⟩ := txs_at hx
      have hrw := hw wd (List.mem_of_getElem? hwd)
      refine ⟨rfl, yesT ?_⟩
      refine ⟨_, rfl, _, rfl, fun a dx na ndx nxa => ⟨a, dx, m, wd, rfl, upd_same, hrw.wm, fun H2 off ha => ⟨rfl, ?_⟩⟩⟩
      have s2 : Same H1 H2 := fun b o e => off b o (ne_of_none e na) (by rw [upd_ne (ne_of_none e na), upd_ne (ne_of_none e ndx)]; exact e)
      rw [hrw.red] at ha
      refine ⟨rs, s2 _ _ hD, ?_, (sm.trans s2).set nD, rs ++ [.ref a], upd_same, ?_⟩
      · rw [R.len, List.length_take]
        exact Nat.lt_of_le_of_lt (m := 5) (by omega) (by decide)
      · rw [List.take_add_one, hwd]
        exact ((R.go s2).snoc ⟨a, dx, rfl, ha⟩).lst (s2 _ _ hD)
    · rintro H1 ⟨sm, rs, hD, R⟩
      rw [List.take_of_length_le (by rw [txs_len]; exact Nat.le_refl _)] at R
      refine .inl ⟨D, rs, rfl, .inl (.inl hD), fun t nt => fun a dx na ndx nxa => ?_⟩
      have s3 : Same (upd H1 t (.tup rs)) (upd (upd (upd H1 t (.tup rs)) dx (.own a)) a (.ins CL dx [])) := (same_upd ndx).set na
      refine ⟨a, dx, t, m, rs, ws, rfl, upd_same, s3 _ _ upd_same, (R.go (same_upd nt)).go s3, fun x hx => (hw x hx).len, ?_, w1, w5, fun H2 z off ha => ⟨rfl, ?_⟩⟩
      · obtain ⟨x, r, e⟩ : ∃ x r, ws = x :: r := by
          cases ws with
          | nil => exact absurd w1 (by decide)
          | cons x r => exact ⟨x, r, rfl⟩
        exact (hw x (by rw [e]; exact List.mem_cons_self)).wm.m4
      · have s4 : Same (upd H1 t (.tup rs)) H2 := fun b o e => off b o (ne_of_none e na) (s3 _ _ e)
        exact q _ _ ((sm.trans (same_upd nt)).trans s4) ⟨a, dx, t, z, rs, rfl, ha, s4 _ _ upd_same, (R.go (same_upd nt)).go s4⟩
/-! ### _law_other -/
inductive Oth (m : Nat) (ws : List (List Nat)) : List (List Nat) → Prop
  | prods (ps : List (List Nat)) (h : ∀ p ∈ ps, p.length < 13 ∧ ∃ k, k ≤ 3 ∧ Prd ws k p) (hl : ps.length ≤ 2) : Oth m ws (ps ++ [[]])
  | longer {k j : Nat} {wk wj : List Nat} (hk : ws[k]? = some wk) (hj : ws[j]? = some wj) (hkj : k ≠ j) (hl : (strk (wj ++ wk)).length < 13) : Oth m ws (ws.take k ++ [strk (wj ++ wk)] ++ ws.drop (k + 1))
  | less {k : Nat} (h : 1 < ws.length) (hk : k < ws.length) : Oth m ws (ws.take k ++ ws.drop (k + 1))
  | more {d : List Nat} (h : Drw m 4 d) : Oth m ws ((ws ++ [d]).take 5)
  | back : Oth m ws ws.reverse
  | fresh (ds : List (List Nat)) (h : ∀ d ∈ ds, Drw m 4 d) (h1 : 1 ≤ ds.length) (h3 : ds.length ≤ 3) : Oth m ws ds
def spOt (K : PySem.W.Frag) : Sp := fun vs H Q _ => ∃ (T l : Addr) (m : Nat) (ws : List (List Nat)), vs = [.ref T, .int m, .ref l] ∧ Till H T ∧ l ≠ T ∧ H l = some (.lst (txs ws)) ∧ 1 ≤ m ∧ m ≤ 4 ∧ 1 ≤ ws.length ∧ ws.length ≤ 100 ∧ (∀ x ∈ ws, LW x ∧ x.length ≤ 100) ∧
  ∀ H' p us, Og T H H' → p ≠ T → H' p = some (.lst (txs us)) → Oth m ws us → Q (.ref p) H'
theorem tAnd_pure {t u : TT} {σ : _root_.L2.St} {H : Hp} {Q : Bool → Hp → Prop} {c d : Bool} (h1 : ∀ R : Bool → Hp → Prop, R c H → t σ H R) (h2 : ∀ R : Bool → Hp → Prop, R d H → u σ H R) (h : Q (c && d) H) : tAnd t u σ H Q := by
  refine h1 _ ?_
  cases c with
  | true => exact (if_pos rfl).mpr (h2 _ h)
  | false => exact (if_neg (by decide)).mpr h
def nOt : List Str := ["_law_till_here", "_law_many", "_law_words_here", "_law_way", "_law_k", "_law_j", "_law_longer", "_law_fresh", "_law_word", "_law_turn"]
theorem scOt : FnScope nOt ["_law_till_here", "_law_many", "_law_words_here"] (defScope (top 70)) := ⟨rfl, rfl, rfl, by decide +kernel, rfl, by decide +kernel, by decide +kernel⟩
theorem c_other (T : Tx K mg CF CR CL) : Cal P w K mg base 4 "_law_other" (spOt K) := by
  refine cal T.l_other scOt (fun vs H Q E h => ?_) (fun _ _ _ _ _ _ us hl => match us, hl with | [_, _, _], _ => rfl) fun f cdv A outer s H vs Q E hr h => ?_
  · obtain ⟨_, _, _, _, rfl, _⟩ := h; rfl
  · obtain ⟨Tl, l, m, ws, rfl, hT, hlT, hl, m1, m4, w1, w100, hw, q⟩ := h
    refine ⟨_, pss_cons (ps_par3 (i := 3) (j := 4) (l := 5) (by rfl) scOt.nd rfl rfl rfl (by decide) (by decide) (by decide) rfl rfl rfl (pa_cons (pe_c (c_pay T) hr (by decide) rfl (pa_cons (pv 0) (pa_cons pe_int pa_nil))) (pa_cons (pe_c (c_pay T) hr (by decide) rfl (pa_cons (pv 0) (pa_cons (pe_callB call_len_seq (by rfl) (T.nb "len") boot_len (pa_cons (pv 2) pa_nil)) pa_nil))) (pa_cons (pe_c (c_pay T) hr (by decide) rfl (pa_cons (pv 0) (pa_cons (pe_callB call_len_seq (by rfl) (T.nb "len") boot_len (pa_cons (pv 2) pa_nil)) pa_nil))) pa_nil))) (by rfl))
      (pss_cons (ps_if (pt_cmpR op_eq (pv 3) pe_int (nomark _)) (pss_one (ps_ret (pe_op op_cat
          (pe_lc (own := [("_law_word", 8)]) (g := gName 8) (tt := tTest (tOp (rI0 fun i j => .bl (decide (i < j))) (tCB (fun xs H Q => ∃ z, xs = [.str z] ∧ z.length ≤ sizeLine ∧ Q (.int z.length) H) (tCons (tVar 8) tNil)) (tC (.int 13)))) rfl scOt.nd
            (pi_list (pe_lc (own := [("_law_turn", 9)]) (g := gName 9) (tt := tYes) (te := tCall (spPr K) [] E0 (tCons (tVar 0) (tCons (tVar 2) (tCons (tC (.int 3)) tNil)))) rfl scOt.nd (pi_range1 rfl (T.nb "range") (pa_cons pe_int pa_nil)) (blkOk_by (N := nOt) (sc := defScope (top 70)) (by decide +kernel))
              (fun _ _ _ _ _ => pg_name (i := 9) scOt.nd rfl (.inl rfl)) (fun _ _ _ _ _ => pts_nil) (fun _ _ _ _ _ => pe_c (c_presses T) hr (by decide) rfl (pa_cons (pv 0) (pa_cons (pv 2) (pa_cons pe_int pa_nil))))))
            (blkOk_by (N := nOt) (sc := defScope (top 70)) (by decide +kernel))
            (fun _ _ _ _ _ => pg_name (i := 8) scOt.nd rfl (.inl rfl)) (fun _ _ _ _ _ => pts_one (pt_cmpR op_lt (pe_callB call_len_str (by rfl) (T.nb "len") boot_len (pa_cons (pv 8) pa_nil)) pe_int (nomark _))) (fun _ _ _ _ _ => pv 8))
          (pe_lst (pa_cons pe_str pa_nil))))) pss_nil)
      (pss_cons (ps_set (i := 6) scOt.nd rfl (.inl rfl) (pe_c (c_lstruck T) hr (by decide) rfl (pa_cons (pe_op op_add_str (pe_ix ix_list (pv 2) (pv 5) (fun _ _ => rfl)) (pe_ix ix_list (pv 2) (pv 4) (fun _ _ => rfl))) pa_nil)))
      (pss_cons (ps_if (PW.pt (pw_and (pt_cmpR op_eq (pv 3) pe_int (nomark _)) (pw_and (pt_cmpR op_ne (pv 4) (pv 5) (nomark _)) (pw_and1 (pt_cmpR op_lt (pe_callB call_len_str (by rfl) (T.nb "len") boot_len (pa_cons (pv 6) pa_nil)) pe_int (nomark _))))))
        (pss_one (ps_ret (pe_op op_cat (pe_op op_cat (pe_slice sl_list (pv 2) po_none (po_some (pv 4))) (pe_lst (pa_cons (pv 6) pa_nil))) (pe_slice sl_list (pv 2) (po_some (pe_op op_add (pv 4) pe_int)) po_none)))) pss_nil)
      (pss_cons (ps_if (PW.pt (pw_and (pt_cmpR op_eq (pv 3) pe_int (nomark _)) (pw_and1 (pt_cmpR op_gt (pe_callB call_len_seq (by rfl) (T.nb "len") boot_len (pa_cons (pv 2) pa_nil)) pe_int (nomark _)))))
        (pss_one (ps_ret (pe_op op_cat (pe_slice sl_list (pv 2) po_none (po_some (pv 4))) (pe_slice sl_list (pv 2) (po_some (pe_op op_add (pv 4) pe_int)) po_none)))) pss_nil)
      (pss_cons (ps_if (pt_cmpR op_eq (pv 3) pe_int (nomark _))
        (pss_one (ps_ret (pe_slice sl_list (pe_op op_cat (pv 2) (pe_lst (pa_cons (pe_c (c_drawn T) hr (by decide) rfl (pa_cons (pv 0) (pa_cons (pv 1) (pa_cons pe_int pa_nil)))) pa_nil))) po_none (po_some pe_int)))) pss_nil)
      (pss_cons (ps_setLc (i := 7) (own := [("_law_turn", 9)]) (g := gName 9) (tt := tYes) (te := tCall spDr [] E0 (tCons (tVar 0) (tCons (tVar 1) (tCons (tC (.int 4)) tNil)))) rfl scOt.nd rfl rfl (sw_true rfl rfl rfl (by decide +kernel)) (pi_range1 rfl (T.nb "range") (pa_cons (pe_op op_add pe_int (pe_c (c_pay T) hr (by decide) rfl (pa_cons (pv 0) (pa_cons pe_int pa_nil)))) pa_nil)) (blkOk_by (N := nOt) (sc := defScope (top 70)) (by decide +kernel))
        (fun _ _ _ _ _ => pg_name (i := 9) scOt.nd rfl (.inl rfl)) (fun _ _ _ _ _ => pts_nil) (fun _ _ _ _ _ => pe_c (c_drawn T) hr (by decide) rfl (pa_cons (pv 0) (pa_cons (pv 1) (pa_cons pe_int pa_nil)))))
      (pss_one (ps_ret (pe_ifExp (pt_cmpR op_eq (pv 3) pe_int (nomark _)) (pe_revL (pv 2)) (pv 7)))))))))), ?_⟩
    have lt : (txs ws).length = ws.length := txs_len ws
    refine ⟨_, rfl, Tl, 6, rfl, hT, by decide, by decide, fun H1 way og1 hway => ?_⟩
    refine ⟨_, rfl, _, rfl, l, txs ws, rfl, .inl (.inl (.inl (og1.off _ _ hlT hl))), Tl, (txs ws).length, rfl, og1.till, by omega, by omega, fun H2 k og2 hk => ?_⟩
    have ogb := og1.trans og2
    refine ⟨_, rfl, _, rfl, l, txs ws, rfl, .inl (.inl (.inl (ogb.off _ _ hlT hl))), Tl, (txs ws).length, rfl, ogb.till, by omega, by omega, fun H3 j og3 hj => ⟨_, _, _, rfl, ?_⟩⟩
    have og := ogb.trans og3
    have hl3 := og.off _ _ hlT hl
    have nT : ∀ {H' : Hp} {p : Addr}, Og Tl H H' → H' p = none → p ≠ Tl := fun o n e => by
      obtain ⟨xs, h⟩ := o.till.lst
      rw [e, h] at n
      cases n
    have kk : k < ws.length := by omega
    have jj : j < ws.length := by omega
    obtain ⟨wk, hwk⟩ : ∃ x, ws[k]? = some x := ⟨_, List.getElem?_eq_getElem kk⟩
    obtain ⟨wj, hwj⟩ : ∃ x, ws[j]? = some x := ⟨_, List.getElem?_eq_getElem jj⟩
    have hwk2 := hw wk (List.mem_of_getElem? hwk)
    have hwj2 := hw wj (List.mem_of_getElem? hwj)
    have atk : (txs ws)[k]? = some (.str (tx wk)) := by unfold txs; rw [List.getElem?_map, hwk]; rfl
    have atj : (txs ws)[j]? = some (.str (tx wj)) := by unfold txs; rw [List.getElem?_map, hwj]; rfl
    have tk : ∀ n : Nat, (txs ws).take n = txs (ws.take n) := fun n => by unfold txs; rw [List.map_take]
    have dr : ∀ n : Nat, (txs ws).drop n = txs (ws.drop n) := fun n => by unfold txs; rw [List.map_drop]
    have ap : ∀ a b : List (List Nat), txs a ++ txs b = txs (a ++ b) := fun a b => by unfold txs; rw [List.map_append]
    have big : ∀ n : Nat, n ≤ 1000 → n ≤ sizeLine := fun n h => Nat.le_trans h (by decide)
    refine ⟨_, rfl, rfl, _, rfl, ?_⟩
    refine ite2 (fun h0 => ?_) (fun h0 => ?_)
    · refine ⟨2, rfl, by decide, by decide, fun D nD => lc_it (walk_range (lo := 0) (n := 2)) (fun i H' => Og Tl H H' ∧ ∃ ps, H' D = some (.lst (txs ps)) ∧ ps.length = i ∧ ∀ p ∈ ps, ∃ k, k ≤ 3 ∧ Prd ws k p) ⟨og.same (same_upd nD), [], upd_same, rfl, fun p h => (nomatch h)⟩ (fun _ _ _ _ => trivial) ?_ ?_⟩
      · rintro i x H0 H4 hi ⟨og4, ps, hD, hlp, hp⟩ ⟨rfl, rfl⟩
        refine ⟨rfl, yesT ?_⟩
        refine ⟨_, rfl, _, rfl, Tl, l, ws, rfl, og4.till, hlT, og4.off _ _ hlT hl, w1, w100, hw, fun H5 k5 wd og5 hk5 hp5 => ⟨_, og5.off _ _ (nT og nD) hD, ?_, (og4.trans og5).set (og.free nD) (nT og nD), ps ++ [wd], ?_, ?_, ?_⟩⟩
        · rw [txs_len]
          exact Nat.lt_of_le_of_lt (m := 5) (by omega) (by decide)
        · rw [upd_same]
          exact congrArg some (congrArg HO.lst (ap ps [wd]))
        · rw [List.length_append, hlp]; rfl
        · intro p hpm
          rcases List.mem_append.mp hpm with hpm | hpm
          · exact hp p hpm
          · rw [List.mem_singleton.mp hpm]
            exact ⟨k5, hk5, hp5⟩
      · rintro H4 ⟨og4, ps, hD, hlp, hp⟩
        refine ⟨D, rfl, ⟨_, .inl (.inl hD)⟩, fun D2 nD2 => lc_it (walk_list (xs := txs ps)) (fun i H' => Og Tl H H' ∧ H' D = some (.lst (txs ps)) ∧ ∃ qs, H' D2 = some (.lst (txs qs)) ∧ qs.length ≤ i ∧ ∀ p ∈ qs, p.length < 13 ∧ ∃ k, k ≤ 3 ∧ Prd ws k p) ⟨og4.same (same_upd nD2), same_upd nD2 _ _ hD, [], upd_same, Nat.le_refl _, fun p h => (nomatch h)⟩ (fun _ _ _ hp => .inl (.inl hp.2.1)) ?_ ?_⟩
        · rintro i x H0 H5 hi ⟨og5, hD5, qs, hD2, hlq, hq⟩ ⟨rfl, hx⟩
          obtain ⟨wd, hwd, rfl⟩ := txs_at hx
          obtain ⟨k5, hk5, hp5⟩ := hp wd (List.mem_of_getElem? hwd)
          have hwl := (hp5.lw hw).2
          have nDD : D ≠ D2 := ne_of_none hD nD2
          refine ⟨rfl, _, rfl, tx wd, rfl, by rw [tx_len]; exact big _ (by omega), _, _, rfl, rfl, _, rfl, ?_⟩
          refine ite2 (fun h => ?_) (fun h => ?_)
          · have hlt : wd.length < 13 := by
              have := of_decide_eq_true h
              rw [tx_len] at this
              omega
            refine ⟨_, rfl, _, hD2, ?_, og5.set (og4.free nD2) (nT og4 nD2), by rw [upd_ne nDD]; exact hD5, qs ++ [wd], ?_, ?_, ?_⟩
            · rw [txs_len]
              exact Nat.lt_of_le_of_lt (m := 5) (by rw [txs_len] at hi; omega) (by decide)
            · rw [upd_same]
              exact congrArg some (congrArg HO.lst (ap qs [wd]))
            · rw [List.length_append]; exact Nat.succ_le_succ hlq
            · intro p hpm
              rcases List.mem_append.mp hpm with hpm | hpm
              · exact hq p hpm
              · rw [List.mem_singleton.mp hpm]
                exact ⟨hlt, k5, hk5, hp5⟩
          · exact ⟨og5, hD5, qs, hD2, Nat.le_succ_of_le hlq, hq⟩
        · rintro H5 ⟨og5, hD5, qs, hD2, hlq, hq⟩
          rw [txs_len] at hlq
          refine ⟨ln1 _, fun p3 n3 => ?_⟩
          have h2 := same_upd (o := .lst [.str ""]) n3 _ _ hD2
          refine ⟨D2, p3, _, _, rfl, rfl, h2, upd_same, ?_, fun p4 n4 => ?_⟩
          · rw [txs_len]
            exact big _ (by have e1 : [V.str ""].length = 1 := rfl; omega)
          · exact q _ p4 (qs ++ [[]]) ((og5.same (same_upd n3)).same (same_upd n4)) (nT (og5.same (same_upd n3)) n4) (upd_same.trans (congrArg some (congrArg HO.lst (ap qs [[]])))) (.prods qs hq (by omega))
    · have llj : (strk (wj ++ wk)).length ≤ 200 := Nat.le_trans (strk_le _) (by rw [List.length_append]; omega)
      refine ⟨_, rfl, _, rfl, l, _, j, _, rfl, rfl, .inl (.inl hl3), atI_nat atj, _, rfl, _, rfl, l, _, k, _, rfl, rfl, .inl (.inl hl3), atI_nat atk, _, _, rfl, rfl, ?_, wj ++ wk, by rw [tx_app]; rfl, lw_app hwj2.1 hwk2.1, by rw [List.length_append]; omega, ?_⟩
      · rw [tx_len, tx_len]
        exact big _ (by omega)
      dsimp only [gName, tSeq, tIfS, tNext]
      refine tAnd_pure (fun R h => ⟨_, rfl, rfl, _, rfl, h⟩) (fun R h => tAnd_pure (fun R h => ⟨_, rfl, _, rfl, rfl, _, rfl, h⟩) (fun R h => ⟨_, rfl, tx (strk (wj ++ wk)), rfl, by rw [tx_len]; exact big _ (by omega), _, _, rfl, rfl, _, rfl, h⟩) h) ?_
      refine ite2 (fun h => ?_) (fun h => ?_)
      · have hb := Bool.and_eq_true_iff.mp (Bool.and_eq_true_iff.mp h).2
        have hkj : k ≠ j := fun e => by
          have z := hb.1
          rw [e] at z
          simp at z
        have hlt : (strk (wj ++ wk)).length < 13 := by
          have := of_decide_eq_true hb.2
          rw [tx_len] at this
          omega
        refine ⟨_, rfl, _, rfl, (k : Int), rfl, l, txs ws, rfl, .inl (.inl hl3), fun p1 n1 => ?_⟩
        rw [cutV_take, tk]
        have t1 := same_upd (o := .lst (txs (ws.take k))) n1
        refine ⟨_, rfl, ln1 _, fun p2 n2 => ?_⟩
        have t2 := t1.trans (same_upd (o := .lst [.str (tx (strk (wj ++ wk)))]) n2)
        refine ⟨p1, p2, txs (ws.take k), [.str (tx (strk (wj ++ wk)))], rfl, rfl, same_upd n2 _ _ upd_same, upd_same, ?_, fun p3 n3 => ?_⟩
        · rw [txs_len, List.length_take]
          exact big _ (by have e1 : [V.str (tx (strk (wj ++ wk)))].length = 1 := rfl; omega)
        have t3 := t2.trans (same_upd (o := .lst (txs (ws.take k) ++ [.str (tx (strk (wj ++ wk)))])) n3)
        refine ⟨_, rfl, _, rfl, _, _, rfl, rfl, ((k + 1 : Nat) : Int), rfl, npI ?_⟩
        refine ⟨l, txs ws, rfl, .inl (.inl (t3 _ _ hl3)), fun p4 n4 => ?_⟩
        rw [cutV_drop, dr]
        have t4 := t3.trans (same_upd (o := .lst (txs (ws.drop (k + 1)))) n4)
        refine ⟨p3, p4, _, _, rfl, rfl, same_upd n4 _ _ upd_same, upd_same, ?_, fun p5 n5 => ?_⟩
        · rw [List.length_append, txs_len, txs_len, List.length_take, List.length_drop]
          exact big _ (by have e1 : [V.str (tx (strk (wj ++ wk)))].length = 1 := rfl; omega)
        · refine q _ p5 (ws.take k ++ [strk (wj ++ wk)] ++ ws.drop (k + 1)) ((og.same t4).same (same_upd n5)) (nT (og.same t4) n5) (upd_same.trans ?_) (.longer hwk hwj hkj hlt)
          exact congrArg some (congrArg HO.lst (by rw [show [V.str (tx (strk (wj ++ wk)))] = txs [strk (wj ++ wk)] from rfl, ap, ap]))
      · refine tAnd_pure (fun R h => ⟨_, rfl, rfl, _, rfl, h⟩) (fun R h => ⟨_, rfl, l, txs ws, rfl, .inl (.inl (.inl hl3)), _, _, rfl, rfl, _, rfl, h⟩) ?_
        refine ite2 (fun h2 => ?_) (fun h2 => ?_)
        · have h1l : 1 < ws.length := by
            have := of_decide_eq_true (Bool.and_eq_true_iff.mp h2).2
            omega
          refine ⟨_, rfl, _, rfl, (k : Int), rfl, l, txs ws, rfl, .inl (.inl hl3), fun p1 n1 => ?_⟩
          rw [cutV_take, tk]
          have t1 := same_upd (o := .lst (txs (ws.take k))) n1
          refine ⟨_, rfl, _, rfl, _, _, rfl, rfl, ((k + 1 : Nat) : Int), rfl, npI ?_⟩
          refine ⟨l, txs ws, rfl, .inl (.inl (t1 _ _ hl3)), fun p4 n4 => ?_⟩
          rw [cutV_drop, dr]
          have t4 := t1.trans (same_upd (o := .lst (txs (ws.drop (k + 1)))) n4)
          refine ⟨p1, p4, _, _, rfl, rfl, same_upd n4 _ _ upd_same, upd_same, ?_, fun p5 n5 => ?_⟩
          · rw [txs_len, txs_len, List.length_take, List.length_drop]
            exact big _ (by omega)
          · exact q _ p5 (ws.take k ++ ws.drop (k + 1)) ((og.same t4).same (same_upd n5)) (nT (og.same t4) n5) (upd_same.trans (congrArg some (congrArg HO.lst (ap _ _)))) (.less h1l kk)
        · refine ⟨_, rfl, rfl, _, rfl, ?_⟩
          refine ite2 (fun h3 => ?_) (fun h3 => ?_)
          · refine ⟨_, rfl, _, rfl, _, rfl, Tl, m, 4, rfl, og.till, m1, m4, by decide, fun H4 d og4 hd => ⟨ln1 _, fun p1 n1 => ?_⟩⟩
            have og5 := (og.trans og4).same (same_upd (o := .lst [.str (tx d)]) n1)
            refine ⟨l, p1, txs ws, _, rfl, rfl, og5.off _ _ hlT hl, upd_same, ?_, fun p2 n2 => ?_⟩
            · rw [txs_len]
              exact big _ (by have e1 : [V.str (tx d)].length = 1 := rfl; omega)
            refine ⟨5, rfl, p2, _, rfl, .inl (.inl upd_same), fun p3 n3 => ?_⟩
            have og6 := og5.same (same_upd (o := .lst (txs ws ++ [.str (tx d)])) n2)
            refine q _ p3 ((ws ++ [d]).take 5) (og6.same (same_upd n3)) (nT og6 n3) (upd_same.trans ?_) (.more hd)
            refine congrArg some (congrArg HO.lst ?_)
            have z := cutV_take (txs ws ++ [.str (tx d)]) 5
            rw [show ((5 : Nat) : Int) = 5 from rfl] at z
            rw [z, show [V.str (tx d)] = txs [d] from rfl, ap]
            unfold txs
            rw [List.map_take]
          · refine ⟨_, rfl, Tl, 3, rfl, og.till, by decide, by decide, fun H4 r og4 hr4 => ⟨_, _, rfl, rfl, ((1 + r : Nat) : Int), by rw [Int.natCast_add]; rfl, ?_, ?_, fun D nD => ?_⟩⟩
            · show -(2 ^ 62 : Int) ≤ ((1 + r : Nat) : Int)
              omega
            · show ((1 + r : Nat) : Int) < 2 ^ 62
              omega
            have ogD := og.trans og4
            refine lc_it (walk_range (lo := 0) (n := 1 + r)) (fun i H' => Og Tl H H' ∧ ∃ ds, H' D = some (.lst (txs ds)) ∧ ds.length = i ∧ ∀ d ∈ ds, Drw m 4 d) ⟨ogD.same (same_upd nD), [], upd_same, rfl, fun p h => (nomatch h)⟩ (fun _ _ _ _ => trivial) ?_ ?_
            · rintro i x H0 H5 hi ⟨og5, ds, hD, hld, hds⟩ ⟨rfl, rfl⟩
              refine ⟨rfl, yesT ?_⟩
              refine ⟨_, rfl, _, rfl, Tl, m, 4, rfl, og5.till, m1, m4, by decide, fun H6 d og6 hd => ⟨_, og6.off _ _ (nT ogD nD) hD, ?_, (og5.trans og6).set (ogD.free nD) (nT ogD nD), ds ++ [d], ?_, ?_, ?_⟩⟩
              · rw [txs_len]
                exact Nat.lt_of_le_of_lt (m := 5) (by omega) (by decide)
              · rw [upd_same]
                exact congrArg some (congrArg HO.lst (ap ds [d]))
              · rw [List.length_append, hld]; rfl
              · intro p hpm
                rcases List.mem_append.mp hpm with hpm | hpm
                · exact hds p hpm
                · rw [List.mem_singleton.mp hpm]
                  exact hd
            · rintro H5 ⟨og5, ds, hD, hld, hds⟩
              refine ⟨_, rfl, rfl, _, rfl, ?_⟩
              refine ite2 (fun h4 => ?_) (fun h4 => ?_)
              · refine ⟨_, rfl, l, txs ws, rfl, .inl (.inl (og5.off _ _ hlT hl)), fun p1 n1 => q _ p1 ws.reverse (og5.same (same_upd n1)) (nT og5 n1) (upd_same.trans (congrArg some (congrArg HO.lst ?_))) .back⟩
                unfold txs
                rw [List.map_reverse]
              · exact ⟨_, rfl, q _ D ds og5 (nT ogD nD) hD (.fresh ds hds (by omega) (by omega))⟩
end
end G1
set_option Elab.async false
set_option linter.all false
set_option maxRecDepth 100000
set_option maxHeartbeats 4000000
/-! the law: within, over the promise of its fold -/
namespace G1
open PySem PySem.Spec PyProof.Rows _root_.L2
open PySem.W (Datum DatumOrd T3 T4 Tup)
section
variable {P : Program} {w : World} {K : PySem.W.Frag} {mg : Str → Option Value} {base : Heap} {CF CR CL : Addr}
def spLf (K : PySem.W.Frag) : Sp := fun vs H Q _ => ∃ (l : Addr) (ws : List (List Nat)), vs = [.ref l] ∧ H l = some (.lst (txs ws)) ∧ (∀ x ∈ ws, W4 x ∧ x.length ≤ 12) ∧ ws.length ≤ 5 ∧
  ∀ H' p fs ts, Same H H' → H p = none → H' p = some (.lst fs) → DtAll K H' fs (fmD ts) → Fld ws ts → L4 ts → ts.length ≤ 10000 → Q (.ref p) H'
def spIn (K : PySem.W.Frag) : Sp := fun vs H Q _ => ∃ (l l2 : Addr) (ws us : List (List Nat)), vs = [.ref l, .ref l2] ∧ H l = some (.lst (txs ws)) ∧ H l2 = some (.lst (txs us)) ∧ ws.length ≤ 50 ∧ (∀ x ∈ us, W4 x ∧ x.length ≤ 12) ∧ us.length ≤ 5 ∧
  ∀ H' b, Same H H' → (b = true ↔ ∀ x ∈ ws, Acc us x) → Q (.bl b) H'
theorem scIn : FnScope ["_law_words_here", "_law_others_here", "_law_ends_here", "_law_word"] ["_law_words_here", "_law_others_here"] (defScope (top 71)) := ⟨rfl, rfl, rfl, by decide +kernel, rfl, by decide +kernel, by decide +kernel⟩
theorem c_lwithin (T : Tx K mg CF CR CL) (LFo : Cal P w K mg base 4 "_law_folded" (spLf K)) : Cal P w K mg base 5 "_law_is_within" (spIn K) := by
  refine cal T.l_is_within scIn (fun vs H Q E h => ?_) (fun _ _ _ _ _ _ us hl => match us, hl with | [_, _], _ => rfl) fun f cdv A outer s H vs Q E hr h => ?_
  · obtain ⟨_, _, _, _, rfl, _⟩ := h; rfl
  · obtain ⟨l, l2, ws, us, rfl, hl, hl2, hw50, hus, hu50, q⟩ := h
    refine ⟨_, pss_cons (ps_set (i := 2) scIn.nd rfl (.inr rfl) (pe_c (c_ends T) hr (by decide) rfl (pa_cons (pe_c LFo hr (by decide) rfl (pa_cons (pv 1) pa_nil)) pa_nil)))
      (pss_one (ps_ret (pe_cmpR (op_eqT (List Str) hr.units) (pe_lc (own := [("_law_word", 3)]) (g := gName 3) (tt := tTest (tOp rNe (tCall (spWk K) [] E0 (tCons (tVar 2) (tCons (tC (.int 0)) (tCons (tVar 3) tNil)))) (tC (.int 0)))) rfl scIn.nd (pi_list (pv 0)) (blkOk_by (N := ["_law_words_here", "_law_others_here", "_law_ends_here", "_law_word"]) (sc := defScope (top 71)) (by decide +kernel))
        (fun _ _ _ _ _ => pg_name (i := 3) scIn.nd rfl (.inl rfl)) (fun _ _ _ _ _ => pts_one (pt_cmpR op_ne (pe_c (c_walk T) hr (by decide) rfl (pa_cons (pv 2) (pa_cons pe_int (pa_cons (pv 3) pa_nil)))) pe_int (nomark _))) (fun _ _ _ _ _ => pv 3)) (pe_lst pa_nil) (nomark _)))), ?_⟩
    refine ⟨_, rfl, l2, us, rfl, hl2, hus, hu50, fun H1 p fs ts s1 np hp hd A l4 htl => ?_⟩
    refine ⟨p, fs, ts, rfl, .inl (.inl hp), hd, l4, htl, fun H2 d kvs s2 nd hdT DD nk => ?_⟩
    have S2 := s1.trans s2
    have acc : ∀ x, wlk (sf ts) 0 x = some 0 ↔ Acc us x := fun x => by rw [wlk_path A.det, acc_iff A]
    refine ⟨_, rfl, l, rfl, ⟨_, .inl (.inl (S2 _ _ hl))⟩, fun D nD => lc_it (walk_list (xs := txs ws)) (fun i H' => Same H2 H' ∧ ∃ qs : List (List Nat), H' D = some (.lst (txs qs)) ∧ qs.length ≤ i ∧ (qs = [] ↔ ∀ x ∈ ws.take i, Acc us x)) ⟨same_upd nD, [], upd_same, Nat.le_refl _, ⟨fun _ x h => (nomatch h), fun _ => rfl⟩⟩ (fun i H' _ hp => .inl (.inl (hp.1 _ _ (S2 _ _ hl)))) ?_ ?_⟩
    · rintro i x H0 H3 hi ⟨sm, qs, hD, hlq, hq⟩ ⟨rfl, hx⟩
      obtain ⟨wd, hwd, rfl⟩ := txs_at hx
      have et : ws.take (i + 1) = ws.take i ++ [wd] := by rw [List.take_add_one, hwd]; rfl
      refine ⟨rfl, _, rfl, _, rfl, d, kvs, ts, wd, rfl, sm _ _ hdT, DD.move (kp_same sm), nk, fun H4 r s4 hr4 => ⟨rfl, _, rfl, ?_⟩⟩
      rw [acc] at hr4
      refine ite2 (fun h => ?_) (fun h => ?_)
      · have hne : r ≠ 0 := fun e => by
          rw [e] at h
          simp at h
        refine ⟨_, rfl, _, s4 _ _ hD, ?_, (sm.trans s4).set nD, qs ++ [wd], ?_, ?_, ?_⟩
        · rw [txs_len]
          rw [txs_len] at hi
          exact Nat.lt_of_le_of_lt (m := 50) (by omega) (by decide)
        · rw [upd_same]
          unfold txs
          rw [List.map_append]
          rfl
        · rw [List.length_append]
          exact Nat.succ_le_succ hlq
        · rw [et]
          refine ⟨fun e => absurd e (by simp), fun h => absurd (hr4.mpr (h wd (List.mem_append_right _ List.mem_cons_self))) hne⟩
      · have he : r = 0 := Classical.byContradiction fun hn => h (by
          show (!decide (V.int r = V.int 0)) = true
          rw [decide_eq_false (fun z => hn (by injection z))]
          rfl)
        refine ⟨sm.trans s4, qs, s4 _ _ hD, Nat.le_succ_of_le hlq, ?_⟩
        rw [et, hq]
        refine ⟨fun h x hx => ?_, fun h x hx => h x (List.mem_append_left _ hx)⟩
        rcases List.mem_append.mp hx with hx | hx
        · exact h x hx
        · rw [List.mem_singleton.mp hx]
          exact hr4.mp he
    · rintro H3 ⟨sm, qs, hD, hlq, hq⟩
      rw [List.take_of_length_le (by rw [txs_len]; exact Nat.le_refl _)] at hq
      refine ⟨Nat.zero_le _, fun p5 n5 => ?_⟩
      have s5 := same_upd (o := .lst []) n5
      have key : ∀ l : List (List Nat), DpAll K (upd H3 p5 (.lst [])) (txs l) ((l.map tx).map Datum.toD) := by
        intro l
        induction l with
        | nil => exact .nil
        | cons c r ih => exact .cons (.str _) ih
      refine ⟨qs.map tx, [], .lst (.inl (.inl (s5 _ _ hD))) (key qs), .lst (.inl (.inl upd_same)) .nil, q _ _ (S2.trans (sm.trans s5)) ?_⟩
      rw [decide_eq_true_iff, ← hq]
      exact List.map_eq_nil_iff
end
end G1
set_option Elab.async false
set_option linter.all false
set_option maxRecDepth 100000
set_option maxHeartbeats 4000000
/-! defs whose body may look at the guards: none stands above -/
namespace G1
open PySem PySem.Spec PyProof.Rows _root_.L2
open PySem.W (Datum DatumOrd T3 T4 Tup)
structure FnG (P : Program) (w : World) (K : PySem.W.Frag) (mg : Str → Option Value) (base : Heap) (k : Nat) (f : Addr) (fd : FuncData) (ps : List Str) (sp : Sp) : Prop where
  len : ∀ vs H Q E, sp vs H Q E → vs.length = ps.length
  run : ∀ (A : Around) (outer : List Env) (s : Shared) (H : Hp) (args : Args) (us : List Value) (vs : List V) (Q : VK) (E : XK), Room k A → A.guards = some [] → Env0 P w K mg base A outer s H → BindsTo s fd args (ps.zip us) → Vals vs us → sp vs H Q E →
    codeAny (model P w) A (.call (.ref f) args) (CR CX0 outer P w H s Q E) s
structure CalG (P : Program) (w : World) (K : PySem.W.Frag) (mg : Str → Option Value) (base : Heap) (k : Nat) (x : Str) (sp : Sp) : Prop where
  ex : ∃ (f : Addr) (fd : FuncData) (ps : List Str), FnG P w K mg base k f fd ps sp ∧ mg x = some (.ref f) ∧ PySem.W.keepIn K (.ref f) = true ∧ Binds K fd ps []
section
variable {P : Program} {w : World} {K : PySem.W.Frag} {mg : Str → Option Value} {base : Heap}
theorem fng {x q : Str} {st : Stmt} {f : Addr} {fd : FuncData} {N ps : List Str} {k : Nat} {sp : Sp} (D : FnP K x q st f fd) (S : FnScope N ps (defScope st)) (ln : ∀ vs H Q E, sp vs H Q E → vs.length = ps.length)
    (hbody : ∀ (cdv : Value) (A : Around) (outer : List Env) (s : Shared) (H : Hp) (vs : List V) (Q : VK) (E : XK), Room k (A.deeper (envOfC q (defScope st) s.heap.objs.size f cdv)) → (A.deeper (envOfC q (defScope st) s.heap.objs.size f cdv)).guards = some [] → sp vs H Q E →
      ∃ t, PSs (cxOf CX0 P w K mg base N q (defScope st) f cdv A outer s H E).nox (defBody st) t ∧ t { nx := fun _ H' => Q .non H', rt := Q } (start N vs) H) : FnG P w K mg base (k + 1) f fd ps sp := by
  obtain ⟨oc, od, dV, kV, doc, pm, an, cdv, ct, osl, rfl, lk, hcd, _, _⟩ := D.ex
  refine ⟨ln, fun A outer s H args us vs Q E hr hgd e0 hbi rel hsp => ?_⟩
  have nargs := ln _ _ _ _ hsp
  have kin : K.In s.heap := e0.mod.kin.keeps fun b o e => (e0.bs b o e).1
  have nolim : s.heap.NoLimit := e0.mod.nolimit.keeps fun b o e => (e0.bs b o e).1
  have kinds : ∀ z ∈ ps.zip us, (defScope st).names.lookup z.1 = some .local ∨ ((defScope st).names.lookup z.1 = some .cell ∧ ((cellsFrom (s.heap.objs.size + 1) (defScope st).names []).lookup z.1).isSome = true) := by
    rintro ⟨n, u⟩ hz
    have hp := S.par n (List.of_mem_zip hz).1
    exact hp.imp id fun c => ⟨c, PySem.W.cellsFrom_some _ _ _ (.inl c)⟩
  refine codeAny_call_function hr.depth (kin _ _ lk) rfl S.co S.gen rfl (PySem.W.codeRec_of kin hcd) (hbi _ _ _ _ ?_)
  refine wpAny_newFunctionEnv_cells S.kind kinds fun env eenv s1 made => ?_
  cases eenv
  refine ⟨nolim.keeps made.toInCall.keep, codeAny_func ?_⟩
  obtain ⟨t, der, rd⟩ := hbody cdv A outer s H vs Q E (hr.deeper _) hgd hsp
  have I0 : Inv (cxOf CX0 P w K mg base N q (defScope st) f cdv A outer s H E) [] (start N vs) H s1 := inv_start S hr.hd e0 nargs rel made
  refine wpAny_mono ((PSs.nox der).run [] s1 (start N vs) H _ I0 rd) (fun fl s' res => ?_) fun _ _ z => z
  cases fl with
  | next =>
    obtain ⟨σ', H', J, q9⟩ := res
    exact ⟨.non, H', J.os, J.bare, J.base, J.hok, rfl, q9⟩
  | ret u =>
    obtain ⟨v, σ', H', J, rv, q9⟩ := res
    exact ⟨v, H', J.os, J.bare, J.base, J.hok, rv, q9⟩
  | brk => exact res.elim fun _ z => z.elim fun _ z => z.2.elim
  | cont => exact res.elim fun _ z => z.elim fun _ z => z.2.elim
theorem calg {x : Str} {st : Stmt} {N ps : List Str} {k : Nat} {sp : Sp} (D : DefAt K mg x st) (S : FnScope N ps (defScope st)) (ln : ∀ vs H Q E, sp vs H Q E → vs.length = ps.length)
    (hb : ∀ (kV doc pm : Value) (an : Option Addr) (cdv ct : Value) (us : List Value), us.length = ps.length → bindArgs (PySem.W.fnOf x x (defArgs st) (defBody st) (defScope st) .none kV doc pm an cdv ct) ⟨us, []⟩ = pure (ps.zip us))
    (hbody : ∀ (f : Addr) (cdv : Value) (A : Around) (outer : List Env) (s : Shared) (H : Hp) (vs : List V) (Q : VK) (E : XK), Room k (A.deeper (envOfC x (defScope st) s.heap.objs.size f cdv)) → (A.deeper (envOfC x (defScope st) s.heap.objs.size f cdv)).guards = some [] → sp vs H Q E →
      ∃ t, PSs (cxOf CX0 P w K mg base N x (defScope st) f cdv A outer s H E).nox (defBody st) t ∧ t { nx := fun _ H' => Q .non H', rt := Q } (start N vs) H) : CalG P w K mg base (k + 1) x sp := by
  obtain ⟨f, fd, F, hm⟩ := D
  exact ⟨f, fd, ps, fng F S ln fun cdv A outer s H vs Q E => hbody f cdv A outer s H vs Q E, hm, F.kp, FunD.bindsN F hb⟩
end
section
variable {X : Cx} {k j : Nat} {x : Str} {sp : Sp} {p pos : Pos} {e : Expr} {es : List Expr} {t : TA}
theorem pe_cG (c : CalG X.prog X.w X.K X.mg X.base k x sp) (hr : Room j X.A) (hgd : X.A.guards = some []) (hk : k ≤ j) (hg : Gl X x) (ha : PA X (e :: es) t)
    (hdb : (x == ("__debug__" : Str)) = false := by decide) (he : starEach (e :: es) X.env = (false, eval e X.env) :: starEach es X.env := by rfl) (hpl : (backTo pos (starEach es X.env)).any (·.1) = false := by rfl) :
    PE X (.Call (.Name x p) (e :: es) [] pos) (tCall sp [] E0 t) := by
  obtain ⟨f, fd, ps, F, hm, kp, b⟩ := c.ex
  refine ⟨fun pins s σ H Q I h => wpAny_Call_Name_kw (ld_glob I hg hm ?_ hdb)⟩
  refine PySem.W.callWith_K (h₀ := X.base) I.ok.mod.kin kp (thn (ha.run pos pins s σ H _ I h) fun us s1 ⟨vs, H1, I1, rel, q⟩ => ⟨I1.kIn, ?_⟩) he hpl
  have q : sp vs H1 Q E0 := by
    have z : sp (vs ++ []) H1 Q E0 := q
    rw [List.append_nil] at z
    exact z
  have nl : us.length = ps.length := rel.length.symm.trans (F.len _ _ _ _ q)
  have bi := b s1 us I1.kIn (by rw [List.append_nil]; exact nl)
  rw [List.append_nil] at bi
  refine wpAny_call (codeAny_mono (F.run X.A X.stack s1 H1 ⟨us, []⟩ us vs Q E0 (hr.mono hk) hgd I1.env0 bi rel q) fun r s' hq => ?_)
  cases r with
  | error er => exact (pass0 (X := X) pins σ H1 s1 er s' I1 hq)
  | ok fl =>
    cases fl with
    | ret u => exact I1.after hq
    | next => exact hq.elim
    | brk => exact hq.elim
    | cont => exact hq.elim
end
end G1
set_option Elab.async false
set_option linter.all false
set_option maxRecDepth 100000
set_option maxHeartbeats 4000000
/-! repr of a list of data -/
namespace G1
open PySem PySem.Spec PyProof.Rows _root_.L2
open PySem.W (Datum DatumOrd T3 T4 Tup)
def rReprL (K : PySem.W.Frag) : List V → Hp → VK → Prop := fun xs H Q => ∃ (a : Addr) (d : PyData) (ds : List PyData), xs = [.ref a] ∧ Dp K H (.ref a) (.list (d :: ds)) ∧ PyData.showableAll (d :: ds) = true ∧ PyData.hasDictAll (d :: ds) = false ∧ PyData.depthAll (d :: ds) ≤ 10 ∧ (PyData.shown (.list (d :: ds))).length ≤ sizeLine ∧ Q (.str (PyData.shown (.list (d :: ds)))) H
theorem call_reprL {X : Cx} (hg : X.A.guards = some []) (hu : X.A.units + 64 < cLine) : CallR X (.builtin "repr") (rReprL X.K) := by
  intro pins s σ H xs us Q I r h
  obtain ⟨a, d, ds, rfl, hd, hs, hdi, hdp, hz, q⟩ := h
  rw [Vals.ref1 r]
  obtain ⟨as, rd⟩ := Dp.reads I _ _ (.ref a) hd rfl
  have rd0 := rd
  cases rd with
  | @list _ o vs n _ as' h1 h2 h3 h4 =>
    have hz' : (listText (PyData.shownAll (d :: ds))).length ≤ sizeLine := by simpa only [PyData.shown] using hz
    obtain ⟨bs, hb, hk⟩ := ReprAllK.of_readsAll (prog := X.prog) (w := X.w) h4 hs (fun hx => by rw [hdi] at hx; cases hx) (fun t ht => Nat.le_trans (listText_mem_le ht) hz')
    have hna : a ∉ bs := not_mem_of_deeper rd0 (by simp only [PyData.depth]; omega) hb
    have e : PyData.shown (.list (d :: ds)) = listText (PyData.shownAll (d :: ds)) := by simp only [PyData.shown]
    obtain ⟨l⟩ := vs
    cases l with
    | nil => cases (show ReadsAll s.heap [] (d :: ds) as' from h4)
    | cons y l =>
      have hlen : (PyData.shownAll (d :: ds)).length = (y :: l).toArray.size := by
        have key : ∀ (ds : List PyData), (PyData.shownAll ds).length = ds.length := by
          intro ds
          induction ds with
          | nil => rfl
          | cons d ds ih => simp only [PyData.shownAll, List.length_cons, ih]
        have k2 : ∀ {vs : List Value} {ds : List PyData} {as : List Addr}, ReadsAll s.heap vs ds as → vs.length = ds.length := by
          intro vs ds as h
          induction ds generalizing vs as with
          | nil => cases h; rfl
          | cons d ds ih =>
            cases h with
            | cons a b => exact congrArg Nat.succ (ih b)
        rw [key]
        have := k2 (show ReadsAll s.heap (y :: l) (d :: ds) as' from h4)
        simp only [List.size_toArray]
        exact this.symm
      refine call_repr_slot (by omega) ⟨o, h1, h2⟩ F.slot_list_repr.toG ?_
      refine call_list_reprK (as := bs) (h₀ := s.heap) (d := PyData.depthAll (d :: ds)) h1 h2 h3 hna hlen (fun i z hi => ?_) (g := []) hg (fun b _ => Clear.nil b) (by show X.A.units + 1 + (_ + 1) < _; omega) (fun _ _ e => e) (fun h' u tk k => ?_) hz'
      · exact hk.item i z (by simpa using hi)
      · refine ⟨_, _, rfl, .str (PyData.shown (.list (d :: ds))), H, I.kept (t' := tk) k, ⟨u, ?_⟩, q⟩
        rw [e]
end G1
set_option Elab.async false
set_option linter.all false
set_option maxRecDepth 100000
set_option maxHeartbeats 4000000
/-! calls by name alone -/
namespace G1
open PySem PySem.Spec PyProof.Rows _root_.L2
open PySem.W (Datum DatumOrd T3 T4 Tup)
/-- a def of two or one parameters, called by keywords in the order that g undoes -/
structure CalN (P : Program) (w : World) (K : PySem.W.Frag) (mg : Str → Option Value) (base : Heap) (k : Nat) (x : Str) (ks : List Str) (gV : List V → List V) (sp : Sp) : Prop where
  ex : ∃ (f : Addr) (fd : FuncData) (ps : List Str) (g : List Value → List Value), FnOk P w K mg base CX0 k f fd ps sp ∧ mg x = some (.ref f) ∧ PySem.W.keepIn K (.ref f) = true ∧
    (∀ (s : Shared) (ws : List Value), K.In s.heap → (g ws).length = ps.length → BindsTo s fd ⟨[], ks.zip ws⟩ (ps.zip (g ws))) ∧ ∀ {zs : List V} {ws : List Value}, Vals zs ws → Vals (gV zs) (g ws)
def tCallN (sp : Sp) (gV : List V → List V) (tk : TA) : TE := fun σ H Q => tk σ H fun zs H2 => sp (gV zs) H2 Q E0
section
variable {X : Cx} {k j : Nat} {x : Str} {sp : Sp} {p pos : Pos} {kws : List Keyword} {ks : List Str} {gV : List V → List V} {tk : TA}
theorem pe_cN (c : CalN X.prog X.w X.K X.mg X.base k x ks gV sp) (hr : Room j X.A) (hk : k ≤ j) (hg : Gl X x) (hkw : PK X kws tk) (hall : (backToKw pos (keywordEach kws X.env)).all (·.1.isSome) = true := by rfl) (hks : (backToKw pos (keywordEach kws X.env)).filterMap (·.1) = ks := by rfl)
    (hdb : (x == ("__debug__" : Str)) = false := by decide) (hpl : ((backTo pos (starEach [] X.env)).any (·.1) || (backToKw pos (keywordEach kws X.env)).any (·.1.isNone)) = false := by rfl) :
    PE X (.Call (.Name x p) [] kws pos) (tCallN sp gV tk) := by
  obtain ⟨f, fd, ps, g, F, hm, kp, bi, re⟩ := c.ex
  refine ⟨fun pins s σ H Q I h => wpAny_Call_Name_kw (ld_glob I hg hm ?_ hdb)⟩
  refine PySem.W.callWith_KW0 (h₀ := X.base) I.ok.mod.kin kp hall (thn (hkw.run pos pins s σ H _ I h) fun ws s2 ⟨zs, H2, I2, rz, q2⟩ => ⟨I2.kIn, ?_⟩) hpl
  rw [hks]
  have rel := re rz
  have nl : (g ws).length = ps.length := rel.length.symm.trans (F.len _ _ _ _ q2)
  refine wpAny_call (codeAny_mono (F.run X.A X.stack s2 H2 ⟨[], ks.zip ws⟩ (g ws) (gV zs) Q E0 (hr.mono hk) I2.env0 (bi s2 ws I2.kIn nl) rel q2) fun r s' hq => ?_)
  cases r with
  | error er => exact (pass0 (X := X) pins σ H2 s2 er s' I2 hq)
  | ok fl =>
    cases fl with
    | ret u => exact I2.after hq
    | next => exact hq.elim
    | brk => exact hq.elim
    | cont => exact hq.elim
end
section
variable {P : Program} {w : World} {K : PySem.W.Frag} {mg : Str → Option Value} {base : Heap} {k : Nat} {x : Str} {st : Stmt} {sp : Sp}
def swV : List V → List V
  | [a, b] => [b, a]
  | l => l
def swU : List Value → List Value
  | [a, b] => [b, a]
  | l => l
theorem calN2 {a b : Str} (c : CalX P w K mg base k x [a, b] st sp)
    (hb : ∀ (kV doc pm : Value) (an : Option Addr) (cdv ct : Value) (u v : Value), bindArgs (PySem.W.fnOf x x (defArgs st) (defBody st) (defScope st) .none kV doc pm an cdv ct) ⟨[], [(b, u), (a, v)]⟩ = pure [(a, v), (b, u)]) : CalN P w K mg base k x [b, a] swV sp := by
  obtain ⟨f, fd, F, hm, kp, _, D⟩ := c.ex
  obtain ⟨oc, od, dV, kV, doc, pm, an, cdv, ct, osl, rfl, lk, hcd, hD, hK⟩ := D.ex
  have hdV : dV = .none := by
    rcases hD with ⟨_, e⟩ | ⟨e, _⟩
    · exact e
    · exact absurd rfl e
  subst hdV
  refine ⟨f, _, [a, b], swU, F, hm, kp, fun s ws X hl => ?_, fun {zs ws} r => ?_⟩
  · match ws, hl with
    | [u, v], _ => exact .of_eq (hb kV doc pm an cdv ct u v)
  · cases r with
    | nil => exact .nil
    | cons r1 r2 =>
      cases r2 with
      | nil => exact .cons r1 .nil
      | cons r2 r3 =>
        cases r3 with
        | nil => exact .cons r2 (.cons r1 .nil)
        | cons r3 r4 => exact .cons r1 (.cons r2 (.cons r3 r4))
theorem calN1 {a : Str} (c : CalX P w K mg base k x [a] st sp)
    (hb : ∀ (kV doc pm : Value) (an : Option Addr) (cdv ct : Value) (u : Value), bindArgs (PySem.W.fnOf x x (defArgs st) (defBody st) (defScope st) .none kV doc pm an cdv ct) ⟨[], [(a, u)]⟩ = pure [(a, u)]) : CalN P w K mg base k x [a] id sp := by
  obtain ⟨f, fd, F, hm, kp, _, D⟩ := c.ex
  obtain ⟨oc, od, dV, kV, doc, pm, an, cdv, ct, osl, rfl, lk, hcd, hD, hK⟩ := D.ex
  have hdV : dV = .none := by
    rcases hD with ⟨_, e⟩ | ⟨e, _⟩
    · exact e
    · exact absurd rfl e
  subst hdV
  refine ⟨f, _, [a], id, F, hm, kp, fun s ws X hl => ?_, fun {zs ws} r => r⟩
  match ws, hl with
  | [u], _ => exact .of_eq (hb kV doc pm an cdv ct u)
end
section
variable {P : Program} {w : World} {K : PySem.W.Frag} {mg : Str → Option Value} {base : Heap} {CF CR CL : Addr}
theorem n_within (T : Tx K mg CF CR CL) : CalN P w K mg base 8 "rows_within" ["other_lot", "lot"] swV (spWi K CL CR) := calN2 (xc_rows_within T) fun _ _ _ _ _ _ _ _ => rfl
theorem n_same (T : Tx K mg CF CR CL) : CalN P w K mg base 8 "same_rows" ["other_lot", "lot"] swV (spSm K CL CR) := calN2 (xc_same_rows T) fun _ _ _ _ _ _ _ _ => rfl
theorem n_needless (T : Tx K mg CF CR CL) : CalN P w K mg base 7 "needless_rows" ["lot"] id (spNe K CL CR) := calN1 (xc_needless T) fun _ _ _ _ _ _ _ => rfl
end
end G1
set_option Elab.async false
set_option linter.all false
set_option maxRecDepth 100000
set_option maxHeartbeats 4000000
/-! ringed lots: mirrors and a check of all tables -/
namespace G1
abbrev Tb := List (List Nat)
def slow (c : Nat) : Nat := if lw c = true then c else sw c
/-- one step in a table -/
def gos (tb : Tb) (h c : Nat) : Nat :=
  let row := tb.getD (slow c - 97) []
  if lw c = true then row.getD h 0 else row.idxOf h
def metIn (tb : Tb) (h : Nat) (wd : List Nat) : List Nat → List (Nat × List Nat) → List (Nat × List Nat)
  | [], f => f
  | c :: r, f => metIn tb h wd r (if gos tb h c ∈ f.map (·.1) then f else f ++ [(gos tb h c, wd ++ [c])])
def metGo (tb : Tb) : List Nat → List (Nat × List Nat) → List (Nat × List Nat)
  | [], f => f
  | t :: r, f => metGo tb r (match f[t]? with
    | some (h, wd) => metIn tb h wd (ltrs.take (2 * tb.length)) f
    | none => f)
def metM (tb : Tb) : List (Nat × List Nat) := metGo tb (List.range (tb.headD []).length) [(0, [])]
def wdOf (f : List (Nat × List Nat)) (p : Nat) : List Nat := ((f.find? fun x => x.1 == p).map (·.2)).getD []
def ringM (tb : Tb) : List (List Nat) :=
  ((metM tb).flatMap fun x => (l4s.take tb.length).map fun c => strk (x.2 ++ [c] ++ und (wdOf (metM tb) (gos tb x.1 c)))).filter fun x => x ≠ []
def lotM (tb : Tb) : List (List Nat) := if ringM tb = [] then [[97]] else ringM tb
/-- all orders of a list, as the law draws them -/
def perms : List Nat → List (List Nat)
  | [] => [[]]
  | x :: r => (perms r).flatMap fun p => (List.range (p.length + 1)).map fun i => p.take i ++ [x] ++ p.drop i
def tables (m n : Nat) : List Tb :=
  match m with
  | 0 => [[]]
  | k + 1 => (perms (List.range n)).flatMap fun p => (tables k n).map fun t => p :: t
def allTb : List Tb := [(2, 3), (2, 2), (2, 4), (1, 5), (3, 2), (2, 1)].flatMap fun q => (List.range q.2).flatMap fun n => tables q.1 (n + 1)
def okSb (us : List (List Nat)) : Bool := decide (SS us ≤ 21) || (decide (SS us ≤ 22) && us.all fun w => decide (w.length ≠ 1))
def longR (ws : List (List Nat)) : Bool := (List.range ws.length).all fun k => (List.range ws.length).all fun j => decide (k = j) || decide (13 ≤ (strk (ws.getD j [] ++ ws.getD k [])).length) || okSb (ws.take k ++ [strk (ws.getD j [] ++ ws.getD k [])] ++ ws.drop (k + 1))
def okR (ws : List (List Nat)) (m : Nat) : Bool :=
  decide (1 ≤ ws.length) && decide (ws.length ≤ 5) && decide (SS ws ≤ 15) && ws.all (fun x => decide (x.length ≤ 12) && decide (strk x = x) && x.all (fun c => decide (c ∈ Ltm m))) && longR ws
theorem all_ok : (allTb.all fun tb => okR (lotM tb) tb.length) = true := by decide +kernel
end G1
set_option Elab.async false
set_option linter.all false
set_option maxRecDepth 100000
set_option maxHeartbeats 1000000
/-! Draws: struck words are reduced; lots stay small. Plain Lean. -/
namespace G1
theorem sw_sw {c : Nat} (h : Lt c) : sw (sw c) = c := h.elim (fun z => (sw_small z).2) (fun z => (sw_big z).2)
theorem rw_snoc : ∀ {a : List Nat} {c : Nat}, RW a → (∀ b, a.getLast? = some b → c ≠ sw b) → RW (a ++ [c])
  | [], _, _, _ => trivial
  | [x], c, _, h => ⟨h x rfl, trivial⟩
  | x :: y :: r, c, h, k => ⟨h.1, rw_snoc (a := y :: r) h.2 fun b hb => k b (by rw [List.getLast?_cons_cons]; exact hb)⟩
theorem rw_drop : ∀ {a : List Nat}, RW a → RW a.dropLast
  | [], _ => trivial
  | [_], _ => trivial
  | [_, _], _ => trivial
  | x :: y :: z :: r, h => ⟨h.1, rw_drop (a := y :: z :: r) h.2⟩
theorem spS_rw {f : List Nat} {c : Nat} (h : RW f) (hf : LW f) : RW (spS f c) := by
  unfold spS
  split
  · exact rw_drop h
  · rename_i hl
    refine rw_snoc h fun b hb e => hl ?_
    have hbm : b ∈ f := List.mem_of_getLast? hb
    rw [hb, e, sw_sw (hf b hbm)]
theorem strk_rw' : ∀ (w f : List Nat), RW f → LW f → LW w → RW (w.foldl spS f)
  | [], f, h, _, _ => h
  | c :: r, f, h, hf, hw => strk_rw' r (spS f c) (spS_rw h hf) (spS_lt hf (hw c List.mem_cons_self)) fun x hx => hw x (List.mem_cons_of_mem _ hx)
theorem strk_rw {w : List Nat} (h : LW w) : RW (strk w) := strk_rw' w [] trivial (fun _ h => (nomatch h)) h
theorem rw_mid : ∀ {a : List Nat} {x c : Nat} {r : List Nat}, RW (a ++ x :: c :: r) → c ≠ sw x
  | [], _, _, _, h => h.1
  | [_], _, _, _, h => h.2.1
  | _ :: z :: a, x, c, r, h => rw_mid (a := z :: a) h.2
/-- a reduced word goes through -/
theorem strk_go : ∀ (w f : List Nat), RW (f ++ w) → LW (f ++ w) → w.foldl spS f = f ++ w
  | [], f, _, _ => by rw [List.append_nil]; rfl
  | c :: r, f, h, hl => by
    have e : spS f c = f ++ [c] := by
      unfold spS
      rw [if_neg]
      intro hg
      obtain ⟨a, rfl⟩ := List.getLast?_eq_some_iff.mp hg
      have h2 : RW (a ++ sw c :: c :: r) := by simpa using h
      have hc : Lt c := hl c (by simp)
      exact rw_mid h2 (sw_sw hc).symm
    show r.foldl spS (spS f c) = _
    rw [e, strk_go r (f ++ [c]) (by simpa using h) (by simpa using hl)]
    simp
theorem strk_id {w : List Nat} (h : RW w) (hl : LW w) : strk w = w := strk_go w [] h hl
theorem strk_two {a b : List Nat} (h : RW a) (hl : LW a) : strk (a ++ b) = b.foldl spS a := by
  show (a ++ b).foldl spS [] = _
  rw [List.foldl_append]
  rw [show a.foldl spS [] = a from strk_id h hl]
theorem spS_cases (f : List Nat) (c : Nat) : spS f c = f ++ [c] ∨ ((spS f c).length + 1 ≤ f.length) := by
  unfold spS
  split
  · rename_i h
    right
    rw [List.length_dropLast]
    have : f ≠ [] := fun e => by rw [e] at h; cases h
    have := List.length_pos_iff.mpr this
    omega
  · exact .inl rfl
theorem fold_cases : ∀ (b a : List Nat), b.foldl spS a = a ++ b ∨ (b.foldl spS a).length + 2 ≤ a.length + b.length
  | [], a => .inl (by rw [List.append_nil]; rfl)
  | c :: r, a => by
    show r.foldl spS (spS a c) = _ ∨ (r.foldl spS (spS a c)).length + 2 ≤ _
    rw [List.length_cons]
    rcases spS_cases a c with e | e
    · rw [e]
      rcases fold_cases r (a ++ [c]) with h | h
      · left; rw [h]; simp
      · right
        rw [List.length_append] at h
        have : [c].length = 1 := rfl
        omega
    · right
      have := strk_len r (spS a c)
      omega
theorem strk_cases {a b : List Nat} (h : RW a) (hl : LW a) : strk (a ++ b) = a ++ b ∨ (strk (a ++ b)).length + 2 ≤ a.length + b.length := by
  rw [strk_two h hl]
  exact fold_cases b a
theorem spS_sub {f : List Nat} {c x : Nat} (h : x ∈ spS f c) : x ∈ f ∨ x = c := by
  unfold spS at h
  split at h
  · exact .inl (List.dropLast_subset _ h)
  · rcases List.mem_append.mp h with h | h
    · exact .inl h
    · exact .inr (List.mem_singleton.mp h)
theorem fold_sub : ∀ {w f : List Nat} {x : Nat}, x ∈ w.foldl spS f → x ∈ f ∨ x ∈ w
  | [], _, _, h => .inl h
  | c :: r, f, x, h => by
    rcases fold_sub (w := r) (f := spS f c) h with h | h
    · rcases spS_sub h with h | h
      · exact .inl h
      · exact .inr (by rw [h]; exact List.mem_cons_self)
    · exact .inr (List.mem_cons_of_mem _ h)
theorem strk_sub {w : List Nat} {x : Nat} (h : x ∈ strk w) : x ∈ w := (fold_sub h).elim (fun h => (nomatch h)) id
theorem ltm_sw {m c : Nat} (hm : m ≤ 4) (h : c ∈ Ltm m) : sw c ∈ Ltm m := by
  have key : ∀ m, m ≤ 4 → ∀ c ∈ Ltm m, sw c ∈ Ltm m := by decide +kernel
  exact key m hm c h
theorem und_sub {m : Nat} {w : List Nat} (hm : m ≤ 4) (h : ∀ c ∈ w, c ∈ Ltm m) : ∀ c ∈ und w, c ∈ Ltm m := fun c hc => by
  unfold und at hc
  obtain ⟨d, hd, rfl⟩ := List.mem_map.mp hc
  exact ltm_sw hm (h d (List.mem_reverse.mp hd))
/-- letters of m, reduced, short -/
structure Wr (m n : Nat) (wd : List Nat) : Prop where
  let_ : ∀ c ∈ wd, c ∈ Ltm m
  rw_ : RW wd
  len : wd.length ≤ n
theorem Wr.lw {m n : Nat} {wd : List Nat} (hm : m ≤ 4) (h : Wr m n wd) : LW wd := fun c hc => ltm_lw hm (h.let_ c hc)
theorem Wr.rw' {m n : Nat} {wd : List Nat} (m1 : 1 ≤ m) (hm : m ≤ 4) (h : Wr m n wd) (hn : n ≤ 12) : Rw m wd :=
  ⟨⟨m1, hm, h.let_, Nat.le_trans h.len (by omega)⟩, strk_id h.rw_ (h.lw hm), Nat.le_trans h.len hn⟩
theorem wr_strk {m n : Nat} {w : List Nat} (hm : m ≤ 4) (h : ∀ c ∈ w, c ∈ Ltm m) (hl : (strk w).length ≤ n) : Wr m n (strk w) :=
  ⟨fun c hc => h c (strk_sub hc), strk_rw fun c hc => ltm_lw hm (h c hc), hl⟩
theorem Drw.wr {m : Nat} {wd : List Nat} (hm : m ≤ 4) (h : Drw m 4 wd) : Wr m 4 wd := by
  obtain ⟨raw, hl, hc, rfl⟩ := h
  exact wr_strk hm hc (Nat.le_trans (strk_le raw) hl)
theorem SS_app (a b : List (List Nat)) : SS (a ++ b) = SS a + SS b := by
  unfold SS
  rw [List.map_append, List.sum_append]
theorem SS_one (a : List Nat) : SS [a] = a.length - 1 := by unfold SS; simp
theorem SS_le {n : Nat} : ∀ {l : List (List Nat)}, (∀ w ∈ l, w.length ≤ n + 1) → SS l ≤ n * l.length
  | [], _ => Nat.le_refl _
  | x :: r, h => by
    have h1 := h x List.mem_cons_self
    have h2 := SS_le (n := n) (l := r) fun w hw => h w (List.mem_cons_of_mem _ hw)
    rw [SS_cons, List.length_cons, Nat.mul_succ]
    omega
theorem SS_gap {n : Nat} : ∀ {l : List (List Nat)}, (∀ w ∈ l, w.length ≤ n + 1) → (∃ w ∈ l, w.length = 1) → SS l + n ≤ n * l.length
  | [], _, ⟨_, h, _⟩ => (nomatch h)
  | x :: r, h, ⟨w, hw, e⟩ => by
    have h1 := h x List.mem_cons_self
    have hr : ∀ w ∈ r, w.length ≤ n + 1 := fun w hw => h w (List.mem_cons_of_mem _ hw)
    rw [SS_cons, List.length_cons, Nat.mul_succ]
    rcases List.mem_cons.mp hw with e2 | hw
    · have h2 := SS_le hr
      rw [← e2, e]
      omega
    · have h2 := SS_gap hr ⟨w, hw, e⟩
      omega
/-- small enough to be folded, and so are its parts -/
def okS (us : List (List Nat)) : Prop := SS us ≤ 21 ∨ (SS us ≤ 22 ∧ ∀ w ∈ us, w.length ≠ 1)
theorem okS.safe {us : List (List Nat)} (h : okS us) : Safe (init us) := h.elim safe21 fun h => safe22 h.1 h.2
theorem okS.sub {us vs : List (List Nat)} (h : okS us) (hs : vs.Sublist us) : okS vs := by
  have e : SS vs ≤ SS us := by
    induction hs with
    | slnil => exact Nat.le_refl _
    | cons a _ ih =>
      rw [SS_cons]
      refine Nat.le_trans (ih ?_) (Nat.le_add_left _ _)
      rcases h with h | ⟨h, k⟩
      · exact .inl (by rw [SS_cons] at h; omega)
      · exact .inr ⟨by rw [SS_cons] at h; omega, fun w hw => k w (List.mem_cons_of_mem _ hw)⟩
    | cons_cons a _ ih =>
      rw [SS_cons, SS_cons]
      refine Nat.add_le_add_left (ih ?_) _
      rcases h with h | ⟨h, k⟩
      · exact .inl (by rw [SS_cons] at h; omega)
      · exact .inr ⟨by rw [SS_cons] at h; omega, fun w hw => k w (List.mem_cons_of_mem _ hw)⟩
  rcases h with h | ⟨h, k⟩
  · exact .inl (Nat.le_trans e h)
  · exact .inr ⟨Nat.le_trans e h, fun w hw => k w (hs.subset hw)⟩
theorem SS_mem {n : Nat} : ∀ {l : List (List Nat)} {w : List Nat}, (∀ w ∈ l, w.length ≤ n + 1) → w ∈ l → SS l + n ≤ (w.length - 1) + n * l.length
  | [], _, _, h => (nomatch h)
  | x :: r, w, h, hw => by
    have h1 := h x List.mem_cons_self
    have hr : ∀ w ∈ r, w.length ≤ n + 1 := fun w hw => h w (List.mem_cons_of_mem _ hw)
    rw [SS_cons, List.length_cons, Nat.mul_succ]
    rcases List.mem_cons.mp hw with e2 | hw
    · have h2 := SS_le hr
      rw [← e2]
      omega
    · have h2 := SS_mem hr hw
      omega
theorem SS_erase : ∀ {l : List (List Nat)} {i : Nat} {w : List Nat}, l[i]? = some w → SS (l.eraseIdx i) + (w.length - 1) = SS l
  | [], _, _, h => (nomatch h)
  | x :: r, 0, w, h => by
    cases h
    rw [SS_cons]
    show SS r + _ = _
    omega
  | x :: r, i + 1, w, h => by
    have := SS_erase (l := r) (i := i) h
    rw [SS_cons]
    show SS (x :: r.eraseIdx i) + _ = _
    rw [SS_cons]
    omega
/-- a lot, and each lot without one of its words, can be folded -/
def Fin_ (us : List (List Nat)) : Prop := Safe (init us) ∧ ∀ i, i < us.length → Safe (init (us.eraseIdx i))
theorem okS.fin {us : List (List Nat)} (h : okS us) : Fin_ us := ⟨h.safe, fun i _ => (h.sub (List.eraseIdx_sublist us i)).safe⟩
theorem along {m : Nat} {a b : List (List Nat)} {p wk : List Nat} (hm : m ≤ 4) (ha : ∀ w ∈ a ++ b, Wr m 4 w) (hn : (a ++ b).length ≤ 2) (hk : Wr m 4 wk) (hp : Wr m 8 p) :
    Fin_ (a ++ [strk (p ++ wk)] ++ b ++ [p]) := by
  have hab : ∀ w ∈ a ++ b, w.length ≤ 3 + 1 := fun w hw => (ha w hw).len
  have sa := SS_le hab
  have sab := SS_app a b
  have es : SS (a ++ [strk (p ++ wk)] ++ b ++ [p]) = SS (a ++ b) + ((strk (p ++ wk)).length - 1) + (p.length - 1) := by
    rw [SS_app, SS_app, SS_app, SS_app, SS_one, SS_one]
    omega
  have hpl := hp.len
  have hkl := hk.len
  have mem : ∀ w ∈ a ++ [strk (p ++ wk)] ++ b ++ [p], w ∈ a ++ b ∨ w = strk (p ++ wk) ∨ w = p := fun w hw => by
    simp only [List.mem_append, List.mem_singleton] at hw ⊢
    rcases hw with ((h | h) | h) | h
    · exact .inl (.inl h)
    · exact .inr (.inl h)
    · exact .inl (.inr h)
    · exact .inr (.inr h)
  rcases strk_cases (a := p) (b := wk) hp.rw_ (hp.lw hm) with e | e
  · rw [e] at es mem ⊢
    rw [List.length_append] at es
    by_cases h21 : SS (a ++ [p ++ wk] ++ b ++ [p]) ≤ 21
    · exact okS.fin (.inl h21)
    · have hp7 : 7 ≤ p.length := by omega
      refine ⟨safe_along (vs0 := a ++ [p ++ wk] ++ b) (v := wk) (fun w hw => ?_) (hp.lw hm) hp.rw_ (by simp) ?_ hpl (by omega), fun i hi => safe21 ?_⟩
      · simp only [List.mem_append, List.mem_singleton] at hw
        rcases hw with (h | h) | h
        · exact (ha w (List.mem_append_left _ h)).lw hm
        · rw [h]; exact lw_app (hp.lw hm) (hk.lw hm)
        · exact (ha w (List.mem_append_right _ h)).lw hm
      · rw [SS_app, SS_app, SS_one, List.length_append]
        omega
      · have er := SS_erase (List.getElem?_eq_getElem hi)
        have hw := mem _ (List.getElem_mem hi)
        generalize (a ++ [p ++ wk] ++ b ++ [p])[i] = w at er hw
        rcases hw with h | rfl | rfl
        · have := SS_mem hab h
          omega
        · rw [List.length_append] at er
          omega
        · omega
  · refine okS.fin ?_
    by_cases h1 : ∃ w ∈ a ++ [strk (p ++ wk)] ++ b ++ [p], w.length = 1
    · left
      obtain ⟨w, hw, e1⟩ := h1
      rcases mem w hw with h | rfl | rfl
      · have := SS_gap hab ⟨w, h, e1⟩
        omega
      · omega
      · omega
    · exact .inr ⟨by omega, fun w hw e1 => h1 ⟨w, hw, e1⟩⟩
/-- drawn lots: up to three short words, and perhaps a product of two behind -/
inductive Nlt (m : Nat) : List (List Nat) → Prop
  | plain {ds : List (List Nat)} (h : ∀ d ∈ ds, Wr m 4 d) (h1 : 1 ≤ ds.length) (h3 : ds.length ≤ 3) : Nlt m ds
  | prod {ds : List (List Nat)} {p : List Nat} (h : ∀ d ∈ ds, Wr m 4 d) (h1 : 1 ≤ ds.length) (h3 : ds.length ≤ 3) (hp : Wr m 8 p) : Nlt m (ds ++ [p])
theorem Nlt.wr {m : Nat} {ws : List (List Nat)} (h : Nlt m ws) : (∀ w ∈ ws, Wr m 8 w) ∧ 1 ≤ ws.length ∧ ws.length ≤ 4 ∧ SS ws ≤ 16 := by
  cases h with
  | plain h h1 h3 =>
    have := SS_le (n := 3) fun w hw => (h w hw).len
    exact ⟨fun w hw => ⟨(h w hw).let_, (h w hw).rw_, Nat.le_trans (h w hw).len (by decide)⟩, h1, by omega, by omega⟩
  | @prod ds p h h1 h3 hp =>
    have := SS_le (n := 3) fun w hw => (h w hw).len
    have hpl := hp.len
    refine ⟨fun w hw => ?_, by rw [List.length_append]; omega, by rw [List.length_append]; have : [p].length = 1 := rfl; omega, by rw [SS_app, SS_one]; omega⟩
    rcases List.mem_append.mp hw with hw | hw
    · exact ⟨(h w hw).let_, (h w hw).rw_, Nat.le_trans (h w hw).len (by decide)⟩
    · rw [List.mem_singleton.mp hw]
      exact hp
theorem erase_take (ws : List (List Nat)) (k : Nat) : ws.eraseIdx k = ws.take k ++ ws.drop (k + 1) := List.eraseIdx_eq_take_drop_succ ws k
/-- one word put together with another one -/
theorem Nlt.longer {m : Nat} {ws : List (List Nat)} (hm : m ≤ 4) (h : Nlt m ws) {k j : Nat} {wk wj : List Nat} (hk : ws[k]? = some wk) (hj : ws[j]? = some wj) (hkj : k ≠ j) (hl : (strk (wj ++ wk)).length < 13) :
    Fin_ (ws.take k ++ [strk (wj ++ wk)] ++ ws.drop (k + 1)) := by
  have gen : ∀ us : List (List Nat), us[k]? = some wk → SS us + ((strk (wj ++ wk)).length - 1) ≤ 21 + (wk.length - 1) → Fin_ (us.take k ++ [strk (wj ++ wk)] ++ us.drop (k + 1)) := fun us e hs => by
    refine okS.fin (.inl ?_)
    have er := SS_erase e
    rw [erase_take, SS_app] at er
    rw [SS_app, SS_app, SS_one]
    omega
  have sl : (strk (wj ++ wk)).length ≤ wj.length + wk.length := by
    have := strk_le (wj ++ wk)
    rw [List.length_append] at this
    exact this
  cases h with
  | plain h h1 h3 =>
    have s := SS_le (n := 3) fun w hw => (h w hw).len
    have l1 := (h wk (List.mem_of_getElem? hk)).len
    have l2 := (h wj (List.mem_of_getElem? hj)).len
    refine gen ws hk ?_
    omega
  | @prod ds p h h1 h3 hp =>
    have s := SS_le (n := 3) fun w hw => (h w hw).len
    have hpl := hp.len
    have hlen : (ds ++ [p]).length = ds.length + 1 := by rw [List.length_append]; rfl
    have hkl := (List.getElem?_eq_some_iff.mp hk).1
    have hjl := (List.getElem?_eq_some_iff.mp hj).1
    have at_p : ∀ {i : Nat} {w : List Nat}, (ds ++ [p])[i]? = some w → (i < ds.length ∧ w ∈ ds ∧ ds[i]? = some w) ∨ (i = ds.length ∧ w = p) := fun {i w} e => by
      by_cases hi : i < ds.length
      · rw [List.getElem?_append_left hi] at e
        exact .inl ⟨hi, List.mem_of_getElem? e, e⟩
      · have hi2 := (List.getElem?_eq_some_iff.mp e).1
        have e0 : i = ds.length := by omega
        rw [e0, List.getElem?_append_right (Nat.le_refl _), Nat.sub_self] at e
        cases e
        exact .inr ⟨e0, rfl⟩
    rcases at_p hk with ⟨k1, k2, k3⟩ | ⟨k1, k2⟩
    · have lk := (h wk k2).len
      rcases at_p hj with ⟨j1, j2, j3⟩ | ⟨j1, j2⟩
      · have lj := (h wj j2).len
        refine gen _ hk ?_
        rw [SS_app, SS_one]
        omega
      · subst j2
        have e1 : (ds ++ [wj]).take k = ds.take k := List.take_append_of_le_length (by omega)
        have e2 : (ds ++ [wj]).drop (k + 1) = ds.drop (k + 1) ++ [wj] := List.drop_append_of_le_length (by omega)
        rw [e1, e2]
        have z := along (a := ds.take k) (b := ds.drop (k + 1)) (wk := wk) hm (fun w hw => h w ?_) ?_ (h wk k2) hp
        · rw [← List.append_assoc]
          exact z
        · rcases List.mem_append.mp hw with hw | hw
          · exact List.take_subset _ _ hw
          · exact List.drop_subset _ _ hw
        · rw [List.length_append, List.length_take, List.length_drop]
          omega
    · subst k2
      rcases at_p hj with ⟨j1, j2, j3⟩ | ⟨j1, j2⟩
      · have lj := (h wj j2).len
        have er := SS_erase hk
        refine gen _ hk ?_
        rw [SS_app, SS_one]
        omega
      · omega
end G1
set_option Elab.async false
set_option linter.all false
set_option maxRecDepth 100000
set_option maxHeartbeats 1000000
/-! all lots of the law -/
namespace G1
structure Bas (m : Nat) (ws : List (List Nat)) : Prop where
  m1 : 1 ≤ m
  m4 : m ≤ 4
  wr : ∀ w ∈ ws, Wr m 12 w
  l1 : 1 ≤ ws.length
  l5 : ws.length ≤ 5
  ss : SS ws ≤ 16
  longer : ∀ (k j : Nat) (wk wj : List Nat), ws[k]? = some wk → ws[j]? = some wj → k ≠ j → (strk (wj ++ wk)).length < 13 → Fin_ (ws.take k ++ [strk (wj ++ wk)] ++ ws.drop (k + 1))
theorem Wr.up {m n k : Nat} {wd : List Nat} (h : Wr m n wd) (hk : n ≤ k) : Wr m k wd := ⟨h.let_, h.rw_, Nat.le_trans h.len hk⟩
theorem Nlt.bas {m : Nat} {ws : List (List Nat)} (m1 : 1 ≤ m) (m4 : m ≤ 4) (h : Nlt m ws) : Bas m ws := by
  obtain ⟨a, b, c, d⟩ := h.wr
  exact ⟨m1, m4, fun w hw => (a w hw).up (by decide), b, by omega, d, fun k j wk wj h1 h2 h3 h4 => h.longer m4 h1 h2 h3 h4⟩
theorem okSb_ok {us : List (List Nat)} (h : okSb us = true) : okS us := by
  unfold okSb at h
  rcases Bool.or_eq_true_iff.mp h with h | h
  · exact .inl (of_decide_eq_true h)
  · obtain ⟨a, b⟩ := Bool.and_eq_true_iff.mp h
    exact .inr ⟨of_decide_eq_true a, fun w hw => of_decide_eq_true (List.all_eq_true.mp b w hw)⟩
theorem okR.bas {ws : List (List Nat)} {m : Nat} (m1 : 1 ≤ m) (m4 : m ≤ 4) (h : okR ws m = true) : Bas m ws := by
  unfold okR at h
  simp only [Bool.and_eq_true] at h
  obtain ⟨⟨⟨⟨a, b⟩, c⟩, d⟩, e⟩ := h
  have hw : ∀ w ∈ ws, w.length ≤ 12 ∧ strk w = w ∧ ∀ x ∈ w, x ∈ Ltm m := fun w hw => by
    have z := List.all_eq_true.mp d w hw
    simp only [Bool.and_eq_true] at z
    exact ⟨of_decide_eq_true z.1.1, of_decide_eq_true z.1.2, fun x hx => of_decide_eq_true (List.all_eq_true.mp z.2 x hx)⟩
  refine ⟨m1, m4, fun w h => ?_, of_decide_eq_true a, of_decide_eq_true b, Nat.le_trans (of_decide_eq_true c) (by decide), fun k j wk wj hk hj hkj hl => ?_⟩
  · obtain ⟨x, y, z⟩ := hw w h
    refine ⟨z, ?_, x⟩
    rw [← y]
    exact strk_rw fun c hc => ltm_lw m4 (z c hc)
  · have kl := (List.getElem?_eq_some_iff.mp hk).1
    have jl := (List.getElem?_eq_some_iff.mp hj).1
    have z := List.all_eq_true.mp (List.all_eq_true.mp e k (List.mem_range.mpr kl)) j (List.mem_range.mpr jl)
    have ek : ws.getD k [] = wk := by rw [List.getD_eq_getElem?_getD, hk]; rfl
    have ej : ws.getD j [] = wj := by rw [List.getD_eq_getElem?_getD, hj]; rfl
    rw [ek, ej] at z
    simp only [Bool.or_eq_true, decide_eq_true_eq] at z
    rcases z with (z | z) | z
    · exact absurd z hkj
    · omega
    · exact (okSb_ok z).fin
theorem prd_wr {m : Nat} {ws : List (List Nat)} (m4 : m ≤ 4) (h : ∀ w ∈ ws, Wr m 12 w) {k : Nat} {p : List Nat} (d : Prd ws k p) : (∀ c ∈ p, c ∈ Ltm m) ∧ RW p := by
  induction d with
  | zero => exact ⟨fun _ h => (nomatch h), trivial⟩
  | @yes k p w _ hw ih =>
    have hl : ∀ c ∈ p ++ w, c ∈ Ltm m := fun c hc => (List.mem_append.mp hc).elim (ih.1 c) ((h w hw).let_ c)
    exact ⟨fun c hc => hl c (strk_sub hc), strk_rw fun c hc => ltm_lw m4 (hl c hc)⟩
  | @inv k p w _ hw ih =>
    have hl : ∀ c ∈ p ++ und w, c ∈ Ltm m := fun c hc => (List.mem_append.mp hc).elim (ih.1 c) (und_sub m4 (h w hw).let_ c)
    exact ⟨fun c hc => hl c (strk_sub hc), strk_rw fun c hc => ltm_lw m4 (hl c hc)⟩
theorem SS_rev (ws : List (List Nat)) : SS ws.reverse = SS ws := by
  unfold SS
  rw [List.map_reverse, List.sum_reverse]
/-- what a lot is that is folded -/
structure Lots (m : Nat) (us : List (List Nat)) : Prop where
  rw_ : ∀ x ∈ us, Rw m x
  l1 : 1 ≤ us.length
  l5 : us.length ≤ 5
  fin : Fin_ us
theorem Bas.lots {m : Nat} {ws : List (List Nat)} (B : Bas m ws) : Lots m ws :=
  ⟨fun x hx => (B.wr x hx).rw' B.m1 B.m4 (by decide), B.l1, B.l5, okS.fin (.inl (by have := B.ss; omega))⟩
theorem Bas.rev {m : Nat} {ws : List (List Nat)} (B : Bas m ws) : Lots m ws.reverse :=
  ⟨fun x hx => (B.wr x (List.mem_reverse.mp hx)).rw' B.m1 B.m4 (by decide), by rw [List.length_reverse]; exact B.l1, by rw [List.length_reverse]; exact B.l5, okS.fin (.inl (by rw [SS_rev]; have := B.ss; omega))⟩
theorem Bas.oth {m : Nat} {ws us : List (List Nat)} (B : Bas m ws) (o : Oth m ws us) : Lots m us := by
  have hw := fun x hx => (B.wr x hx).rw' B.m1 B.m4 (by decide)
  have m1 := B.m1
  have m4 := B.m4
  have l5 := B.l5
  have ss := B.ss
  cases o with
  | prods ps h hl =>
    have hp : ∀ p ∈ ps, Wr m 12 p := fun p hp => by
      obtain ⟨a, k, _, d⟩ := h p hp
      obtain ⟨x, y⟩ := prd_wr m4 B.wr d
      exact ⟨x, y, by omega⟩
    have s := SS_le (n := 11) fun w hw => (hp w hw).len
    have e : SS (ps ++ [[]]) = SS ps := by rw [SS_app]; rfl
    refine ⟨fun x hx => ?_, by rw [List.length_append]; exact Nat.le_add_left _ _, by rw [List.length_append]; have : [([] : List Nat)].length = 1 := rfl; omega, okS.fin ?_⟩
    · rcases List.mem_append.mp hx with hx | hx
      · exact (hp x hx).rw' m1 m4 (by decide)
      · rw [List.mem_singleton.mp hx]
        exact Wr.rw' (n := 0) m1 m4 ⟨fun _ h => (nomatch h), trivial, Nat.le_refl _⟩ (by decide)
    · by_cases h1 : ∃ w ∈ ps, w.length = 1
      · have := SS_gap (n := 11) (fun w hw => (hp w hw).len) h1
        exact .inl (by omega)
      · refine .inr ⟨by omega, fun w hw e1 => ?_⟩
        rcases List.mem_append.mp hw with hw | hw
        · exact h1 ⟨w, hw, e1⟩
        · rw [List.mem_singleton.mp hw] at e1
          cases e1
  | @longer k j wk wj hk hj hkj hl =>
    have kl := (List.getElem?_eq_some_iff.mp hk).1
    have a1 := B.wr wk (List.mem_of_getElem? hk)
    have a2 := B.wr wj (List.mem_of_getElem? hj)
    refine ⟨fun x hx => ?_, ?_, ?_, B.longer k j wk wj hk hj hkj hl⟩
    · simp only [List.mem_append, List.mem_singleton] at hx
      rcases hx with (hx | hx) | hx
      · exact hw x (List.take_subset _ _ hx)
      · rw [hx]
        exact (wr_strk (n := 12) m4 (fun c hc => (List.mem_append.mp hc).elim (a2.let_ c) (a1.let_ c)) (by omega)).rw' m1 m4 (by decide)
      · exact hw x (List.drop_subset _ _ hx)
    · simp only [List.length_append, List.length_singleton]
      omega
    · simp only [List.length_append, List.length_singleton, List.length_take, List.length_drop]
      omega
  | @less k h hk =>
    have hs : (ws.take k ++ ws.drop (k + 1)).Sublist ws := by rw [← erase_take]; exact List.eraseIdx_sublist ws k
    refine ⟨fun x hx => hw x (hs.subset hx), ?_, Nat.le_trans hs.length_le l5, okS.fin (okS.sub (.inl (by omega)) hs)⟩
    rw [List.length_append, List.length_take, List.length_drop]
    omega
  | @more d h =>
    have hd := h.wr m4
    have hs : ((ws ++ [d]).take 5).Sublist (ws ++ [d]) := List.take_sublist _ _
    refine ⟨fun x hx => ?_, ?_, List.length_take_le _ _, okS.fin (okS.sub (.inl ?_) hs)⟩
    · rcases List.mem_append.mp (hs.subset hx) with hx | hx
      · exact hw x hx
      · rw [List.mem_singleton.mp hx]
        exact hd.rw' m1 m4 (by decide)
    · rw [List.length_take, List.length_append]
      have : [d].length = 1 := rfl
      omega
    · rw [SS_app, SS_one]
      have := hd.len
      omega
  | back => exact B.rev
  | fresh _ h h1 h3 =>
    have s := SS_le (n := 3) fun w hw => ((h w hw).wr m4).len
    exact ⟨fun x hx => ((h x hx).wr m4).rw' m1 m4 (by decide), h1, by omega, okS.fin (.inl (by omega))⟩
theorem Lots.okl {m : Nat} {us : List (List Nat)} (L : Lots m us) : Okl us :=
  ⟨fun x hx => (L.rw_ x hx).wm.w4, fun x hx => Nat.le_trans (L.rw_ x hx).len (by decide), Nat.le_trans L.l5 (by decide), L.fin.1⟩
theorem Lots.okl1 {m : Nat} {us : List (List Nat)} (L : Lots m us) (i : Nat) (hi : i < us.length) : Okl (us.eraseIdx i) := by
  have hs := List.eraseIdx_sublist us i
  exact ⟨fun x hx => (L.rw_ x (hs.subset hx)).wm.w4, fun x hx => Nat.le_trans (L.rw_ x (hs.subset hx)).len (by decide), Nat.le_trans hs.length_le (Nat.le_trans L.l5 (by decide)), L.fin.2 i hi⟩
end G1
set_option Elab.async false
set_option linter.all false
set_option maxRecDepth 100000
set_option maxHeartbeats 4000000
/-! the law: pairs of lots -/
namespace G1
open PySem PySem.Spec PyProof.Rows _root_.L2
open PySem.W (Datum DatumOrd T3 T4 Tup)
section
variable {P : Program} {w : World} {K : PySem.W.Frag} {mg : Str → Option Value} {base : Heap} {CF CR CL : Addr}
def spPair : Sp := fun vs H Q _ => ∃ (m : Nat) (l l2 : Addr) (ws us : List (List Nat)), vs = [.int m, .ref l, .ref l2] ∧ H l = some (.lst (txs ws)) ∧ H l2 = some (.lst (txs us)) ∧ Lots m ws ∧ Lots m us ∧ ∀ H', Same H H' → Q (.bl true) H'
theorem scPair : FnScope ["_law_many", "_law_words_here", "_law_others_here", "_law_mine", "_law_mate", "_law_due", "_law_told"] ["_law_many", "_law_words_here", "_law_others_here"] (defScope (top 72)) := ⟨rfl, rfl, rfl, by decide +kernel, rfl, by decide +kernel, by decide +kernel⟩
def d2 (a b : Bool) : List PyData := [.bool a, .bool b]
theorem d2_ok (a b : Bool) : PyData.showableAll (d2 a b) = true ∧ PyData.hasDictAll (d2 a b) = false ∧ PyData.depthAll (d2 a b) ≤ 10 ∧ (PyData.shown (.list (d2 a b))).length ≤ sizeLine := by
  refine ⟨by cases a <;> cases b <;> rfl, by cases a <;> cases b <;> rfl, by cases a <;> cases b <;> decide, ?_⟩
  cases a <;> cases b <;> decide +kernel
theorem d2_dp {H : Hp} {p : Addr} {a b : Bool} (h : H p = some (.lst [.bl a, .bl b])) : Dp K H (.ref p) (.list (d2 a b)) := .lst (.inl (.inl h)) (.cons (.bl _) (.cons (.bl _) .nil))
theorem c_pair (T : Tx K mg CF CR CL) (LFo : Cal P w K mg base 4 "_law_folded" (spLf K)) : CalG P w K mg base 12 "_law_pair_right" spPair := by
  refine calg T.l_pair_right scPair (fun vs H Q E h => ?_) (fun _ _ _ _ _ _ us hl => match us, hl with | [_, _, _], _ => rfl) fun f cdv A outer s H vs Q E hr hgd h => ?_
  · obtain ⟨_, _, _, _, _, rfl, _⟩ := h; rfl
  · obtain ⟨m, l, l2, ws, us, rfl, hl, hl2, Lw, Lu, q⟩ := h
    refine ⟨_, pss_cons (ps_par (i := 3) (j := 4) (by rfl) scPair.nd rfl rfl (by decide) rfl rfl (pa_cons (pe_c (c_llot T) hr (by decide) rfl (pa_cons (pv 0) (pa_cons (pv 1) pa_nil))) (pa_cons (pe_c (c_llot T) hr (by decide) rfl (pa_cons (pv 0) (pa_cons (pv 2) pa_nil))) pa_nil)) (by rfl))
      (pss_cons (ps_set (i := 5) scPair.nd rfl (.inl rfl) (pe_lst (pa_cons (pe_c (c_lwithin T LFo) hr (by decide) rfl (pa_cons (pv 1) (pa_cons (pv 2) pa_nil))) (pa_cons (pe_c (c_lwithin T LFo) hr (by decide) rfl (pa_cons (pv 2) (pa_cons (pv 1) pa_nil))) pa_nil))))
      (pss_cons (ps_set (i := 6) scPair.nd rfl (.inl rfl) (pe_lst (pa_cons (pe_c (c_rows_within T) hr (by decide) rfl (pa_cons (pv 3) (pa_cons (pv 4) pa_nil))) (pa_cons (pe_cN (n_within T) hr (by decide) rfl (pk_cons (pv 3) (pk_cons (pv 4) pk_nil))) pa_nil))))
      (pss_cons (ps_if (pt_cmpR op_ne (pe_callB (call_reprL hgd hr.units) (by rfl) (T.nb "repr") (by decide +kernel) (pa_cons (pv 6) pa_nil)) (pe_callB (call_reprL hgd hr.units) (by rfl) (T.nb "repr") (by decide +kernel) (pa_cons (pv 5) pa_nil)) (nomark _)) (pss_one (ps_ret pe_bl)) pss_nil)
      (pss_one (ps_ret (pe_cmpR op_eq (pe_callB (call_reprL hgd hr.units) (by rfl) (T.nb "repr") (by decide +kernel) (pa_cons (pe_lst (pa_cons (pe_c (c_same_rows T) hr (by decide) rfl (pa_cons (pv 3) (pa_cons (pv 4) pa_nil))) (pa_cons (pe_cN (n_same T) hr (by decide) rfl (pk_cons (pv 3) (pk_cons (pv 4) pk_nil))) pa_nil))) pa_nil))
        (pe_callB (call_reprL hgd hr.units) (by rfl) (T.nb "repr") (by decide +kernel) (pa_cons (pe_op op_rep (pe_lst (pa_cons (pe_and (pe_ix ix_list (pv 5) pe_int (fun _ _ => rfl)) (pe_one (pe_ix ix_list (pv 5) pe_int (fun _ _ => rfl)))) pa_nil)) pe_int) pa_nil)) (nomark _))))))), ?_⟩
    have okw := Lw.okl
    have oku := Lu.okl
    have cw : ∀ x ∈ ws, W4 x ∧ x.length ≤ 12 := fun x hx => ⟨okw.w4 x hx, (Lw.rw_ x hx).len⟩
    have cu : ∀ x ∈ us, W4 x ∧ x.length ≤ 12 := fun x hx => ⟨oku.w4 x hx, (Lu.rw_ x hx).len⟩
    refine ⟨_, rfl, _, rfl, m, l, ws, rfl, hl, Lw.rw_, Lw.l1, Lw.l5, fun H1 r1 s1 lot1 => ?_⟩
    refine ⟨_, rfl, _, rfl, m, l2, us, rfl, s1 _ _ hl2, Lu.rw_, Lu.l1, Lu.l5, fun H2 r2 s2 lot2 => ⟨_, _, rfl, ?_⟩⟩
    have S2 := s1.trans s2
    refine ⟨_, rfl, _, rfl, l, l2, ws, us, rfl, S2 _ _ hl, S2 _ _ hl2, okw.n, cu, Lu.l5, fun H3 b1 s3 hb1 => ?_⟩
    have S3 := S2.trans s3
    refine ⟨_, rfl, _, rfl, l2, l, us, ws, rfl, S3 _ _ hl2, S3 _ _ hl, oku.n, cw, Lw.l5, fun H4 b2 s4 hb2 => ⟨ln2 _ _, fun pd npd => ?_⟩⟩
    have t4 := same_upd (o := .lst [.bl b1, .bl b2]) npd
    have lot1' := ((lot1.go s2).go (s3.trans s4)).go t4
    have lot2' := (lot2.go (s3.trans s4)).go t4
    refine ⟨_, rfl, _, rfl, r1, r2, m, ws, us, rfl, lot1', lot2', oku, okw.len, Lw.l1, okw.n, Lu.l1, fun H5 c1 s5 hc1 => ?_⟩
    refine ⟨_, rfl, _, rfl, r2, r1, m, us, ws, rfl, lot2'.go s5, lot1'.go s5, okw, oku.len, Lu.l1, oku.n, Lw.l1, fun H6 c2 s6 hc2 => ⟨ln2 _ _, fun pt npt => ?_⟩⟩
    have e1 : c1 = b1 := Bool.eq_iff_iff.mpr (hc1.trans hb1.symm)
    have e2 : c2 = b2 := Bool.eq_iff_iff.mpr (hc2.trans hb2.symm)
    subst e1 e2
    have t6 := same_upd (o := .lst [.bl c1, .bl c2]) npt
    have hpd : (upd H6 pt (.lst [.bl c1, .bl c2])) pd = some (.lst [.bl c1, .bl c2]) := t6 _ _ (s6 _ _ (s5 _ _ upd_same))
    obtain ⟨k1, k2, k3', k4⟩ := d2_ok c1 c2
    refine ⟨_, rfl, pt, _, _, rfl, d2_dp upd_same, k1, k2, k3', k4, _, rfl, pd, _, _, rfl, d2_dp hpd, k1, k2, k3', k4, rfl, _, rfl, ?_⟩
    have en : (!decide (V.str (PyData.shown (.list (d2 c1 c2))) = V.str (PyData.shown (.list (d2 c1 c2))))) = false := by simp
    refine ite2 (fun h => absurd (show (!decide (V.str (PyData.shown (.list (d2 c1 c2))) = V.str (PyData.shown (.list (d2 c1 c2))))) = true from h) (by rw [en]; decide)) (fun _ => ?_)
    have ta := (s5.trans s6).trans t6
    have lot1a := lot1'.go ta
    have lot2a := lot2'.go ta
    refine ⟨_, rfl, _, rfl, r1, r2, m, ws, us, rfl, lot1a, lot2a, okw, oku, Lw.l1, Lu.l1, fun H7 f1 s7 hf1 => ?_⟩
    refine ⟨_, rfl, _, rfl, r2, r1, m, us, ws, rfl, lot2a.go s7, lot1a.go s7, oku, okw, Lu.l1, Lw.l1, fun H8 f2 s8 hf2 => ⟨ln2 _ _, fun pf npf => ?_⟩⟩
    have g1 : f1 = (c1 && c2) := Bool.eq_iff_iff.mpr (by rw [hf1, Bool.and_eq_true, hb1, hb2])
    have g2 : f2 = (c1 && c2) := Bool.eq_iff_iff.mpr (by rw [hf2, Bool.and_eq_true, hb1, hb2]; exact And.comm)
    subst g1 g2
    obtain ⟨m1, m2, m3, m4⟩ := d2_ok (c1 && c2) (c1 && c2)
    have t8 := same_upd (o := .lst [.bl (c1 && c2), .bl (c1 && c2)]) npf
    have hpd8 := t8 _ _ (s8 _ _ (s7 _ _ hpd))
    refine ⟨pf, _, _, rfl, d2_dp upd_same, m1, m2, m3, m4, ?_⟩
    have S9 := ((((S3.trans s4).trans t4).trans ta).trans (s7.trans s8)).trans t8
    have done : ∀ (p1 p2 : Addr), (upd (upd H8 pf (.lst [.bl (c1 && c2), .bl (c1 && c2)])) p1 (.lst [.bl (c1 && c2)])) p2 = none → (upd H8 pf (.lst [.bl (c1 && c2), .bl (c1 && c2)])) p1 = none →
        Same H (upd (upd (upd H8 pf (.lst [.bl (c1 && c2), .bl (c1 && c2)])) p1 (.lst [.bl (c1 && c2)])) p2 (.lst (List.replicate (2 : Int).toNat [.bl (c1 && c2)]).flatten)) := fun p1 p2 n2 n1 => (S9.trans (same_upd n1)).trans (same_upd n2)
    have eqs : decide (V.str (PyData.shown (.list (d2 (c1 && c2) (c1 && c2)))) = V.str (PyData.shown (.list (d2 (c1 && c2) (c1 && c2))))) = true := by simp
    refine ⟨_, rfl, pd, _, 0, _, rfl, rfl, .inl (.inl hpd8), atI_nat (j := 0) rfl, c1, rfl, ?_⟩
    cases c1 with
    | true =>
      refine iteT ⟨_, rfl, pd, _, 1, _, rfl, rfl, .inl (.inl hpd8), atI_nat (j := 1) rfl, ln1 _, fun p1 n1 => ?_⟩
      refine ⟨p1, 2, [.bl (true && c2)], rfl, rfl, upd_same, by decide, by decide, (by show 1 * 2 ≤ sizeLine; decide), fun p2 n2 => ?_⟩
      refine ⟨p2, _, _, rfl, d2_dp (a := true && c2) (b := true && c2) upd_same, m1, m2, m3, m4, rfl, ?_⟩
      exact Eq.mpr (congrArg (fun b : Bool => Q (.bl b) _) eqs) (q _ (done p1 p2 n2 n1))
    | false =>
      refine iteF ⟨ln1 _, fun p1 n1 => ?_⟩
      refine ⟨p1, 2, [.bl (false && c2)], rfl, rfl, upd_same, by decide, by decide, (by show 1 * 2 ≤ sizeLine; decide), fun p2 n2 => ?_⟩
      refine ⟨p2, _, _, rfl, d2_dp (a := false && c2) (b := false && c2) upd_same, m1, m2, m3, m4, rfl, ?_⟩
      exact Eq.mpr (congrArg (fun b : Bool => Q (.bl b) _) eqs) (q _ (done p1 p2 n2 n1))
end
end G1
set_option Elab.async false
set_option linter.all false
set_option maxRecDepth 100000
set_option maxHeartbeats 4000000
/-! the law: needless rows -/
namespace G1
open PySem PySem.Spec PyProof.Rows _root_.L2
open PySem.W (Datum DatumOrd T3 T4 Tup)
def sbs : List Nat → List (List Nat)
  | [] => [[]]
  | x :: r => (sbs r).flatMap fun l => [l, x :: l]
theorem filter_sbs (f : Nat → Bool) : ∀ l : List Nat, l.filter f ∈ sbs l
  | [] => List.mem_cons_self
  | x :: r => by
    refine List.mem_flatMap.mpr ⟨_, filter_sbs f r, ?_⟩
    cases h : f x
    · rw [List.filter_cons_of_neg (by rw [h]; decide)]
      exact List.mem_cons_self
    · rw [List.filter_cons_of_pos h]
      exact List.mem_cons_of_mem _ List.mem_cons_self
def tD2 (L : List Nat) : List PyData := [.tuple (L.map fun i : Nat => .int (i : Int)), .tuple (L.map fun i : Nat => .int (i : Int))]
def chk2 (L : List Nat) : Bool := PyData.showableAll (tD2 L) && (!PyData.hasDictAll (tD2 L) && (decide (PyData.depthAll (tD2 L) ≤ 10) && decide ((PyData.shown (.list (tD2 L))).length ≤ 1000)))
theorem chk_all : ∀ L ∈ sbs (List.range 5), chk2 L = true := by decide +kernel
theorem chk_ok {n : Nat} (h : n ≤ 5) (f : Nat → Bool) : PyData.showableAll (tD2 ((List.range n).filter f)) = true ∧ PyData.hasDictAll (tD2 ((List.range n).filter f)) = false ∧ PyData.depthAll (tD2 ((List.range n).filter f)) ≤ 10 ∧ (PyData.shown (.list (tD2 ((List.range n).filter f)))).length ≤ sizeLine := by
  have e : (List.range n).filter f = (List.range 5).filter (fun i => decide (i < n) && f i) := by
    have key : ∀ n, n ≤ 5 → List.range n = (List.range 5).filter (fun i => decide (i < n)) := by decide
    rw [key n h, List.filter_filter]
    congr 1
    funext i
    exact Bool.and_comm _ _
  rw [e]
  have z := chk_all _ (filter_sbs (fun i => decide (i < n) && f i) (List.range 5))
  unfold chk2 at z
  simp only [Bool.and_eq_true, Bool.not_eq_true', decide_eq_true_eq] at z
  obtain ⟨a, b, c, d⟩ := z
  exact ⟨a, b, c, Nat.le_trans d (by decide)⟩
section
variable {P : Program} {w : World} {K : PySem.W.Frag} {mg : Str → Option Value} {base : Heap} {CF CR CL : Addr}
def spNr : Sp := fun vs H Q _ => ∃ (m : Nat) (l : Addr) (us : List (List Nat)), vs = [.int m, .ref l] ∧ H l = some (.lst (txs us)) ∧ Lots m us ∧ ∀ H', Same H H' → Q (.bl true) H'
theorem scNr : FnScope ["_law_many", "_law_words_here", "_law_due", "_law_k", "_law_mine"] ["_law_many", "_law_words_here"] (defScope (top 73)) := ⟨rfl, rfl, rfl, by decide +kernel, rfl, by decide +kernel, by decide +kernel⟩
theorem c_lneed (T : Tx K mg CF CR CL) (LFo : Cal P w K mg base 4 "_law_folded" (spLf K)) : CalG P w K mg base 12 "_law_needless_right" spNr := by
  refine calg T.l_needless_right scNr (fun vs H Q E h => ?_) (fun _ _ _ _ _ _ us hl => match us, hl with | [_, _], _ => rfl) fun f cdv A outer s H vs Q E hr hgd h => ?_
  · obtain ⟨_, _, _, rfl, _⟩ := h; rfl
  · obtain ⟨m, l, us, rfl, hl, L, q⟩ := h
    refine ⟨_, pss_cons (ps_set (i := 2) scNr.nd rfl (.inl rfl) (pe_lst pa_nil))
      (pss_cons (ps_for PassesOwn.never rfl (pi_range1 rfl (T.nb "range") (pa_cons (pe_callB call_len_seq (by rfl) (T.nb "len") boot_len (pa_cons (pv 1) pa_nil)) pa_nil)) (pg_name (i := 3) scNr.nd rfl (.inl rfl))
        (pss_one (ps_if (pt_cmpR op_eq (pe_c (c_walk T) hr (by decide) rfl (pa_cons (pe_c (c_ends T) hr (by decide) rfl (pa_cons (pe_c LFo hr (by decide) rfl (pa_cons (pe_op op_cat (pe_slice sl_list (pv 1) po_none (po_some (pv 3))) (pe_slice sl_list (pv 1) (po_some (pe_op op_add (pv 3) pe_int)) po_none)) pa_nil)) pa_nil)) (pa_cons pe_int (pa_cons (pe_ix ix_list (pv 1) (pv 3) (fun _ _ => rfl)) pa_nil)))) pe_int (nomark _))
          (pss_one (ps_expr (pe_bm PySem.F.plainAttrs_list PySem.F.slot_list_append PySem.F.type_list_append mt_append (pv 2) (pa_cons (pv 3) pa_nil)))) pss_nil)))
      (pss_cons (ps_set (i := 4) scNr.nd rfl (.inl rfl) (pe_c (c_llot T) hr (by decide) rfl (pa_cons (pv 0) (pa_cons (pv 1) pa_nil))))
      (pss_one (ps_ret (pe_cmpR op_eq (pe_callB (call_reprL hgd hr.units) (by rfl) (T.nb "repr") (by decide +kernel) (pa_cons (pe_lst (pa_cons (pe_c (c_needless T) hr (by decide) rfl (pa_cons (pv 4) pa_nil)) (pa_cons (pe_cN (n_needless T) hr (by decide) rfl (pk_cons (pv 4) pk_nil)) pa_nil))) pa_nil))
        (pe_callB (call_reprL hgd hr.units) (by rfl) (T.nb "repr") (by decide +kernel) (pa_cons (pe_op op_rep (pe_lst (pa_cons (pe_tupleOf rfl (T.nb "tuple") (pv 2)) pa_nil)) pe_int) pa_nil)) (nomark _)))))), ?_⟩
    have ok := L.okl
    have l5 := L.l5
    refine ⟨Nat.zero_le _, fun p np => ?_⟩
    have s0 := same_upd (o := .lst []) np
    refine ⟨_, rfl, l, txs us, rfl, .inl (.inl (.inl (s0 _ _ hl))), ((us.length : Nat) : Int), by rw [txs_len], ?_, ?_, ?_⟩
    · show -(2 ^ 62 : Int) ≤ ((us.length : Nat) : Int)
      omega
    · show ((us.length : Nat) : Int) < 2 ^ 62
      omega
    refine for_it (walk_range (lo := 0) (n := us.length)) (fun i σ H' => ∃ y3 y4, ∃ bs : Nat → Bool, σ = [some (.int m), some (.ref l), some (.ref p), y3, y4] ∧ Same H H' ∧ H' p = some (.lst (nts ((List.range i).filter bs))) ∧ ∀ j wd, j < i → us[j]? = some wd → (bs j = true ↔ Acc (us.eraseIdx j) wd))
      ⟨none, none, fun _ => false, rfl, s0, upd_same, fun _ _ h => absurd h (Nat.not_lt_zero _)⟩ (fun _ _ _ _ _ => trivial) ?_ ?_
    · rintro i x σ H0 H1 hi ⟨y3, y4, bs, rfl, sm, hp, hbs⟩ ⟨rfl, rfl⟩
      have e00 : (fun i : Nat => V.int (0 + (i : Int))) i = V.int (i : Int) := by
        show V.int (0 + (i : Int)) = _
        rw [Int.zero_add]
      rw [e00]
      obtain ⟨wd, hwd⟩ : ∃ wd, us[i]? = some wd := ⟨_, List.getElem?_eq_getElem hi⟩
      have hl1 := sm _ _ hl
      refine ⟨_, rfl, _, rfl, (i : Int), rfl, l, txs us, rfl, .inl (.inl hl1), fun p1 n1 => ?_⟩
      have t1 := same_upd (o := .lst (cutV (txs us) none (some (i : Int)))) n1
      refine ⟨_, rfl, _, rfl, _, _, rfl, rfl, ((i + 1 : Nat) : Int), rfl, npI ?_⟩
      refine ⟨l, txs us, rfl, .inl (.inl (t1 _ _ hl1)), fun p2 n2 => ?_⟩
      have t2 := t1.trans (same_upd (o := .lst (cutV (txs us) (some ((i + 1 : Nat) : Int)) none)) n2)
      refine ⟨p1, p2, _, _, rfl, rfl, same_upd n2 _ _ upd_same, upd_same, ?_, fun p3 n3 => ?_⟩
      · rw [cutV_take, cutV_drop, List.length_take, List.length_drop, txs_len]
        exact Nat.le_trans (m := 10) (by omega) (by decide)
      have t3 := t2.trans (same_upd (o := .lst (cutV (txs us) none (some (i : Int)) ++ cutV (txs us) (some ((i + 1 : Nat) : Int)) none)) n3)
      have e3 : cutV (txs us) none (some (i : Int)) ++ cutV (txs us) (some ((i + 1 : Nat) : Int)) none = txs (us.eraseIdx i) := by
        rw [cutV_take, cutV_drop, erase_take]
        unfold txs
        rw [List.map_append, List.map_take, List.map_drop]
      have ok1 := L.okl1 i hi
      have h3 := (upd_same (H := upd (upd H1 p1 (.lst (cutV (txs us) none (some (i : Int))))) p2 (.lst (cutV (txs us) (some ((i + 1 : Nat) : Int)) none))) (a := p3) (o := .lst (cutV (txs us) none (some (i : Int)) ++ cutV (txs us) (some ((i + 1 : Nat) : Int)) none))).trans (congrArg (fun z => some (HO.lst z)) e3)
      refine ⟨p3, us.eraseIdx i, rfl, h3, fun x hx => ⟨ok1.w4 x hx, (L.rw_ x (List.mem_of_mem_eraseIdx hx)).len⟩, by have := List.length_eraseIdx_le us i; omega, fun H4 pf fs ts s4 npf hpf hdf A4 l4 htl => ?_⟩
      refine ⟨pf, fs, ts, rfl, .inl (.inl hpf), hdf, l4, htl, fun H5 d kvs s5 nd hdT DD nk => ?_⟩
      have t5 := t3.trans (s4.trans s5)
      have atw : (txs us)[i]? = some (.str (tx wd)) := by unfold txs; rw [List.getElem?_map, hwd]; rfl
      refine ⟨_, rfl, _, rfl, l, txs us, i, _, rfl, rfl, .inl (.inl (t5 _ _ hl1)), atI_nat atw, d, kvs, ts, wd, rfl, hdT, DD, nk, fun H6 r s6 hr6 => ⟨rfl, _, rfl, ?_⟩⟩
      rw [wlk_path A4.det, ← acc_iff A4] at hr6
      have t6 := t5.trans s6
      have hp6 := t6 _ _ hp
      have next : ∀ b : Bool, (b = true ↔ Acc (us.eraseIdx i) wd) → ∀ j wd', j < i + 1 → us[j]? = some wd' → ((if j = i then b else bs j) = true ↔ Acc (us.eraseIdx j) wd') := fun b hb j wd' hj e => by
        by_cases hji : j = i
        · subst hji
          rw [hwd] at e
          cases e
          simpa using hb
        · have := hbs j wd' (by omega) e
          simpa [hji] using this
      have er : ∀ b : Bool, (List.range (i + 1)).filter (fun j => if j = i then b else bs j) = (List.range i).filter bs ++ if b = true then [i] else [] := fun b => by
        rw [List.range_succ, List.filter_append]
        congr 1
        · refine List.filter_congr fun j hj => ?_
          have := List.mem_range.mp hj
          simp [Nat.ne_of_lt this]
        · cases b <;> simp
      refine ite2 (fun h => ?_) (fun h => ?_)
      · have h0 : r = 0 := by
          have := of_decide_eq_true h
          injection this
        refine ⟨_, rfl, .inl ⟨rfl, _, .inl (.inl hp6)⟩, _, rfl, p, _, _, rfl, rfl, hp6, ?_, _, _, fun j => if j = i then true else bs j, rfl, (sm.trans t6).set np, ?_, next true ⟨fun _ => hr6.mp h0, fun _ => rfl⟩⟩
        · rw [List.length_map]
          have := List.length_filter_le bs (List.range i)
          rw [List.length_range] at this
          exact Nat.lt_of_le_of_lt (m := 10) (by omega) (by decide)
        · rw [upd_same, er true]
          simp [nts]
      · have h0 : r ≠ 0 := fun e => h (by rw [e]; exact decide_eq_true rfl)
        refine ⟨_, _, fun j => if j = i then false else bs j, rfl, sm.trans t6, ?_, next false ⟨fun z => (nomatch z), fun z => absurd (hr6.mpr z) h0⟩⟩
        rw [er false]
        simpa [nts] using hp6
    · rintro σ H1 ⟨y3, y4, bs, rfl, sm, hp, hbs⟩
      refine ⟨_, rfl, _, rfl, m, l, us, rfl, sm _ _ hl, L.rw_, L.l1, L.l5, fun H2 r s2 lot => ?_⟩
      have hlen : ∀ x ∈ us, x.length ≤ 100 := ok.len
      have same : ∀ b : Nat → Bool, (∀ i wd, us[i]? = some wd → (b i = true ↔ Acc (us.eraseIdx i) wd)) → (List.range us.length).filter b = (List.range us.length).filter bs := fun b hb => by
        refine List.filter_congr fun j hj => ?_
        have hjl := List.mem_range.mp hj
        obtain ⟨wd, e⟩ : ∃ wd, us[j]? = some wd := ⟨_, List.getElem?_eq_getElem hjl⟩
        exact Bool.eq_iff_iff.mpr ((hb j wd e).trans (hbs j wd hjl e).symm)
      refine ⟨_, rfl, r, m, us, rfl, lot, L.okl1, hlen, ok.n, fun H3 v1 b1 s3 hb1 d1 => ?_⟩
      refine ⟨_, rfl, r, m, us, rfl, lot.go s3, L.okl1, hlen, ok.n, fun H4 v2 b2 s4 hb2 d2' => ⟨ln2 _ _, fun p5 n5 => ?_⟩⟩
      rw [same b1 hb1] at d1
      rw [same b2 hb2] at d2'
      have t5 := same_upd (o := .lst [v1, v2]) n5
      obtain ⟨k1, k2, k3', k4⟩ := chk_ok l5 bs
      refine ⟨p5, _, _, rfl, .lst (.inl (.inl upd_same)) (.cons (((d1.move (kp_same s4)).move (kp_same t5)).dp) (.cons ((d2'.move (kp_same t5)).dp) .nil)), k1, k2, k3', k4, ?_⟩
      have hp5 := t5 _ _ (s4 _ _ (s3 _ _ (s2 _ _ hp)))
      refine ⟨_, rfl, .inl ⟨p, _, rfl, .inl (.inl hp5), fun t6 n6 => ⟨ln1 _, fun p7 n7 => ?_⟩⟩⟩
      refine ⟨p7, 2, [.ref t6], rfl, rfl, upd_same, by decide, by decide, (by show 1 * 2 ≤ sizeLine; decide), fun p8 n8 => ?_⟩
      have key : ∀ (Hx : Hp) (l : List Nat), DtAll K Hx (nts l) (l.map fun i : Nat => .int (i : Int)) := by
        intro Hx l
        induction l with
        | nil => exact .nil
        | cons c r ih => exact .cons (.int _) ih
      have dt6 : Dt K _ (.ref t6) (.tuple (((List.range us.length).filter bs).map fun i : Nat => .int (i : Int))) := .tup (.inl (.inl (upd_same (H := upd H4 p5 (.lst [v1, v2])) (a := t6) (o := .tup (nts ((List.range us.length).filter bs)))))) (key _ _)
      have dt8 := (dt6.move (kp_new (o := .lst [.ref t6]) n7)).move (kp_new (o := .lst (List.replicate (2 : Int).toNat [.ref t6]).flatten) n8)
      refine ⟨p8, _, _, rfl, .lst (.inl (.inl upd_same)) (.cons dt8.dp (.cons dt8.dp .nil)), k1, k2, k3', k4, rfl, ?_⟩
      have eqs : decide (V.str (PyData.shown (.list (tD2 ((List.range us.length).filter bs)))) = V.str (PyData.shown (.list (tD2 ((List.range us.length).filter bs))))) = true := by simp
      exact Eq.mpr (congrArg (fun b : Bool => Q (.bl b) _) eqs) (q _ ((((sm.trans (s2.trans (s3.trans (s4.trans t5)))).trans (same_upd n6)).trans (same_upd n7)).trans (same_upd n8)))
end
end G1
set_option Elab.async false
set_option linter.all false
set_option maxRecDepth 100000
set_option maxHeartbeats 4000000
/-! the law: one till -/
namespace G1
open PySem PySem.Spec PyProof.Rows _root_.L2
open PySem.W (Datum DatumOrd T3 T4 Tup)
theorem fld_a {wl : List (List Nat)} (h : ∀ w ∈ wl, w = [97] ∨ w = []) (hm : [97] ∈ wl) : Fld wl [⟨0, 97, 0, []⟩] := by
  refine ⟨fun t ht => by rw [List.mem_singleton.mp ht]; exact ⟨by decide, by decide⟩, fun p c q q' s s' => ?_, fun us _ _ hw => ⟨id, rfl, fun t ht => ?_⟩, fun w hw => ?_⟩
  · obtain ⟨t, ht, rfl, rfl, rfl⟩ := s
    obtain ⟨t', ht', e1, e2, rfl⟩ := s'
    have key : ∀ t ∈ hf [⟨0, 97, 0, []⟩], t.e = 0 := by
      intro t ht
      obtain ⟨u, hu, e⟩ := mem_hf.mp ht
      rw [List.mem_singleton.mp hu] at e
      rcases e with rfl | rfl <;> rfl
    rw [key t ht, key t' ht']
  · rw [List.mem_singleton.mp ht]
    obtain ⟨x, s, e⟩ := hw [97] hm
    have e' : x = 0 := e
    rw [e'] at s
    exact s
  · rcases h w hw with rfl | rfl
    · exact ⟨0, ⟨_, mem_hf.mpr ⟨_, List.mem_cons_self, .inl rfl⟩, rfl, rfl, rfl⟩, rfl⟩
    · rfl
theorem fld_go {wl : List (List Nat)} {N : Nat} : ∀ (n : Nat) (ts : List Tie), Und wl N ts → G1.vs ts N ≤ n → ∃ us, Fld wl us := by
  intro n
  induction n with
  | zero =>
    intro ts U h
    cases hc : G1.clash ts with
    | none => exact ⟨ts, U.fld hc⟩
    | some q =>
      have C := clash_some (one := q.1) (other := q.2) hc
      have := vs_join C U.lt
      omega
  | succ n ih =>
    intro ts U h
    cases hc : G1.clash ts with
    | none => exact ⟨ts, U.fld hc⟩
    | some q =>
      have C := clash_some (one := q.1) (other := q.2) hc
      have := vs_join C U.lt
      exact ih _ (und_join U C) (by omega)
theorem acc_in {wl : List (List Nat)} (h : ∀ w ∈ wl, LW w) {x : List Nat} (hx : x ∈ wl) : Acc wl x := by
  obtain ⟨ts, F⟩ := fld_go _ _ (und0 h) (Nat.le_refl _)
  exact ⟨ts, F, F.way x hx⟩
theorem fld_0 : Fld [] [] := ⟨fun t ht => (nomatch ht), fun p c q q' ⟨t, ht, _⟩ _ => (nomatch ht), fun us _ _ _ => ⟨id, rfl, fun t ht => (nomatch ht)⟩, fun w hw => (nomatch hw)⟩
theorem lots1 : Lots 1 [[]] := ⟨fun x hx => by
  rw [List.mem_singleton.mp hx]
  exact Wr.rw' (n := 0) (by decide) (by decide) ⟨fun _ h => (nomatch h), trivial, Nat.le_refl _⟩ (by decide), by decide, by decide, okS.fin (.inl (by decide))⟩
theorem lots3 : Lots 1 [[97], [97], []] := ⟨fun x hx => by
  have : x = [97] ∨ x = [] := by simpa using hx
  rcases this with rfl | rfl
  · exact Wr.rw' (n := 1) (by decide) (by decide) ⟨by decide, trivial, by decide⟩ (by decide)
  · exact Wr.rw' (n := 0) (by decide) (by decide) ⟨fun _ h => (nomatch h), trivial, Nat.le_refl _⟩ (by decide), by decide, by decide, okS.fin (.inl (by decide))⟩
theorem acc1 : ∀ i wd, ([[]] : List (List Nat))[i]? = some wd → Acc (([[]] : List (List Nat)).eraseIdx i) wd := fun i wd h => by
  match i, h with
  | 0, h => cases h; exact ⟨[], fld_0, rfl⟩
theorem acc3 : ∀ i wd, ([[97], [97], []] : List (List Nat))[i]? = some wd → Acc (([[97], [97], []] : List (List Nat)).eraseIdx i) wd := fun i wd h => by
  have F : ∀ wl : List (List Nat), (∀ w ∈ wl, w = [97] ∨ w = []) → [97] ∈ wl → ∀ wd, wd = [97] ∨ wd = [] → Acc wl wd := fun wl h1 h2 wd h3 => by
    refine ⟨_, fld_a h1 h2, ?_⟩
    rcases h3 with rfl | rfl
    · exact (fld_a h1 h2).way _ h2
    · rfl
  match i, h with
  | 0, h => cases h; exact F _ (by simp) (by simp) _ (.inl rfl)
  | 1, h => cases h; exact F _ (by simp) (by simp) _ (.inl rfl)
  | 2, h => cases h; exact F _ (by simp) (by simp) _ (.inr rfl)
section
variable {P : Program} {w : World} {K : PySem.W.Frag} {mg : Str → Option Value} {base : Heap} {CF CR CL : Addr}
def spWo : Sp := fun vs H Q _ => ∃ (T : Addr), vs = [.ref T] ∧ Till H T ∧ ∀ H' p l m ws, Og T H H' → l ≠ T → H' p = some (.tup [.int (m : Nat), .ref l]) → H' l = some (.lst (txs ws)) → Bas m ws → Q (.ref p) H'
def spRi : Sp := fun vs H Q _ => ∃ (T : Addr), vs = [.ref T] ∧ Till H T ∧ ∀ H', Og T H H' → Q (.bl true) H'
theorem scRi : FnScope ["_law_till_here", "_law_many", "_law_words_here", "_law_others_here"] ["_law_till_here"] (defScope (top 74)) := ⟨rfl, rfl, rfl, by decide +kernel, rfl, by decide +kernel, by decide +kernel⟩
theorem all_true {us : List (List Nat)} {bs : Nat → Bool} (ha : ∀ i wd, us[i]? = some wd → Acc (us.eraseIdx i) wd) (hb : ∀ i wd, us[i]? = some wd → (bs i = true ↔ Acc (us.eraseIdx i) wd)) : (List.range us.length).filter bs = List.range us.length := by
  refine List.filter_eq_self.mpr fun j hj => ?_
  obtain ⟨wd, e⟩ : ∃ wd, us[j]? = some wd := ⟨_, List.getElem?_eq_getElem (List.mem_range.mp hj)⟩
  exact (hb j wd e).mpr (ha j wd e)
theorem c_right (T : Tx K mg CF CR CL) (LFo : Cal P w K mg base 4 "_law_folded" (spLf K)) (LWo : Cal P w K mg base 8 "_law_words" spWo) : CalG P w K mg base 13 "_law_right" spRi := by
  refine calg T.l_right scRi (fun vs H Q E h => ?_) (fun _ _ _ _ _ _ us hl => match us, hl with | [_], _ => rfl) fun f cdv A outer s H vs Q E hr hgd h => ?_
  · obtain ⟨_, rfl, _⟩ := h; rfl
  · obtain ⟨Tl, rfl, hT, q⟩ := h
    refine ⟨_, pss_cons (ps_asg (pe_c LWo hr (by decide) rfl (pa_cons (pv 0) pa_nil)) (pg_tup rfl (pgs_cons (pg_name (i := 1) scRi.nd rfl (.inl rfl)) (pgs_cons (pg_name (i := 2) scRi.nd rfl (.inl rfl)) pgs_nil))))
      (pss_cons (ps_set (i := 3) scRi.nd rfl (.inl rfl) (pe_c (c_other T) hr (by decide) rfl (pa_cons (pv 0) (pa_cons (pv 1) (pa_cons (pv 2) pa_nil)))))
      (pss_cons (ps_if (PW.pt (pw_or (pt_not (pt_val (pe_cG (c_pair T LFo) hr hgd (by decide) rfl (pa_cons (pv 1) (pa_cons (pv 2) (pa_cons (pv 3) pa_nil)))))) (pw_or1 (pt_not (pt_val (pe_cG (c_lneed T LFo) hr hgd (by decide) rfl (pa_cons (pv 1) (pa_cons (pv 3) pa_nil)))))))) (pss_one (ps_ret pe_bl)) pss_nil)
      (pss_cons (ps_if (pt_not (pt_val (pe_c (c_rows_within T) hr (by decide) rfl (pa_cons (pe_c (c_llot T) hr (by decide) rfl (pa_cons (pv 1) (pa_cons (pv 2) pa_nil))) (pa_cons (pe_c (c_llot T) hr (by decide) rfl (pa_cons (pv 1) (pa_cons (pe_revL (pv 2)) pa_nil))) pa_nil))))) (pss_one (ps_ret pe_bl)) pss_nil)
      (pss_one (ps_ret (pe_and (pe_cmpR (op_eqT (Tup Int) hr.units) (pe_c (c_needless T) hr (by decide) rfl (pa_cons (pe_c (c_llot T) hr (by decide) rfl (pa_cons pe_int (pa_cons (pe_lst (pa_cons pe_str pa_nil)) pa_nil))) pa_nil)) (pe_tup (pa_cons pe_int pa_nil)) (nomark _))
        (pe_one (pe_cmpR (op_eqT (Tup Int) hr.units) (pe_c (c_needless T) hr (by decide) rfl (pa_cons (pe_c (c_llot T) hr (by decide) rfl (pa_cons pe_int (pa_cons (pe_lst (pa_cons pe_str (pa_cons pe_str (pa_cons pe_str pa_nil)))) pa_nil))) pa_nil)) (pe_tup (pa_cons pe_int (pa_cons pe_int (pa_cons pe_int pa_nil)))) (nomark _))))))))), ?_⟩
    refine ⟨_, rfl, Tl, rfl, hT, fun H1 p l m ws og1 hlT hp hl B => ?_⟩
    have Lw := B.lots
    have okw := Lw.okl
    refine ⟨p, _, rfl, .inl (.inl hp), rfl, _, _, rfl, _, _, rfl, rfl, ?_⟩
    refine ⟨_, rfl, _, rfl, _, rfl, Tl, l, m, ws, rfl, og1.till, hlT, hl, B.m1, B.m4, B.l1, Nat.le_trans B.l5 (by decide), fun x hx => ⟨(okw.w4 x hx).lw, okw.len x hx⟩, fun H2 p2 us og2 hp2T hp2 ho => ?_⟩
    have Lu := B.oth ho
    have og := og1.trans og2
    have hl2 := og2.off _ _ hlT hl
    refine ⟨_, rfl, _, rfl, _, rfl, m, l, p2, ws, us, rfl, hl2, hp2, Lw, Lu, fun H3 s3 => ⟨true, rfl, iteF ?_⟩⟩
    refine ⟨_, rfl, _, rfl, m, p2, us, rfl, s3 _ _ hp2, Lu, fun H4 s4 => ⟨true, rfl, iteF ?_⟩⟩
    have s34 := s3.trans s4
    refine ⟨_, rfl, _, rfl, m, l, ws, rfl, s34 _ _ hl2, Lw.rw_, Lw.l1, Lw.l5, fun H5 r5 s5 lot5 => ?_⟩
    have Lr := B.rev
    refine ⟨_, rfl, _, rfl, l, _, rfl, .inl (.inl (s5 _ _ (s34 _ _ hl2))), fun p6 n6 => ?_⟩
    have t6 := same_upd (o := .lst (txs ws).reverse) n6
    have h6 : (upd H5 p6 (.lst (txs ws).reverse)) p6 = some (.lst (txs ws.reverse)) := upd_same.trans (congrArg (fun z => some (HO.lst z)) (by unfold txs; rw [List.map_reverse]))
    refine ⟨m, p6, ws.reverse, rfl, h6, Lr.rw_, Lr.l1, Lr.l5, fun H7 r7 s7 lot7 => ?_⟩
    have okr := Lr.okl
    refine ⟨r5, r7, m, ws, ws.reverse, rfl, (lot5.go t6).go s7, lot7, okr, okw.len, Lw.l1, okw.n, Lr.l1, fun H8 b s8 hb => ?_⟩
    have eb : b = true := hb.mpr fun x hx => acc_in (fun y hy => (okr.w4 y hy).lw) (List.mem_reverse.mpr hx)
    subst eb
    refine ⟨true, rfl, iteF ?_⟩
    have S8 := s34.trans (s5.trans (t6.trans (s7.trans s8)))
    have ogS := og.same S8
    refine ⟨ln1 _, fun pa na => ?_⟩
    refine ⟨1, pa, [[]], rfl, upd_same, lots1.rw_, by decide, by decide, fun H9 r9 s9 lot9 => ?_⟩
    refine ⟨r9, 1, [[]], rfl, lot9, lots1.okl1, lots1.okl.len, by decide, fun H10 v10 b10 s10 hb10 d10 => ⟨ln1 _, fun pb nb => ?_⟩⟩
    rw [all_true acc1 hb10] at d10
    have tb := same_upd (o := .tup [.int 0]) nb
    refine ⟨⟨[0]⟩, ⟨[0]⟩, (d10.move (kp_same tb)).dp, (Dt.tup (.inl (.inl upd_same)) (.cons (.int _) .nil)).dp, true, rfl, iteT ?_⟩
    have t9 := (same_upd (o := .lst [.str ""]) na).trans (s9.trans (s10.trans tb))
    refine ⟨ln3 _ _ _, fun pc nc => ?_⟩
    refine ⟨1, pc, [[97], [97], []], rfl, upd_same, lots3.rw_, by decide, by decide, fun H11 r11 s11 lot11 => ?_⟩
    refine ⟨r11, 1, [[97], [97], []], rfl, lot11, lots3.okl1, lots3.okl.len, by decide, fun H12 v12 b12 s12 hb12 d12 => ⟨ln3 _ _ _, fun pd nd => ?_⟩⟩
    rw [all_true acc3 hb12] at d12
    have td := same_upd (o := .tup [.int 0, .int 1, .int 2]) nd
    refine ⟨⟨[0, 1, 2]⟩, ⟨[0, 1, 2]⟩, (d12.move (kp_same td)).dp, (Dt.tup (.inl (.inl upd_same)) (.cons (.int _) (.cons (.int _) (.cons (.int _) .nil)))).dp, ?_⟩
    exact q _ (ogS.same (t9.trans ((same_upd (o := .lst [.str "a", .str "a", .str ""]) nc).trans (s11.trans (s12.trans td)))))
end
end G1
set_option Elab.async false
set_option linter.all false
set_option maxRecDepth 100000
set_option maxHeartbeats 4000000
/-! the law: till, law -/
namespace G1
open PySem PySem.Spec PyProof.Rows _root_.L2
open PySem.W (Datum DatumOrd T3 T4 Tup)
section
variable {P : Program} {w : World} {K : PySem.W.Frag} {mg : Str → Option Value} {base : Heap} {CF CR CL : Addr}
def spTi (K : PySem.W.Frag) : Sp := fun vs H Q _ => ∃ (a : Addr) (k : Nat) (ns : List Int), vs = [.ref a, .int k] ∧ SqL K H a (ns.map V.int) ∧ ns.length ≤ 1000 ∧ ∀ H' p, Same H H' → H p = none → Till H' p → Q (.ref p) H'
theorem scTi : FnScope ["_law_cells", "_law_k", "_law_own", "_law_stirred", "_law_each", "_law_figures"] ["_law_cells", "_law_k"] (defScope (top 52)) := ⟨rfl, rfl, rfl, by decide +kernel, rfl, by decide +kernel, by decide +kernel⟩
theorem c_till (T : Tx K mg CF CR CL) : Cal P w K mg base 1 "_law_till" (spTi K) := by
  refine cal T.l_till scTi (fun vs H Q E h => ?_) (fun _ _ _ _ _ _ us hl => match us, hl with | [_, _], _ => rfl) fun f cdv A outer s H vs Q E hr h => ?_
  · obtain ⟨_, _, _, rfl, _⟩ := h; rfl
  · obtain ⟨a, k, ns, rfl, ha, hl, q⟩ := h
    refine ⟨_, pss_cons (ps_set (i := 2) scTi.nd rfl (.inl rfl) (pe_ifExp (pt_cmpR op_lt (pv 1) (pe_callB call_len_seq (by rfl) (T.nb "len") boot_len (pa_cons (pv 0) pa_nil)) (nomark _)) (pe_callTy call_int1 (by rfl) (T.nb "int") boot_int (pa_cons (pe_ix ix_list (pv 0) (pv 1) (fun _ _ => rfl)) pa_nil)) (pe_op op_add (pe_op op_mul pe_int (pv 1)) pe_int)))
      (pss_cons (ps_set (i := 3) scTi.nd rfl (.inl rfl) (pe_op op_add pe_int (pe_op op_mul pe_int (pv 1))))
      (pss_cons (ps_for PassesOwn.never rfl (pi_list (pe_slice sl_list (pv 0) po_none (po_some pe_int))) (pg_name (i := 4) scTi.nd rfl (.inl rfl))
        (pss_one (ps_set (i := 3) scTi.nd rfl (.inl rfl) (pe_op op_mod (pe_callTy call_int1 (by rfl) (T.nb "int") boot_int (pa_cons (pe_op op_add (pe_op op_add (pe_op op_mul (pv 3) pe_int) (pe_op op_mod (pe_callTy call_int1 (by rfl) (T.nb "int") boot_int (pa_cons (pv 4) pa_nil)) pe_int)) pe_int) pa_nil)) pe_int))))
      (pss_cons (ps_set (i := 5) scTi.nd rfl (.inl rfl) (pe_ifExp (PW.pt (pw_or (pt_cmpR op_lt (pv 2) pe_int (nomark _)) (pw_or1 (pt_cmpR op_ge (pv 2) (pe_op op_pow pe_int pe_int) (nomark _))))) (pe_callB call_abs (by rfl) (T.nb "abs") (by decide +kernel) (pa_cons (pv 2) pa_nil)) pe_int))
      (pss_one (ps_ret (pe_lst (pa_cons (pv 5) (pa_cons (pe_op op_mod (pe_callTy call_int1 (by rfl) (T.nb "int") boot_int (pa_cons (pe_op op_add (pv 3) (pe_op op_mul (pv 2) pe_int)) pa_nil)) pe_int) (pa_cons pe_int pa_nil)))))))))
      , ?_⟩
    refine ⟨_, rfl, _, rfl, a, _, rfl, .inl ha, _, _, rfl, rfl, _, rfl, ?_⟩
    have cutI : ∀ x ∈ cutV (ns.map V.int) none (some 8), ∃ i : Int, x = .int i := by
      intro x hx
      obtain ⟨i, _, e⟩ := List.mem_map.mp (List.mem_of_mem_drop (List.mem_of_mem_take hx))
      exact ⟨i, e.symm⟩
    refine ite2 (fun h => ?_) (fun h => ?_)
    · have hk : k < ns.length := by
        have := of_decide_eq_true h
        rw [List.length_map] at this
        omega
      refine ⟨_, rfl, _, rfl, a, ns.map V.int, (k : Int), .int ns[k], rfl, rfl, ha, atI_nat (by rw [List.getElem?_map, List.getElem?_eq_getElem hk]; rfl), .inl ⟨_, rfl, ?_⟩⟩
      generalize ns[k] = own
      refine ⟨_, rfl, _, _, rfl, rfl, .inl ⟨by decide, by decide⟩, _, _, rfl, rfl, _, rfl, _, rfl, a, _, rfl, ha, fun p1 n1 => ?_⟩
      refine ⟨p1, rfl, ⟨_, .inl (.inl upd_same)⟩, ?_⟩
      refine for_it (walk_list (xs := cutV (ns.map V.int) none (some 8))) (fun i σ H' => ∃ y4 y5 st, σ = [some (.ref a), some (.int k), some (.int own), some (.int st), y4, y5] ∧ H' = upd H p1 (.lst (cutV (ns.map V.int) none (some 8)))) ⟨none, none, _, rfl, rfl⟩ (fun _ _ _ _ ⟨_, _, _, _, e⟩ => e ▸ .inl (.inl upd_same)) ?_ ?_
      · rintro i x σ H0 H2 hi ⟨y4, y5, st, rfl, rfl⟩ ⟨rfl, hx⟩
        obtain ⟨c, rfl⟩ := cutI x (List.mem_of_getElem? hx)
        exact ⟨_, rfl, _, _, rfl, rfl, .inr ⟨by decide, by decide⟩, _, rfl, .inl ⟨_, rfl, _, _, rfl, rfl, (by decide : (0 : Int) < 1000003), _, _, rfl, rfl, _, _, rfl, rfl, .inl ⟨_, rfl, _, _, rfl, rfl, (by decide : (0 : Int) < 2147483543), _, _, _, rfl, rfl⟩⟩⟩
      · rintro σ H2 ⟨y4, y5, st, rfl, rfl⟩
        have fin : ∀ fg : Int, 0 ≤ fg → ∀ st' : Int, ∀ p2, upd H p1 (.lst (cutV (ns.map V.int) none (some 8))) p2 = none → Q (.ref p2) (upd (upd H p1 (.lst (cutV (ns.map V.int) none (some 8)))) p2 (.lst [.int fg, .int st', .int 0])) := by
          intro fg h0 st' p2 n2
          have s1 := same_upd (o := .lst (cutV (ns.map V.int) none (some 8))) n1
          have np : H p2 = none := by
            cases e : H p2 with
            | none => rfl
            | some o => rw [s1 _ _ e] at n2; exact nomatch n2
          exact q _ p2 (Same.trans s1 (same_upd n2)) np ⟨_, _, _, upd_same, h0⟩
        refine ⟨_, rfl, _, _, rfl, rfl, _, rfl, ?_⟩
        refine ite2 (fun h1 => ?_) (fun h1 => ?_)
        · refine ⟨_, rfl, _, rfl, ?_⟩
          refine ⟨_, rfl, _, rfl, _, rfl, _, _, rfl, rfl, .inr ⟨by decide, by decide⟩, _, _, rfl, rfl, .inl ⟨_, rfl, _, _, rfl, rfl, (by decide : (0 : Int) < 2147483543), (by decide : 3 ≤ sizeLine), fun p2 n2 => fin _ ?_ _ p2 n2⟩⟩
          split <;> omega
        · refine ⟨_, rfl, _, _, rfl, rfl, ⟨by decide, by decide, by decide⟩, _, _, rfl, rfl, _, rfl, ?_⟩
          refine ite2 (fun h2 => ?_) (fun h2 => ?_)
          · refine ⟨_, rfl, _, rfl, ?_⟩
            refine ⟨_, rfl, _, rfl, _, rfl, _, _, rfl, rfl, .inr ⟨by decide, by decide⟩, _, _, rfl, rfl, .inl ⟨_, rfl, _, _, rfl, rfl, (by decide : (0 : Int) < 2147483543), (by decide : 3 ≤ sizeLine), fun p2 n2 => fin _ ?_ _ p2 n2⟩⟩
            split <;> omega
          · refine ⟨_, rfl, _, rfl, _, rfl, _, _, rfl, rfl, .inr ⟨by decide, by decide⟩, _, _, rfl, rfl, .inl ⟨_, rfl, _, _, rfl, rfl, (by decide : (0 : Int) < 2147483543), (by decide : 3 ≤ sizeLine), fun p2 n2 => fin 0 (Int.le_refl _) _ p2 n2⟩⟩
    · refine ⟨_, rfl, _, _, rfl, rfl, .inl ⟨by decide, by decide⟩, _, _, rfl, rfl, ?_⟩
      refine ⟨_, rfl, _, _, rfl, rfl, .inl ⟨by decide, by decide⟩, _, _, rfl, rfl, _, rfl, _, rfl, a, _, rfl, ha, fun p1 n1 => ?_⟩
      refine ⟨p1, rfl, ⟨_, .inl (.inl upd_same)⟩, ?_⟩
      refine for_it (walk_list (xs := cutV (ns.map V.int) none (some 8))) (fun i σ H' => ∃ y4 y5 st, σ = [some (.ref a), some (.int k), some (.int (977 * (k : Int) + 13)), some (.int st), y4, y5] ∧ H' = upd H p1 (.lst (cutV (ns.map V.int) none (some 8)))) ⟨none, none, _, rfl, rfl⟩ (fun _ _ _ _ ⟨_, _, _, _, e⟩ => e ▸ .inl (.inl upd_same)) ?_ ?_
      · rintro i x σ H0 H2 hi ⟨y4, y5, st, rfl, rfl⟩ ⟨rfl, hx⟩
        obtain ⟨c, rfl⟩ := cutI x (List.mem_of_getElem? hx)
        exact ⟨_, rfl, _, _, rfl, rfl, .inr ⟨by decide, by decide⟩, _, rfl, .inl ⟨_, rfl, _, _, rfl, rfl, (by decide : (0 : Int) < 1000003), _, _, rfl, rfl, _, _, rfl, rfl, .inl ⟨_, rfl, _, _, rfl, rfl, (by decide : (0 : Int) < 2147483543), _, _, _, rfl, rfl⟩⟩⟩
      · rintro σ H2 ⟨y4, y5, st, rfl, rfl⟩
        have fin : ∀ fg : Int, 0 ≤ fg → ∀ st' : Int, ∀ p2, upd H p1 (.lst (cutV (ns.map V.int) none (some 8))) p2 = none → Q (.ref p2) (upd (upd H p1 (.lst (cutV (ns.map V.int) none (some 8)))) p2 (.lst [.int fg, .int st', .int 0])) := by
          intro fg h0 st' p2 n2
          have s1 := same_upd (o := .lst (cutV (ns.map V.int) none (some 8))) n1
          have np : H p2 = none := by
            cases e : H p2 with
            | none => rfl
            | some o => rw [s1 _ _ e] at n2; exact nomatch n2
          exact q _ p2 (Same.trans s1 (same_upd n2)) np ⟨_, _, _, upd_same, h0⟩
        refine ⟨_, rfl, _, _, rfl, rfl, _, rfl, ?_⟩
        refine ite2 (fun h1 => ?_) (fun h1 => ?_)
        · refine ⟨_, rfl, _, rfl, ?_⟩
          refine ⟨_, rfl, _, rfl, _, rfl, _, _, rfl, rfl, .inr ⟨by decide, by decide⟩, _, _, rfl, rfl, .inl ⟨_, rfl, _, _, rfl, rfl, (by decide : (0 : Int) < 2147483543), (by decide : 3 ≤ sizeLine), fun p2 n2 => fin _ ?_ _ p2 n2⟩⟩
          split <;> omega
        · refine ⟨_, rfl, _, _, rfl, rfl, ⟨by decide, by decide, by decide⟩, _, _, rfl, rfl, _, rfl, ?_⟩
          refine ite2 (fun h2 => ?_) (fun h2 => ?_)
          · refine ⟨_, rfl, _, rfl, ?_⟩
            refine ⟨_, rfl, _, rfl, _, rfl, _, _, rfl, rfl, .inr ⟨by decide, by decide⟩, _, _, rfl, rfl, .inl ⟨_, rfl, _, _, rfl, rfl, (by decide : (0 : Int) < 2147483543), (by decide : 3 ≤ sizeLine), fun p2 n2 => fin _ ?_ _ p2 n2⟩⟩
            split <;> omega
          · refine ⟨_, rfl, _, rfl, _, rfl, _, _, rfl, rfl, .inr ⟨by decide, by decide⟩, _, _, rfl, rfl, .inl ⟨_, rfl, _, _, rfl, rfl, (by decide : (0 : Int) < 2147483543), (by decide : 3 ≤ sizeLine), fun p2 n2 => fin 0 (Int.le_refl _) _ p2 n2⟩⟩
end
end G1
set_option Elab.async false
set_option linter.all false
set_option maxRecDepth 100000
set_option maxHeartbeats 4000000
/-! the law: law -/
namespace G1
open PySem PySem.Spec PyProof.Rows _root_.L2
open PySem.W (Datum DatumOrd T3 T4 Tup)
section
variable {P : Program} {w : World} {K : PySem.W.Frag} {mg : Str → Option Value} {base : Heap} {CF CR CL : Addr}
def spLaw (K : PySem.W.Frag) : Sp := fun vs H Q _ => ∃ (a : Addr) (ns : List Int), vs = [.ref a] ∧ SqL K H a (ns.map V.int) ∧ ns.length ≤ 1000 ∧ ∀ H', Q (.bl true) H'
theorem scLaw : FnScope ["_law_cells", "_law_k"] ["_law_cells"] (defScope (top 75)) := ⟨rfl, rfl, rfl, by decide +kernel, rfl, by decide +kernel, by decide +kernel⟩
theorem c_law (T : Tx K mg CF CR CL) {f : Addr} {fd : FuncData} (D : FnP K "law" "law" (top 75) f fd) (LFo : Cal P w K mg base 4 "_law_folded" (spLf K)) (LWo : Cal P w K mg base 8 "_law_words" spWo) : FnG P w K mg base 14 f fd ["_law_cells"] (spLaw K) := by
  refine fng D scLaw (fun vs H Q E h => ?_) fun cdv A outer s H vs Q E hr hgd h => ?_
  · obtain ⟨_, _, rfl, _⟩ := h; rfl
  · obtain ⟨a, ns, rfl, ha, hl, q⟩ := h
    refine ⟨_, pss_one (ps_ret (pe_callB (cr_all rfl) (by rfl) (T.nb "all") (by decide +kernel) (pa_cons (pe_lc (own := [("_law_k", 1)]) (g := gName 1) (tt := tYes) (te := tCall spRi [] E0 (tCons (tCall (spTi K) [] E0 (tCons (tVar 0) (tCons (tVar 1) tNil))) tNil)) rfl scLaw.nd (pi_range1 rfl (T.nb "range") (pa_cons pe_int pa_nil)) (blkOk_by (N := ["_law_cells", "_law_k"]) (sc := defScope (top 75)) (by decide +kernel))
      (fun _ _ _ _ _ => pg_name (i := 1) scLaw.nd rfl (.inl rfl)) (fun _ _ _ _ _ => pts_nil) (fun _ _ _ _ _ => pe_cG (c_right T LFo LWo) hr hgd (by decide) rfl (pa_cons (pe_c (c_till T) hr (by decide) rfl (pa_cons (pv 0) (pa_cons (pv 1) pa_nil))) pa_nil))) pa_nil))), ?_⟩
    refine ⟨2, rfl, by decide, by decide, fun D nD => ?_⟩
    refine lc_it (walk_range (lo := 0) (n := 2)) (fun i H' => Same H H' ∧ H' D = some (.lst ((List.replicate i true).map V.bl))) ⟨same_upd nD, upd_same⟩ (fun _ _ _ _ => trivial) ?_ ?_
    · rintro i x H0 H2 hi ⟨s0, hD⟩ ⟨rfl, rfl⟩
      refine ⟨rfl, yesT ?_⟩
      refine ⟨_, rfl, _, rfl, a, i, ns, by show [V.ref a, V.int (0 + (i : Int))] = _; rw [Int.zero_add], s0.seq ha, hl, fun H3 p s3 np tp => ⟨p, rfl, tp, fun H4 og => ?_⟩⟩
      have hpD : D ≠ p := fun e => by rw [← e, hD] at np; cases np
      have s4 : Same H H4 := fun b o e => og.off b o (fun e' => by
        rw [← e', s0 _ _ e] at np
        cases np) (s3 _ _ (s0 _ _ e))
      refine ⟨(List.replicate i true).map V.bl, og.off _ _ hpD (s3 _ _ hD), ?_, fun b o e => ?_, ?_⟩
      · rw [List.length_map, List.length_replicate]
        exact Nat.lt_trans hi (by decide)
      · rw [upd_ne (fun e' => by rw [e', nD] at e; cases e)]
        exact s4 b o e
      · rw [upd_same, List.replicate_succ', List.map_append]
        rfl
    · rintro H2 ⟨s0, hD⟩
      exact ⟨D, List.replicate 2 true, rfl, .inl (.inl hD), q _⟩
end
end G1
set_option Elab.async false
set_option linter.all false
set_option maxRecDepth 100000
set_option maxHeartbeats 4000000
/-! the law: tables -/
namespace G1
open PySem PySem.Spec PyProof.Rows _root_.L2
open PySem.W (Datum DatumOrd T3 T4 Tup)
section
variable {P : Program} {w : World} {K : PySem.W.Frag} {mg : Str → Option Value} {base : Heap} {CF CR CL : Addr}
def its (row : List Nat) : List V := row.map fun n => V.int (n : Nat)
/-- a table on the heap: a list of lists -/
def TbAt (H : Hp) (a : Addr) (tb : Tb) : Prop := ∃ ps : List Addr, H a = some (.lst (ps.map V.ref)) ∧ ps.length = tb.length ∧ ∀ (i : Nat) (p : Addr) (row : List Nat), ps[i]? = some p → tb[i]? = some row → H p = some (.lst (its row))
/-- a table of ways: each row holds each number once -/
def Tok (tb : Tb) (n : Nat) : Prop := n ≤ 5 ∧ tb.length ≤ 4 ∧ ∀ row ∈ tb, row.length = n ∧ row.Nodup ∧ ∀ h, h < n ↔ h ∈ row
def spGs : Sp := fun vs H Q _ => ∃ (a : Addr) (tb : Tb) (n h c : Nat), vs = [.ref a, .int h, .str (chS c)] ∧ TbAt H a tb ∧ Tok tb n ∧ h < n ∧ Lt c ∧ slow c - 97 < tb.length ∧ Q (.int (gos tb h c)) H
theorem scGs : FnScope ["_law_table_here", "_law_here", "_law_sign", "_law_row"] ["_law_table_here", "_law_here", "_law_sign"] (defScope (top 59)) := ⟨rfl, rfl, rfl, by decide +kernel, rfl, by decide +kernel, by decide +kernel⟩
theorem occ4 {c : Nat} (h : Lt c) (h4 : slow c - 97 < 4) : ∃ rest, Builtin.Str.occurrences ("abcd" : Str) (Txt.lower (chS c)) 0 ("abcd" : Str).length 1 = (slow c - 97) :: rest := by
  have key : ∀ c : Nat, c < 123 → (65 ≤ c ∧ c ≤ 90 ∨ 97 ≤ c ∧ c ≤ 122) → slow c - 97 < 4 → Builtin.Str.occurrences ("abcd" : Str) (Txt.lower (chS c)) 0 ("abcd" : Str).length 1 = [slow c - 97] := by decide +kernel
  refine ⟨[], ?_⟩
  rcases h with h | h
  · unfold Small at h; exact key c (by omega) (.inr h) h4
  · unfold Big at h; exact key c (by omega) (.inl h) h4
theorem c_goes (T : Tx K mg CF CR CL) : Cal P w K mg base 1 "_law_goes" spGs := by
  refine cal T.l_goes scGs (fun vs H Q E h => ?_) (fun _ _ _ _ _ _ us hl => match us, hl with | [_, _, _], _ => rfl) fun f cdv A outer s H vs Q E hr h => ?_
  · obtain ⟨_, _, _, _, _, rfl, _⟩ := h; rfl
  · obtain ⟨a, tb, n, h, c, rfl, ha, ok, hn, hc, hlt, q⟩ := h
    refine ⟨_, pss_cons (ps_set (i := 3) scGs.nd rfl (.inl rfl) (pe_ix ix_list (pv 0) (pe_m1 PySem.F.slot_str_index PySem.F.type_str_index mt_sindex pe_str (pe_lower (pv 2))) (fun _ _ => rfl)))
      (pss_one (ps_ret (pe_ifExp (pt_val (pe_m0 PySem.F.slot_str_islower PySem.F.type_str_islower mt_islower (pv 2))) (pe_ix ix_list (pv 3) (pv 1) (fun _ _ => rfl)) (pe_bm PySem.F.plainAttrs_list PySem.F.slot_list_index PySem.F.type_list_index mt_index (pv 3) (pa_cons (pv 1) pa_nil))))), ?_⟩
    obtain ⟨hn5, ht4, hrow⟩ := ok
    obtain ⟨rest, ho⟩ := occ4 hc (by omega)
    obtain ⟨ps, hA, hlen, hps⟩ := ha
    have hlp : slow c - 97 < ps.length := by omega
    have hp : ps[slow c - 97]? = some ps[slow c - 97] := List.getElem?_eq_getElem hlp
    have ht : tb[slow c - 97]? = some tb[slow c - 97] := List.getElem?_eq_getElem hlt
    have hR := hps _ _ _ hp ht
    obtain ⟨rl, rn, rm⟩ := hrow _ (List.mem_of_getElem? ht)
    generalize hrw : tb[slow c - 97] = row at *
    refine ⟨_, rfl, ⟨_, rfl⟩, _, rfl, ⟨_, rfl⟩, _, rfl, rfl, (by show 1 ≤ _; decide), _, _, _, rest, rfl, rfl, ho, a, _, _, _, rfl, rfl, .inl (.inl hA), atI_nat (by rw [List.getElem?_map, hp]; rfl), ?_⟩
    have eg : tb.getD (slow c - 97) [] = row := by rw [List.getD_eq_getElem?_getD, ht]; rfl
    have hlr : h < row.length := by omega
    refine ⟨_, rfl, ⟨_, rfl⟩, _, rfl, rfl, trivial, _, rfl, ?_⟩
    rw [islow hc]
    refine ite2 (fun hb => ?_) (fun hb => ?_)
    · refine ⟨_, rfl, _, rfl, _, its row, (h : Int), .int (row[h] : Nat), rfl, rfl, .inl (.inl hR), atI_nat (by unfold its; rw [List.getElem?_map, List.getElem?_eq_getElem hlr]; rfl), ?_⟩
      have e : gos tb h c = row[h] := by
        unfold gos
        rw [eg, if_pos hb, List.getD_eq_getElem?_getD, List.getElem?_eq_getElem hlr]
        rfl
      rw [e] at q
      exact q
    · have hm : h ∈ row := (rm h).mp hn
      have hx : row.idxOf h < row.length := List.idxOf_lt_length_iff.mpr hm
      have e : gos tb h c = row.idxOf h := by
        unfold gos
        rw [eg, if_neg hb]
      rw [e] at q
      refine ⟨_, rfl, (.inl ⟨rfl, _, .inl (.inl hR)⟩), _, rfl, _, its row, .int (h : Nat), row.idxOf h, .int (h : Nat), rfl, rfl, .inl (.inl hR), rfl, ?_, ?_, ?_, ?_, q⟩
      · unfold its
        rw [List.all_map]
        exact List.all_eq_true.mpr fun _ _ => rfl
      · unfold its
        rw [List.getElem?_map, List.getElem?_eq_getElem hx, List.getElem_idxOf hx]
        rfl
      · show ((h : Int) == (h : Int)) = true
        exact beq_self_eq_true _
      · intro m z hm' hz
        unfold its at hz
        rw [List.getElem?_map, List.getElem?_eq_getElem (Nat.lt_trans hm' hx)] at hz
        cases hz
        show (((row[m]'(Nat.lt_trans hm' hx) : Nat) : Int) == (h : Int)) = false
        rw [beq_eq_false_iff_ne]
        intro e'
        have e2 : row[m]'(Nat.lt_trans hm' hx) = h := by omega
        have := List.not_of_lt_findIdx (p := (· == h)) (xs := row) hm'
        rw [e2] at this
        exact absurd (beq_self_eq_true h) (by simpa using this)
end
end G1
set_option Elab.async false
set_option linter.all false
set_option maxRecDepth 100000
set_option maxHeartbeats 4000000
/-! the law: the mirror of met, step by step -/
namespace G1
def stI (tb : Tb) (h : Nat) (wd : List Nat) (f : List (Nat × List Nat)) (c : Nat) : List (Nat × List Nat) := if gos tb h c ∈ f.map (·.1) then f else f ++ [(gos tb h c, wd ++ [c])]
theorem metIn_foldl (tb : Tb) (h : Nat) (wd : List Nat) : ∀ (l : List Nat) (f : List (Nat × List Nat)), metIn tb h wd l f = l.foldl (stI tb h wd) f
  | [], f => rfl
  | c :: r, f => by rw [metIn, metIn_foldl tb h wd r]; rfl
def stG (tb : Tb) (f : List (Nat × List Nat)) (t : Nat) : List (Nat × List Nat) := match f[t]? with
  | some (h, wd) => metIn tb h wd (ltrs.take (2 * tb.length)) f
  | none => f
theorem metGo_foldl (tb : Tb) : ∀ (l : List Nat) (f : List (Nat × List Nat)), metGo tb l f = l.foldl (stG tb) f
  | [], f => rfl
  | c :: r, f => by rw [metGo, metGo_foldl tb r]; rfl
theorem gos_lt {tb : Tb} {n h c : Nat} (ok : Tok tb n) (hn : h < n) (hlt : slow c - 97 < tb.length) : gos tb h c < n := by
  obtain ⟨_, _, hrow⟩ := ok
  have ht : tb[slow c - 97]? = some tb[slow c - 97] := List.getElem?_eq_getElem hlt
  obtain ⟨rl, rn, rm⟩ := hrow _ (List.mem_of_getElem? ht)
  have eg : tb.getD (slow c - 97) [] = tb[slow c - 97] := by rw [List.getD_eq_getElem?_getD, ht]; rfl
  unfold gos
  simp only [eg]
  split
  · have hlr : h < tb[slow c - 97].length := by omega
    rw [List.getD_eq_getElem?_getD, List.getElem?_eq_getElem hlr]
    exact (rm _).mpr (List.getElem_mem _)
  · rw [← rl]
    exact List.idxOf_lt_length_iff.mpr ((rm h).mp hn)
/-- what holds of the found states all along -/
structure MI (tb : Tb) (n : Nat) (f : List (Nat × List Nat)) : Prop where
  nd : (f.map (·.1)).Nodup
  lt : ∀ x ∈ f, x.1 < n
  lw : ∀ x ∈ f, (∀ c ∈ x.2, c ∈ ltrs.take (2 * tb.length)) ∧ x.2.length < f.length
theorem nd_le : ∀ (n : Nat) (l : List Nat), l.Nodup → (∀ x ∈ l, x < n) → l.length ≤ n
  | 0, l, _, h => by
    cases l with
    | nil => exact Nat.le_refl _
    | cons a r => exact absurd (h a List.mem_cons_self) (Nat.not_lt_zero _)
  | n + 1, l, nd, h => by
    have h1 := nd_le n (l.erase n) (nd.erase n) fun x hx => by
      have hx2 := (List.Nodup.mem_erase_iff nd).mp hx
      have := h x hx2.2
      have := hx2.1
      omega
    have h2 : l.length ≤ (l.erase n).length + 1 := by
      rw [List.length_erase]
      split <;> omega
    omega
theorem MI.len {tb : Tb} {n : Nat} {f : List (Nat × List Nat)} (h : MI tb n f) : f.length ≤ n := by
  have h1 : (f.map (·.1)).Nodup := h.nd
  have := nd_le n _ h1 fun x hx => by
    obtain ⟨y, hy, rfl⟩ := List.mem_map.mp hx
    exact h.lt y hy
  rw [List.length_map] at this
  exact this
theorem ltr_slow : ∀ c ∈ ltrs, ∀ m, c ∈ ltrs.take (2 * m) → slow c - 97 < m ∨ 4 < m := by
  intro c hc m hm
  by_cases h4 : 4 < m
  · exact .inr h4
  · have key : ∀ m, m ≤ 4 → ∀ c ∈ ltrs.take (2 * m), slow c - 97 < m := by decide +kernel
    exact .inl (key m (by omega) c hm)
theorem MI.stI {tb : Tb} {n h c : Nat} {wd : List Nat} {f : List (Nat × List Nat)} (ok : Tok tb n) (I : MI tb n f) (hn : h < n) (hc : c ∈ ltrs.take (2 * tb.length)) (hw : (∀ c ∈ wd, c ∈ ltrs.take (2 * tb.length)) ∧ wd.length < f.length) : MI tb n (stI tb h wd f c) := by
  unfold G1.stI
  split
  · exact I
  · rename_i hnot
    have hlt : slow c - 97 < tb.length := by
      rcases ltr_slow c (List.mem_of_mem_take hc) _ hc with e | e
      · exact e
      · have := ok.2.1
        omega
    refine ⟨?_, ?_, ?_⟩
    · rw [List.map_append]
      exact List.nodup_append.mpr ⟨I.nd, by simp, fun a ha b hb e => hnot (by
        have : b = gos tb h c := by simpa using hb
        rw [← this, ← e]; exact ha)⟩
    · intro x hx
      rcases List.mem_append.mp hx with hx | hx
      · exact I.lt x hx
      · rw [List.mem_singleton.mp hx]
        exact gos_lt ok hn hlt
    · intro x hx
      rw [List.length_append]
      rcases List.mem_append.mp hx with hx | hx
      · exact ⟨(I.lw x hx).1, Nat.lt_succ_of_lt (I.lw x hx).2⟩
      · rw [List.mem_singleton.mp hx]
        refine ⟨fun c' h' => ?_, ?_⟩
        · rcases List.mem_append.mp h' with h' | h'
          · exact hw.1 c' h'
          · rw [List.mem_singleton.mp h']; exact hc
        · show (wd ++ [c]).length < f.length + 1
          rw [List.length_append]
          have := hw.2
          show wd.length + 1 < f.length + 1
          omega
theorem stI_len {tb : Tb} {h c : Nat} {wd : List Nat} {f : List (Nat × List Nat)} : f.length ≤ (stI tb h wd f c).length := by
  unfold G1.stI
  split
  · exact Nat.le_refl _
  · rw [List.length_append]; exact Nat.le_add_right _ _
theorem MI.folI {tb : Tb} {n h : Nat} {wd : List Nat} (ok : Tok tb n) (hn : h < n) (hwd : ∀ c ∈ wd, c ∈ ltrs.take (2 * tb.length)) : ∀ (l : List Nat) {f : List (Nat × List Nat)}, (∀ c ∈ l, c ∈ ltrs.take (2 * tb.length)) → MI tb n f → wd.length < f.length → MI tb n (l.foldl (G1.stI tb h wd) f) ∧ f.length ≤ (l.foldl (G1.stI tb h wd) f).length
  | [], f, _, I, _ => ⟨I, Nat.le_refl _⟩
  | c :: r, f, hl, I, hw => by
    have I1 := I.stI ok hn (hl c List.mem_cons_self) ⟨hwd, hw⟩
    have l1 : f.length ≤ (G1.stI tb h wd f c).length := stI_len
    obtain ⟨a, b⟩ := MI.folI ok hn hwd r (fun x hx => hl x (List.mem_cons_of_mem _ hx)) I1 (Nat.lt_of_lt_of_le hw l1)
    exact ⟨a, Nat.le_trans l1 b⟩
theorem MI.stG {tb : Tb} {n t : Nat} {f : List (Nat × List Nat)} (ok : Tok tb n) (I : MI tb n f) : MI tb n (stG tb f t) := by
  unfold G1.stG
  split
  · rename_i h wd e
    rw [metIn_foldl]
    have hm := List.mem_of_getElem? e
    exact (MI.folI ok (I.lt _ hm) (I.lw _ hm).1 _ (fun c hc => hc) I (I.lw _ hm).2).1
  · exact I
theorem MI.go {tb : Tb} {n : Nat} (ok : Tok tb n) : ∀ (l : List Nat) {f : List (Nat × List Nat)}, MI tb n f → MI tb n (l.foldl (G1.stG tb) f)
  | [], f, I => I
  | t :: r, f, I => MI.go ok r (I.stG ok)
theorem MI.zero {tb : Tb} {n : Nat} (hn : 1 ≤ n) : MI tb n [(0, [])] := ⟨by simp, fun x hx => by rw [List.mem_singleton.mp hx]; exact hn, fun x hx => by rw [List.mem_singleton.mp hx]; exact ⟨fun c hc => (nomatch hc), Nat.zero_lt_one⟩⟩
end G1
set_option Elab.async false
set_option linter.all false
set_option maxRecDepth 100000
set_option maxHeartbeats 4000000
/-! the law: met -/
namespace G1
open PySem PySem.Spec PyProof.Rows _root_.L2
open PySem.W (Datum DatumOrd T3 T4 Tup)
section
variable {P : Program} {w : World} {K : PySem.W.Frag} {mg : Str → Option Value} {base : Heap} {CF CR CL : Addr}
theorem scMt : FnScope ["_law_table_here", "_law_found", "_law_turn", "_law_here", "_law_word", "_law_sign", "_law_there", "_law_pair"] ["_law_table_here"] (defScope (top 60)) := ⟨rfl, rfl, rfl, by decide +kernel, rfl, by decide +kernel, by decide +kernel⟩
def spMt : Sp := fun vs H Q _ => ∃ (a : Addr) (tb : Tb) (n : Nat), vs = [.ref a] ∧ TbAt H a tb ∧ Tok tb n ∧ 1 ≤ n ∧ 1 ≤ tb.length ∧ ∀ H' p (ps : List Addr), Same H H' → H p = none → H' p = some (.lst (ps.map V.ref)) → ps.length = (metM tb).length → (∀ (i : Nat) (q : Addr) (x : Nat × List Nat), ps[i]? = some q → (metM tb)[i]? = some x → H' q = some (.tup [.int (x.1 : Nat), .str (tx x.2)])) → Q (.ref p) H'
/-- the found states on the heap -/
def PA (H : Hp) (l : Addr) (f : List (Nat × List Nat)) : Prop := ∃ ps : List Addr, H l = some (.lst (ps.map V.ref)) ∧ ps.length = f.length ∧ ∀ (i : Nat) (q : Addr) (x : Nat × List Nat), ps[i]? = some q → f[i]? = some x → H q = some (.tup [.int (x.1 : Nat), .str (tx x.2)])
theorem PA.same {H H' : Hp} {l : Addr} {f : List (Nat × List Nat)} (h : PA H l f) (s : Same H H') : PA H' l f := by
  obtain ⟨ps, a, b, c⟩ := h
  exact ⟨ps, s _ _ a, b, fun i q x hi hx => s _ _ (c i q x hi hx)⟩
theorem PA.app {H : Hp} {l p : Addr} {f : List (Nat × List Nat)} {ps : List Addr} {x : Nat × List Nat} (hl : H l = some (.lst (ps.map V.ref))) (e : ps.length = f.length) (h : ∀ (i : Nat) (q : Addr) (x : Nat × List Nat), ps[i]? = some q → f[i]? = some x → H q = some (.tup [.int (x.1 : Nat), .str (tx x.2)]))
    (np : H p = none) : PA (upd (upd H p (.tup [.int (x.1 : Nat), .str (tx x.2)])) l (.lst (ps.map V.ref ++ [.ref p]))) l (f ++ [x]) := by
  have hpl : p ≠ l := fun e => by rw [e, hl] at np; cases np
  refine ⟨ps ++ [p], by rw [upd_same, List.map_append]; rfl, by rw [List.length_append, List.length_append, e]; rfl, fun i q y hi hy => ?_⟩
  by_cases hlt : i < ps.length
  · rw [List.getElem?_append_left hlt] at hi
    rw [List.getElem?_append_left (by omega)] at hy
    have hq := h i q y hi hy
    have h1 : q ≠ l := fun e => by rw [e, hl] at hq; cases hq
    have h2 : q ≠ p := fun e => by rw [e, np] at hq; cases hq
    rw [upd_ne h1, upd_ne h2]
    exact hq
  · have hi2 : i = ps.length := by
      have := (List.getElem?_eq_some_iff.mp hi).1
      rw [List.length_append] at this
      simp at this
      omega
    subst hi2
    rw [List.getElem?_append_right (Nat.le_refl _), Nat.sub_self] at hi
    rw [e, List.getElem?_append_right (Nat.le_refl _), Nat.sub_self] at hy
    cases hi
    cases hy
    rw [upd_ne hpl, upd_same]
theorem cutS8 {m : Nat} (h : m ≤ 4) : cutS "aAbBcCdD" none (some (2 * (m : Int))) = tx (ltrs.take (2 * m)) := by
  have key : ∀ m : Nat, m ≤ 4 → cutS "aAbBcCdD" none (some (2 * (m : Int))) = tx (ltrs.take (2 * m)) := by decide +kernel
  exact key m h
def ints1 (f : List (Nat × List Nat)) : List V := f.map fun x => V.int (x.1 : Nat)
theorem ints1_flat (f : List (Nat × List Nat)) : (ints1 f).all flatV = true := by
  unfold ints1
  rw [List.all_map]
  rw [List.all_eq_true]
  exact fun _ _ => rfl
theorem ints1_in (f : List (Nat × List Nat)) (k : Nat) : inV (.int (k : Nat)) (ints1 f) = decide (k ∈ f.map (·.1)) := by
  refine Bool.eq_iff_iff.mpr ?_
  rw [decide_eq_true_iff]
  unfold inV ints1
  rw [List.any_map, List.any_eq_true]
  constructor
  · rintro ⟨x, hx, e⟩
    have e1 : ((x.1 : Int) == (k : Int)) = true := e
    have e2 : x.1 = k := by
      have := eq_of_beq e1
      omega
    exact List.mem_map.mpr ⟨x, hx, e2⟩
  · intro h
    obtain ⟨x, hx, rfl⟩ := List.mem_map.mp h
    exact ⟨x, hx, (beq_self_eq_true ((x.1 : Nat) : Int))⟩
theorem TbAt.same {H H' : Hp} {a : Addr} {tb : Tb} (h : TbAt H a tb) (s : Same H H') : TbAt H' a tb := by
  obtain ⟨ps, hA, hl, hp⟩ := h
  exact ⟨ps, s _ _ hA, hl, fun i p row e1 e2 => s _ _ (hp i p row e1 e2)⟩
theorem c_met (T : Tx K mg CF CR CL) : Cal P w K mg base 2 "_law_met" spMt := by
  refine cal T.l_met scMt (fun vs H Q E h => ?_) (fun _ _ _ _ _ _ us hl => match us, hl with | [_], _ => rfl) fun f cdv A outer s H vs Q E hr h => ?_
  · obtain ⟨_, _, _, rfl, _⟩ := h; rfl
  · obtain ⟨a, tb, n, rfl, ha, ok, hn, hm, q⟩ := h
    refine ⟨_, pss_cons (ps_set (i := 1) scMt.nd rfl (.inl rfl) (pe_lst (pa_cons (pe_tup (pa_cons pe_int (pa_cons pe_str pa_nil))) pa_nil)))
      (pss_cons (ps_for PassesOwn.never rfl (pi_range1 rfl (T.nb "range") (pa_cons (pe_callB call_len_seq (by rfl) (T.nb "len") boot_len (pa_cons (pe_ix ix_list (pv 0) pe_int (fun _ _ => rfl)) pa_nil)) pa_nil)) (pg_name (i := 2) scMt.nd rfl (.inl rfl))
        (pss_one (ps_if (pt_cmpR op_lt (pv 2) (pe_callB call_len_seq (by rfl) (T.nb "len") boot_len (pa_cons (pv 1) pa_nil)) (nomark _))
          (pss_cons (ps_asg (pe_ix ix_list (pv 1) (pv 2) (fun _ _ => rfl)) (pg_tup rfl (pgs_cons (pg_name (i := 3) scMt.nd rfl (.inl rfl)) (pgs_cons (pg_name (i := 4) scMt.nd rfl (.inl rfl)) pgs_nil))))
          (pss_one (ps_for PassesOwn.never rfl (pi_str (pe_slice sl_str pe_str po_none (po_some (pe_op op_mul pe_int (pe_callB call_len_seq (by rfl) (T.nb "len") boot_len (pa_cons (pv 0) pa_nil)))))) (pg_name (i := 5) scMt.nd rfl (.inl rfl))
            (pss_cons (ps_set (i := 6) scMt.nd rfl (.inl rfl) (pe_c (c_goes T) hr (by decide) rfl (pa_cons (pv 0) (pa_cons (pv 3) (pa_cons (pv 5) pa_nil)))))
            (pss_one (ps_if (pt_cmpR op_notIn_seq (pv 6) (pe_lc (own := [("_law_pair", 7)]) (g := gName 7) (tt := tYes) (te := tOp (rIxT K) (tVar 7) (tC (.int 0))) rfl scMt.nd (pi_list (pv 1)) (blkOk_by (N := ["_law_table_here", "_law_found", "_law_turn", "_law_here", "_law_word", "_law_sign", "_law_there", "_law_pair"]) (sc := defScope (top 60)) (by decide +kernel))
              (fun _ _ _ _ _ => pg_name (i := 7) scMt.nd rfl (.inl rfl)) (fun _ _ _ _ _ => pts_nil) (fun _ _ _ _ _ => pe_ix ix_tup (pv 7) pe_int (fun _ _ => rfl))) (by rfl))
              (pss_one (ps_expr (pe_bm PySem.F.plainAttrs_list PySem.F.slot_list_append PySem.F.type_list_append mt_append (pv 1) (pa_cons (pe_tup (pa_cons (pv 6) (pa_cons (pe_op op_add_str (pv 4) (pv 5)) pa_nil))) pa_nil)))) pss_nil))))))
          pss_nil)))
      (pss_one (ps_ret (pv 1)))), ?_⟩
    obtain ⟨hn5, ht4, hrow⟩ := id ok
    obtain ⟨r0, rs, rfl⟩ : ∃ r0 rs, tb = r0 :: rs := by
      cases tb with
      | nil => exact absurd hm (by decide)
      | cons x r => exact ⟨x, r, rfl⟩
    obtain ⟨tps, hA, hlen, hps⟩ := id ha
    obtain ⟨t0, hp0⟩ : ∃ t0, tps[0]? = some t0 := ⟨_, List.getElem?_eq_getElem (by rw [hlen]; exact hm)⟩
    have hr0 := hps 0 t0 r0 hp0 rfl
    have rl0 : r0.length = n := (hrow r0 List.mem_cons_self).1
    refine ⟨ln2 _ _, fun q0 nq0 => ⟨ln1 _, fun l nl => ?_⟩⟩
    have s1 := same_upd (o := .tup [.int 0, .str ""]) nq0
    have s2 := s1.trans (same_upd (o := .lst [.ref q0]) nl)
    have nlH : H l = none := s1.free nl
    have at0 : atI (tps.map V.ref) 0 = some (.ref t0) := atI_nat (j := 0) (by rw [List.getElem?_map, hp0]; rfl)
    refine ⟨_, rfl, a, _, 0, _, rfl, rfl, .inl (.inl (s2 _ _ hA)), at0, t0, its r0, rfl, .inl (.inl (.inl (s2 _ _ hr0))), ((n : Nat) : Int), by rw [show (its r0).length = n from by unfold its; rw [List.length_map, rl0]], by omega, by omega, ?_⟩
    refine for_it (walk_range (lo := 0) (n := n)) (fun i σ H' => ∃ y2 y3 y4 y5 y6 y7 f, σ = [some (.ref a), some (.ref l), y2, y3, y4, y5, y6, y7] ∧ Same H H' ∧ PA H' l f ∧ f = (List.range i).foldl (stG (r0 :: rs)) [(0, [])])
      ⟨none, none, none, none, none, none, [(0, [])], rfl, s2, ⟨[q0], upd_same, rfl, fun i q x hi hx => ?_⟩, rfl⟩ (fun _ _ _ _ _ => trivial) ?_ ?_
    · cases i with
      | zero =>
        cases hi
        cases hx
        exact same_upd nl _ _ upd_same
      | succ i => cases hi
    · rintro i x σ H0 H1 hi ⟨y2, y3, y4, y5, y6, y7, f, rfl, sm, hP, hf⟩ ⟨rfl, rfl⟩
      have e00 : (fun i : Nat => V.int (0 + (i : Int))) i = V.int (i : Int) := by
        show V.int (0 + (i : Int)) = _
        rw [Int.zero_add]
      rw [e00]
      have I : MI (r0 :: rs) n f := by rw [hf]; exact MI.go ok _ (MI.zero hn)
      have nx : (List.range (i + 1)).foldl (stG (r0 :: rs)) [(0, [])] = stG (r0 :: rs) f i := by rw [List.range_succ, List.foldl_append, ← hf]; rfl
      obtain ⟨ps, hl, hpl, hpx⟩ := id hP
      refine ⟨_, rfl, _, rfl, l, ps.map V.ref, rfl, .inl (.inl (.inl hl)), _, _, rfl, rfl, _, rfl, ?_⟩
      refine ite2 (fun hb => ?_) (fun hb => ?_)
      · have hlt : i < ps.length := by
          have := of_decide_eq_true hb
          rw [List.length_map] at this
          omega
        obtain ⟨q, hq⟩ : ∃ q, ps[i]? = some q := ⟨_, List.getElem?_eq_getElem hlt⟩
        obtain ⟨hw0, hfi⟩ : ∃ hw0, f[i]? = some hw0 := ⟨_, List.getElem?_eq_getElem (by omega)⟩
        obtain ⟨h0, wd⟩ := hw0
        have hq1 := hpx i q _ hq hfi
        have hfm := List.mem_of_getElem? hfi
        have h0n : h0 < n := I.lt _ hfm
        have wlw := I.lw _ hfm
        have stg : stG (r0 :: rs) f i = (ltrs.take (2 * (r0 :: rs).length)).foldl (stI (r0 :: rs) h0 wd) f := by
          unfold stG
          rw [hfi]
          exact metIn_foldl _ _ _ _ _
        refine ⟨_, rfl, _, rfl, l, _, (i : Int), .ref q, rfl, rfl, .inl (.inl hl), atI_nat (by rw [List.getElem?_map, hq]; rfl), q, _, rfl, .inl (.inl hq1), rfl, _, _, rfl, _, _, rfl, rfl, ?_⟩
        have e8 := cutS8 ht4
        have tl : (tps.map V.ref).length = (r0 :: rs).length := by rw [List.length_map, hlen]
        refine ⟨_, rfl, a, tps.map V.ref, rfl, .inl (.inl (.inl (sm _ _ hA))), 2, ((tps.map V.ref).length : Int), rfl, rfl, .inl ⟨by decide, by decide⟩, (2 * ((tps.map V.ref).length : Int)), rfl, "aAbBcCdD", rfl, by decide +kernel, cutS "aAbBcCdD" none (some (2 * ((tps.map V.ref).length : Int))), rfl, ?_⟩
        rw [tl, e8]
        have zs : (tx (ltrs.take (2 * (r0 :: rs).length))).cps.size = (ltrs.take (2 * (r0 :: rs).length)).length := rfl
        refine for_it (walk_str (z := tx (ltrs.take (2 * (r0 :: rs).length)))) (fun j σ H' => ∃ y5 y6 y7 f', σ = [some (.ref a), some (.ref l), some (.int (i : Nat)), some (.int (h0 : Nat)), some (.str (tx wd)), y5, y6, y7] ∧ Same H H' ∧ PA H' l f' ∧ f' = ((ltrs.take (2 * (r0 :: rs).length)).take j).foldl (stI (r0 :: rs) h0 wd) f)
          ⟨y5, y6, y7, f, rfl, sm, hP, rfl⟩ (fun _ _ _ _ _ => trivial) ?_ ?_
        · rintro j x σ H2 H3 hj ⟨y5, y6, y7, f', rfl, sm2, hP2, hf'⟩ ⟨rfl, c, hc, rfl⟩
          have hc' : (ltrs.take (2 * (r0 :: rs).length))[j]? = some c := by simpa [tx] using hc
          have cm := List.mem_of_getElem? hc'
          have slc : slow c - 97 < (r0 :: rs).length := by
            rcases ltr_slow c (List.mem_of_mem_take cm) _ cm with e | e
            · exact e
            · exact absurd e (by omega)
          have ltc : Lt c := (show W4 [c] from fun x hx => by rw [List.mem_singleton.mp hx]; exact List.mem_of_mem_take cm).lw c List.mem_cons_self
          have It := MI.folI ok h0n wlw.1 ((ltrs.take (2 * (r0 :: rs).length)).take j) (fun x hx => List.mem_of_mem_take hx) I wlw.2
          rw [← hf'] at It
          have nx2 : ((ltrs.take (2 * (r0 :: rs).length)).take (j + 1)).foldl (stI (r0 :: rs) h0 wd) f = stI (r0 :: rs) h0 wd f' c := by
            rw [List.take_add_one, hc', List.foldl_append, ← hf']
            rfl
          obtain ⟨ps', hl', hpl', hpx'⟩ := id hP2
          have fl5 : f'.length ≤ 5 := Nat.le_trans It.1.len hn5
          refine ⟨_, rfl, _, rfl, _, rfl, a, r0 :: rs, n, h0, c, rfl, ha.same sm2, ok, h0n, ltc, slc, ?_⟩
          refine ⟨_, rfl, _, rfl, l, rfl, ⟨_, .inl (.inl hl')⟩, fun D nD => lc_it (walk_list (xs := ps'.map V.ref)) (fun i H' => Same H3 H' ∧ H' D = some (.lst (ints1 (f'.take i)))) ⟨same_upd nD, upd_same⟩ (fun i H' _ hp => .inl (.inl (hp.1 _ _ hl'))) ?_ ?_⟩
          · rintro i2 x H4 H5 hi2 ⟨sm3, hD⟩ ⟨rfl, hx⟩
            rw [List.getElem?_map] at hx
            obtain ⟨q2, hq2, rfl⟩ := Option.map_eq_some_iff.mp hx
            obtain ⟨w2, hw2⟩ : ∃ w2, f'[i2]? = some w2 := ⟨_, List.getElem?_eq_getElem (by rw [List.length_map] at hi2; omega)⟩
            have hq3 := sm3 _ _ (hpx' i2 q2 w2 hq2 hw2)
            refine ⟨rfl, yesT ?_⟩
            refine ⟨_, rfl, q2, _, 0, _, rfl, rfl, .inl (.inl hq3), rfl, _, hD, ?_, sm3.set nD, ?_⟩
            · unfold ints1
              rw [List.length_map, List.length_take]
              exact Nat.lt_of_le_of_lt (m := 5) (by omega) (by decide)
            · rw [upd_same, List.take_add_one, hw2]
              unfold ints1
              rw [List.map_append]
              rfl
          · rintro H4 ⟨sm3, hD⟩
            rw [List.take_of_length_le (by rw [List.length_map]; omega)] at hD
            refine ⟨D, _, rfl, .inl (.inl (.inl hD)), rfl, ints1_flat _, _, rfl, ?_⟩
            have hl4 := sm3 _ _ hl'
            have px4 : ∀ (i : Nat) (q : Addr) (x : Nat × List Nat), ps'[i]? = some q → f'[i]? = some x → H4 q = some (.tup [.int (x.1 : Nat), .str (tx x.2)]) := fun i q x e1 e2 => sm3 _ _ (hpx' i q x e1 e2)
            refine ite2 (fun hb2 => ?_) (fun hb2 => ?_)
            · have hnot : gos (r0 :: rs) h0 c ∉ f'.map (·.1) := fun z => by
                have e1 : inV (.int ((gos (r0 :: rs) h0 c : Nat) : Int)) (ints1 f') = true := by rw [ints1_in]; exact decide_eq_true z
                have e2 : (!inV (.int ((gos (r0 :: rs) h0 c : Nat) : Int)) (ints1 f')) = true := hb2
                rw [e1] at e2
                cases e2
              have w5 : wd.length ≤ 10 := by have h1 : wd.length < f.length := wlw.2; have := I.len; omega
              refine ⟨_, rfl, .inl ⟨rfl, _, .inl (.inl hl4)⟩, _, rfl, _, rfl, _, rfl, tx wd, ⟨#[c]⟩, rfl, rfl, ?_, ln2 _ _, fun p9 n9 => ?_⟩
              · show (tx wd).length + 1 ≤ _
                rw [tx_len]
                exact Nat.le_trans (m := 11) (by omega) (by decide)
              have et : tx wd ++ (⟨#[c]⟩ : Str) = tx (wd ++ [c]) := tx_app wd [c]
              refine ⟨l, ps'.map V.ref, _, rfl, rfl, same_upd n9 _ _ hl4, ?_, ?_⟩
              · rw [List.length_map]
                exact Nat.lt_of_le_of_lt (m := 5) (by omega) (by decide)
              have pa := PA.app (x := (gos (r0 :: rs) h0 c, wd ++ [c])) hl4 hpl' px4 n9
              rw [et]
              refine ⟨_, _, _, f' ++ [(gos (r0 :: rs) h0 c, wd ++ [c])], rfl, ((sm2.trans sm3).trans (same_upd n9)).set nlH, pa, ?_⟩
              rw [nx2]
              unfold stI
              rw [if_neg hnot]
            · have hin : gos (r0 :: rs) h0 c ∈ f'.map (·.1) := Classical.byContradiction fun z => hb2 (by
                show (!inV (.int ((gos (r0 :: rs) h0 c : Nat) : Int)) (ints1 f')) = true
                rw [ints1_in, decide_eq_false z]
                rfl)
              refine ⟨_, _, _, f', rfl, sm2.trans sm3, ⟨ps', hl4, hpl', px4⟩, ?_⟩
              rw [nx2]
              unfold stI
              rw [if_pos hin]
        · rintro σ H2 ⟨y5, y6, y7, f', rfl, sm2, hP2, hf'⟩
          refine ⟨_, _, _, _, _, _, f', rfl, sm2, hP2, ?_⟩
          rw [nx, stg, hf', List.take_of_length_le (Nat.le_of_eq zs.symm)]
      · refine ⟨_, _, _, _, _, _, f, rfl, sm, hP, ?_⟩
        rw [nx]
        unfold stG
        rw [List.getElem?_eq_none (by
          have h2 : ¬ (i < ps.length) := fun z => hb (decide_eq_true (by rw [List.length_map]; omega))
          omega)]
    · rintro σ H1 ⟨y2, y3, y4, y5, y6, y7, f, rfl, sm, ⟨ps, hl, hpl, hpx⟩, hf⟩
      have em : metM (r0 :: rs) = f := by
        unfold metM
        rw [metGo_foldl, hf]
        show List.foldl _ _ (List.range r0.length) = _
        rw [rl0]
      exact ⟨_, rfl, q _ l ps sm nlH hl (by rw [em]; exact hpl) (fun i q x e1 e2 => hpx i q x e1 (by rw [← em]; exact e2))⟩
end
end G1
set_option Elab.async false
set_option linter.all false
set_option maxRecDepth 100000
set_option maxHeartbeats 4000000
/-! the law: drawn tables -/
namespace G1
open PySem PySem.Spec PyProof.Rows _root_.L2
open PySem.W (Datum DatumOrd T3 T4 Tup)
theorem mem_perms : ∀ {l row : List Nat}, row.Perm l → row ∈ perms l
  | [], row, h => by
    rw [List.Perm.eq_nil h]
    exact List.mem_singleton.mpr rfl
  | x :: r, row, h => by
    obtain ⟨s, t, rfl⟩ := List.append_of_mem (h.mem_iff.mpr List.mem_cons_self)
    have h2 : (x :: (s ++ t)).Perm (x :: r) := List.perm_middle.symm.trans h
    have h3 := mem_perms (List.Perm.cons_inv h2)
    refine List.mem_flatMap.mpr ⟨s ++ t, h3, List.mem_map.mpr ⟨s.length, List.mem_range.mpr (by rw [List.length_append]; omega), ?_⟩⟩
    rw [List.take_left, List.drop_left, List.append_assoc]
    rfl
theorem mem_tables {n : Nat} : ∀ {m : Nat} {tb : Tb}, tb.length = m → (∀ row ∈ tb, row.Perm (List.range n)) → tb ∈ tables m n
  | 0, tb, h, _ => by
    rw [List.eq_nil_of_length_eq_zero h]
    exact List.mem_singleton.mpr rfl
  | m + 1, [], h, _ => absurd h (Nat.succ_ne_zero m).symm
  | m + 1, p :: t, h, hr => List.mem_flatMap.mpr ⟨p, mem_perms (hr p List.mem_cons_self), List.mem_map.mpr ⟨t, mem_tables (Nat.succ.inj h) fun row hrow => hr row (List.mem_cons_of_mem _ hrow), rfl⟩⟩
def six : List (Nat × Nat) := [(2, 3), (2, 2), (2, 4), (1, 5), (3, 2), (2, 1)]
theorem mem_all {m s n : Nat} {tb : Tb} (h : (m, s) ∈ six) (n1 : 1 ≤ n) (ns : n ≤ s) (ht : tb.length = m) (hr : ∀ row ∈ tb, row.Perm (List.range n)) : tb ∈ allTb := by
  obtain ⟨k, rfl⟩ : ∃ k, n = k + 1 := ⟨n - 1, by omega⟩
  exact List.mem_flatMap.mpr ⟨(m, s), h, List.mem_flatMap.mpr ⟨k, List.mem_range.mpr ns, mem_tables ht hr⟩⟩
theorem six_b {m s : Nat} (h : (m, s) ∈ six) : 1 ≤ m ∧ m ≤ 3 ∧ 1 ≤ s ∧ s ≤ 5 := by
  have key : ∀ p ∈ six, 1 ≤ p.1 ∧ p.1 ≤ 3 ∧ 1 ≤ p.2 ∧ p.2 ≤ 5 := by decide
  exact key _ h
theorem tok_of {tb : Tb} {m s n : Nat} (h : (m, s) ∈ six) (ns : n ≤ s) (ht : tb.length = m) (hr : ∀ row ∈ tb, row.Perm (List.range n)) : Tok tb n := by
  obtain ⟨_, m3, _, s5⟩ := six_b h
  refine ⟨by omega, by omega, fun row hrow => ?_⟩
  have p := hr row hrow
  exact ⟨by rw [p.length_eq, List.length_range], p.nodup_iff.mpr List.nodup_range, fun h => by rw [p.mem_iff, List.mem_range]⟩
theorem its_len (l : List Nat) : (its l).length = l.length := by
  unfold its
  rw [List.length_map]
theorem its_erase : ∀ (l : List Nat) (k : Nat), (its l).eraseIdx k = its (l.eraseIdx k)
  | [], _ => rfl
  | _ :: _, 0 => rfl
  | x :: r, k + 1 => congrArg (V.int (x : Nat) :: ·) (its_erase r k)
theorem its_app (l : List Nat) (x : Nat) : its l ++ [.int (x : Nat)] = its (l ++ [x]) := by
  unfold its
  rw [List.map_append]
  rfl
theorem rgV_its (n : Nat) : rgV 0 (n : Int) = its (List.range n) := by
  unfold rgV its
  have e : ((n : Int) - 0).toNat = n := by omega
  rw [e]
  refine List.map_congr_left fun i _ => ?_
  rw [Int.zero_add]
/-- a table that is being built -/
def TbF (T : Addr) (H : Hp) (a : Addr) (tb : Tb) : Prop := a ≠ T ∧ ∃ ps : List Addr, H a = some (.lst (ps.map V.ref)) ∧ ps.length = tb.length ∧ ∀ (i : Nat) (p : Addr) (row : List Nat), ps[i]? = some p → tb[i]? = some row → H p = some (.lst (its row)) ∧ p ≠ T
theorem TbF.og {T : Addr} {H H' : Hp} {a : Addr} {tb : Tb} (h : TbF T H a tb) (o : Og T H H') : TbF T H' a tb := by
  obtain ⟨na, ps, hA, hl, hp⟩ := h
  exact ⟨na, ps, o.off _ _ na hA, hl, fun i p row e1 e2 => ⟨o.off _ _ (hp i p row e1 e2).2 (hp i p row e1 e2).1, (hp i p row e1 e2).2⟩⟩
theorem TbF.at_ {T : Addr} {H : Hp} {a : Addr} {tb : Tb} (h : TbF T H a tb) : TbAt H a tb := by
  obtain ⟨na, ps, hA, hl, hp⟩ := h
  exact ⟨ps, hA, hl, fun i p row e1 e2 => (hp i p row e1 e2).1⟩
theorem perm_erIdx : ∀ {l : List Nat} {k x : Nat}, l[k]? = some x → (x :: l.eraseIdx k).Perm l
  | [], _, _, h => nomatch h
  | y :: r, 0, x, h => by
    cases h
    exact .refl _
  | y :: r, k + 1, x, h => (List.Perm.swap y x _).trans (.cons y (perm_erIdx (l := r) h))
/-- rows that are being drawn -/
structure PopI (T Lf Rw : Addr) (H1 H' : Hp) (n j : Nat) (left row : List Nat) : Prop where
  off : ∀ b o, b ≠ T → b ≠ Lf → b ≠ Rw → H1 b = some o → H' b = some o
  till : Till H' T
  hl : H' Lf = some (.lst (its left))
  hr : H' Rw = some (.lst (its row))
  pm : (row ++ left).Perm (List.range n)
  len : left.length + j = n
theorem Till.set {H : Hp} {T b : Addr} {o : HO} (h : Till H T) (n : b ≠ T) : Till (upd H b o) T := by
  obtain ⟨x, y, z, e, h0⟩ := h
  exact ⟨x, y, z, by rw [upd_ne (Ne.symm n)]; exact e, h0⟩
theorem PopI.step {T Lf Rw : Addr} {H1 H' H2 : Hp} {n j k x : Nat} {left row : List Nat} (P : PopI T Lf Rw H1 H' n j left row) (nL : Lf ≠ T) (nR : Rw ≠ T) (nn : Lf ≠ Rw) (og : Og T H' H2) (hx : left[k]? = some x) :
    PopI T Lf Rw H1 (upd (upd H2 Lf (.lst ((its left).eraseIdx k))) Rw (.lst (its row ++ [.int (x : Nat)]))) n (j + 1) (left.eraseIdx k) (row ++ [x]) := by
  have hk : k < left.length := (List.getElem?_eq_some_iff.mp hx).1
  refine ⟨fun b o b1 b2 b3 e => ?_, (og.till.set nL).set nR, ?_, ?_, ?_, ?_⟩
  · rw [upd_ne b3, upd_ne b2]
    exact og.off _ _ b1 (P.off b o b1 b2 b3 e)
  · rw [upd_ne nn, upd_same, its_erase]
  · rw [upd_same, its_app]
  · rw [List.append_assoc]
    refine List.Perm.trans (List.Perm.append_left _ ?_) P.pm
    exact perm_erIdx hx
  · have := List.length_eraseIdx_of_lt hk
    have := P.len
    omega
section
variable {P : Program} {w : World} {K : PySem.W.Frag} {mg : Str → Option Value} {base : Heap} {CF CR CL : Addr}
def rI (row : List Nat) : List Int := List.map (fun (n : Nat) => ((n : Nat) : Int)) row
theorem its_dp {H : Hp} : ∀ row : List Nat, DpAll K H (its row) ((rI row).map Datum.toD)
  | [] => .nil
  | x :: r => show DpAll K H (V.int ((x : Nat) : Int) :: its r) (PyData.int ((x : Nat) : Int) :: (rI r).map Datum.toD) from .cons (.int _) (its_dp r)
theorem tb_dp {H : Hp} : ∀ {ps : List Addr} {tb : Tb}, ps.length = tb.length → (∀ (i : Nat) (p : Addr) (row : List Nat), ps[i]? = some p → tb[i]? = some row → H p = some (.lst (its row))) → DpAll K H (ps.map V.ref) ((tb.map rI).map Datum.toD)
  | [], [], _, _ => .nil
  | [], _ :: _, h, _ => nomatch h
  | _ :: _, [], h, _ => nomatch h
  | p :: ps, row :: tb, h, hp => .cons (.lst (.inl (.inl (hp 0 p row rfl rfl))) (its_dp row)) (tb_dp (Nat.succ.inj h) fun i q r e1 e2 => hp (i + 1) q r e1 e2)
def spTbl : Sp := fun vs H Q _ => ∃ (T : Addr), vs = [.ref T] ∧ Till H T ∧ ∀ H' a (tb : Tb) n, Og T H H' → a ≠ T → TbAt H' a tb → Tok tb n → 1 ≤ n → 1 ≤ tb.length → tb ∈ allTb → Q (.ref a) H'
abbrev nTbl : List Str := ["_law_till_here", "_law_many", "_law_size", "_law_table_here", "_law_letter", "_law_left", "_law_row", "_law_turn"]
theorem scTbl : FnScope nTbl ["_law_till_here"] (defScope (top 61)) := ⟨rfl, rfl, rfl, by decide +kernel, rfl, by decide +kernel, by decide +kernel⟩
theorem c_table (T : Tx K mg CF CR CL) : Cal P w K mg base 3 "_law_table" spTbl := by
  refine cal T.l_table scTbl (fun vs H Q E h => ?_) (fun _ _ _ _ _ _ us hl => match us, hl with | [_], _ => rfl) fun f cdv A outer s H vs Q E hr h => ?_
  · obtain ⟨_, rfl, _⟩ := h; rfl
  · obtain ⟨Tl, rfl, hT, q⟩ := h
    refine ⟨_, pss_cons (ps_asg (pe_c (c_coin T) hr (by decide) rfl (pa_cons (pv 0) (pa_cons (pe_lst (pa_cons (pe_tup (pa_cons pe_int (pa_cons pe_int pa_nil))) (pa_cons (pe_tup (pa_cons pe_int (pa_cons pe_int pa_nil))) (pa_cons (pe_tup (pa_cons pe_int (pa_cons pe_int pa_nil))) (pa_cons (pe_tup (pa_cons pe_int (pa_cons pe_int pa_nil))) (pa_cons (pe_tup (pa_cons pe_int (pa_cons pe_int pa_nil))) (pa_cons (pe_tup (pa_cons pe_int (pa_cons pe_int pa_nil))) pa_nil))))))) pa_nil)))
        (pg_tup rfl (pgs_cons (pg_name (i := 1) scTbl.nd rfl (.inl rfl)) (pgs_cons (pg_name (i := 2) scTbl.nd rfl (.inl rfl)) pgs_nil))))
      (pss_cons (ps_set (i := 3) scTbl.nd rfl (.inl rfl) (pe_lst pa_nil))
      (pss_cons (ps_for PassesOwn.never rfl (pi_range1 rfl (T.nb "range") (pa_cons (pv 1) pa_nil)) (pg_name (i := 4) scTbl.nd rfl (.inl rfl))
        (pss_cons (ps_par (i := 5) (j := 6) (by rfl) scTbl.nd rfl rfl (by decide) rfl rfl (pa_cons (pe_ifExp (pt_cmpR (op_eqT (List (List Int)) hr.units) (pv 3) (pe_lst pa_nil) (nomark _))
            (pe_listRg rfl rfl (T.nb "list") (prg_1 rfl (T.nb "range") (pe_op op_add pe_int (pe_c (c_pay T) hr (by decide) rfl (pa_cons (pv 0) (pa_cons (pv 2) pa_nil))))))
            (pe_listRg rfl rfl (T.nb "list") (prg_1 rfl (T.nb "range") (pe_callB call_len_seq (by rfl) (T.nb "len") boot_len (pa_cons (pe_ix ix_list (pv 3) pe_int (fun _ _ => rfl)) pa_nil))))) (pa_cons (pe_lst pa_nil) pa_nil)) (by rfl))
        (pss_cons (ps_for PassesOwn.never rfl (pi_range1 rfl (T.nb "range") (pa_cons (pe_callB call_len_seq (by rfl) (T.nb "len") boot_len (pa_cons (pv 5) pa_nil)) pa_nil)) (pg_name (i := 7) scTbl.nd rfl (.inl rfl))
          (pss_one (ps_expr (pe_bm PySem.F.plainAttrs_list PySem.F.slot_list_append PySem.F.type_list_append mt_append (pv 6) (pa_cons (pe_bm PySem.F.plainAttrs_list PySem.F.slot_list_pop PySem.F.type_list_pop mt_popAt (pv 5) (pa_cons (pe_c (c_pay T) hr (by decide) rfl (pa_cons (pv 0) (pa_cons (pe_callB call_len_seq (by rfl) (T.nb "len") boot_len (pa_cons (pv 5) pa_nil)) pa_nil))) pa_nil)) pa_nil)))))
        (pss_one (ps_expr (pe_bm PySem.F.plainAttrs_list PySem.F.slot_list_append PySem.F.type_list_append mt_append (pv 3) (pa_cons (pv 6) pa_nil)))))))
      (pss_one (ps_ret (pv 3))))), ?_⟩
    refine ⟨_, rfl, ln2 _ _, fun p1 n1 => ⟨ln2 _ _, fun p2 n2 => ⟨ln2 _ _, fun p3 n3 => ⟨ln2 _ _, fun p4 n4 => ⟨ln2 _ _, fun p5 n5 => ⟨ln2 _ _, fun p6 n6 => ⟨(by show 6 ≤ sizeLine; decide), fun l nl => ?_⟩⟩⟩⟩⟩⟩⟩
    have t1 := same_upd (o := .tup [.int 2, .int 3]) n1
    have t2 := same_upd (o := .tup [.int 2, .int 2]) n2
    have t3 := same_upd (o := .tup [.int 2, .int 4]) n3
    have t4 := same_upd (o := .tup [.int 1, .int 5]) n4
    have t5 := same_upd (o := .tup [.int 3, .int 2]) n5
    have t6 := same_upd (o := .tup [.int 2, .int 1]) n6
    have tl := same_upd (o := .lst [.ref p1, .ref p2, .ref p3, .ref p4, .ref p5, .ref p6]) nl
    have z6 := t6.trans tl
    have z5 := t5.trans z6
    have z4 := t4.trans z5
    have z3 := t3.trans z4
    have z2 := t2.trans z3
    have z1 := t1.trans z2
    have h1 := z2 _ _ (upd_same (H := H) (a := p1) (o := .tup [.int 2, .int 3]))
    have h2 := z3 _ _ (upd_same (H := upd H p1 (.tup [.int 2, .int 3])) (a := p2) (o := .tup [.int 2, .int 2]))
    have h3 := z4 _ _ (upd_same (H := upd (upd H p1 (.tup [.int 2, .int 3])) p2 (.tup [.int 2, .int 2])) (a := p3) (o := .tup [.int 2, .int 4]))
    have h4 := z5 _ _ (upd_same (H := upd (upd (upd H p1 (.tup [.int 2, .int 3])) p2 (.tup [.int 2, .int 2])) p3 (.tup [.int 2, .int 4])) (a := p4) (o := .tup [.int 1, .int 5]))
    have h5 := z6 _ _ (upd_same (H := upd (upd (upd (upd H p1 (.tup [.int 2, .int 3])) p2 (.tup [.int 2, .int 2])) p3 (.tup [.int 2, .int 4])) p4 (.tup [.int 1, .int 5])) (a := p5) (o := .tup [.int 3, .int 2]))
    have h6 := tl _ _ (upd_same (H := upd (upd (upd (upd (upd H p1 (.tup [.int 2, .int 3])) p2 (.tup [.int 2, .int 2])) p3 (.tup [.int 2, .int 4])) p4 (.tup [.int 1, .int 5])) p5 (.tup [.int 3, .int 2])) (a := p6) (o := .tup [.int 2, .int 1]))
    have hl := upd_same (H := upd (upd (upd (upd (upd (upd H p1 (.tup [.int 2, .int 3])) p2 (.tup [.int 2, .int 2])) p3 (.tup [.int 2, .int 4])) p4 (.tup [.int 1, .int 5])) p5 (.tup [.int 3, .int 2])) p6 (.tup [.int 2, .int 1])) (a := l) (o := .lst [.ref p1, .ref p2, .ref p3, .ref p4, .ref p5, .ref p6])
    generalize upd (upd (upd (upd (upd (upd (upd H p1 (.tup [.int 2, .int 3])) p2 (.tup [.int 2, .int 2])) p3 (.tup [.int 2, .int 4])) p4 (.tup [.int 1, .int 5])) p5 (.tup [.int 3, .int 2])) p6 (.tup [.int 2, .int 1])) l (.lst [.ref p1, .ref p2, .ref p3, .ref p4, .ref p5, .ref p6]) = H0 at z1 h1 h2 h3 h4 h5 h6 hl ⊢
    clear t1 t2 t3 t4 t5 t6 tl z2 z3 z4 z5 z6
    have og0 : Og Tl H H0 := Og.of hT z1
    obtain ⟨ta, tb_, tc, hTe, _⟩ := id og0.till
    have nT : ∀ {p : Addr} {xs : List V}, H0 p = some (.tup xs) → p ≠ Tl := fun e1 e2 => by rw [e2, hTe] at e1; cases e1
    have hlT : l ≠ Tl := fun e => by
      rw [e, hTe] at hl
      injection hl with hl
      injection hl with hl
      injection hl with hl
      cases hl
    refine ⟨Tl, .ref l, rfl, og0.till, .inr ⟨l, _, rfl, hlT, hl, (by show 1 ≤ 6; decide), (by show 6 ≤ 1000; decide), fun H1 i x og1 hx => ?_⟩⟩
    obtain ⟨m, sz, p, rfl, hp, h6s⟩ : ∃ (m sz : Nat) (p : Addr), x = .ref p ∧ H1 p = some (.tup [.int m, .int sz]) ∧ (m, sz) ∈ six := by
      have off := og1.off
      match i, hx with
      | 0, e => cases e; exact ⟨2, 3, p1, rfl, off _ _ (nT h1) h1, by decide⟩
      | 1, e => cases e; exact ⟨2, 2, p2, rfl, off _ _ (nT h2) h2, by decide⟩
      | 2, e => cases e; exact ⟨2, 4, p3, rfl, off _ _ (nT h3) h3, by decide⟩
      | 3, e => cases e; exact ⟨1, 5, p4, rfl, off _ _ (nT h4) h4, by decide⟩
      | 4, e => cases e; exact ⟨3, 2, p5, rfl, off _ _ (nT h5) h5, by decide⟩
      | 5, e => cases e; exact ⟨2, 1, p6, rfl, off _ _ (nT h6) h6, by decide⟩
      | k + 6, e => cases e
    have og := og0.trans og1
    obtain ⟨m1, m3, s1, s5⟩ := six_b h6s
    refine ⟨p, _, rfl, .inl (.inl hp), rfl, _, _, rfl, _, _, rfl, rfl, ?_⟩
    refine ⟨Nat.zero_le _, fun a na => ?_⟩
    have og2 := og.same (same_upd (o := .lst []) na)
    have naT : a ≠ Tl := fun e => by
      obtain ⟨_, _, _, e2, _⟩ := og.till
      rw [e, e2] at na
      cases na
    refine ⟨_, rfl, (m : Int), rfl, by omega, by omega, ?_⟩
    refine for_it (walk_range (lo := 0) (n := m)) (fun i σ H' => ∃ y4 y5 y6 y7 tb, σ = [some (.ref Tl), some (.int (m : Nat)), some (.int (sz : Nat)), some (.ref a), y4, y5, y6, y7] ∧ Og Tl H H' ∧ TbF Tl H' a tb ∧ tb.length = i ∧ (tb = [] ∨ ∃ n, 1 ≤ n ∧ n ≤ sz ∧ ∀ row ∈ tb, row.Perm (List.range n)))
      ⟨none, none, none, none, [], rfl, og2, ⟨naT, [], upd_same, rfl, fun i p row e => (nomatch e)⟩, rfl, .inl rfl⟩ (fun _ _ _ _ _ => trivial) ?_ ?_
    · rintro i x σ H2 H3 hi ⟨y4, y5, y6, y7, tb, rfl, og3, tf, htl, hrows⟩ ⟨rfl, rfl⟩
      refine ⟨_, rfl, Nat.zero_le _, fun pe npe => ?_⟩
      have og4 := og3.same (same_upd (o := .lst []) npe)
      have tf4 := tf.og (Og.of og3.till (same_upd (o := .lst []) npe))
      obtain ⟨_, ps0, hA0, hpl0, hps0⟩ := id tf4
      refine ⟨tb.map rI, [], .lst (.inl (.inl hA0)) (tb_dp hpl0 fun i p row e1 e2 => (hps0 i p row e1 e2).1), .lst (.inl (.inl upd_same)) .nil, _, rfl, ?_⟩
      refine ite2 (fun hb => ?_) (fun hb => ?_)
      · have tb0 : tb = [] := List.map_eq_nil_iff.mp (of_decide_eq_true hb)
        refine ⟨_, rfl, _, rfl, Tl, sz, rfl, og4.till, s1, by omega, fun H5 r0 ogp hr0 => ⟨_, _, rfl, rfl, ((1 : Int) + (r0 : Nat)), rfl, ?_⟩⟩
        have og5 := og4.trans ogp
        have tf5 := tf4.og ogp
        obtain ⟨n, en⟩ : ∃ n, n = r0 + 1 := ⟨_, rfl⟩
        have n1' : 1 ≤ n := by omega
        have ns : n ≤ sz := by omega
        have rl : rgV 0 ((n : Nat) : Int) = its (List.range n) := rgV_its n
        have e0n : rgV 0 ((1 : Int) + (r0 : Nat)) = its (List.range n) := by rw [← rl]; congr 1; omega
        refine ⟨by show RgOk 0 ((1 : Int) + (r0 : Nat)); exact RgOk.of_le (by omega) (by omega) (by omega) (by omega), fun Lf nLf => ⟨Nat.zero_le _, fun Rw nRw => ⟨_, _, rfl, ?_⟩⟩⟩
        rw [e0n] at nRw ⊢
        have u1 := same_upd (o := .lst (its (List.range n))) nLf
        have u2 := u1.trans (same_upd (o := .lst []) nRw)
        have og6 := og5.same u2
        have tf6 := tf5.og (Og.of og5.till u2)
        have LT : Lf ≠ Tl := fun e => by
          obtain ⟨_, _, _, e2, _⟩ := og5.till
          rw [e, e2] at nLf
          cases nLf
        have RT : Rw ≠ Tl := fun e => by
          obtain ⟨_, _, _, e2, _⟩ := (og5.same u1).till
          rw [e, e2] at nRw
          cases nRw
        have LR : Lf ≠ Rw := fun e => by
          rw [← e, upd_same] at nRw
          cases nRw
        have hLf := same_upd (o := .lst []) nRw _ _ (upd_same (H := H5) (a := Lf) (o := .lst (its (List.range n))))
        have hRw := upd_same (H := upd H5 Lf (.lst (its (List.range n)))) (a := Rw) (o := .lst [])
        have keepF : ∀ {b : Addr} {o : HO}, H5 b = some o → b ≠ Lf ∧ b ≠ Rw := fun e => ⟨ne_of_none e nLf, ne_of_none (u1 _ _ e) nRw⟩
        generalize upd (upd H5 Lf (.lst (its (List.range n)))) Rw (.lst []) = H6 at u2 og6 tf6 hLf hRw ⊢
        refine ⟨_, rfl, Lf, _, rfl, .inl (.inl (.inl hLf)), ((n : Nat) : Int), by rw [its_len, List.length_range], by omega, by omega, ?_⟩
        refine for_it (walk_range (lo := 0) (n := n)) (fun j σ H' => ∃ y7 left row, σ = [some (.ref Tl), some (.int (m : Nat)), some (.int (sz : Nat)), some (.ref a), some (.int (i : Nat)), some (.ref Lf), some (.ref Rw), y7] ∧ PopI Tl Lf Rw H6 H' n j left row)
          ⟨y7, List.range n, [], ?_, ⟨fun b o _ _ _ e => e, og6.till, hLf, hRw, .refl _, by rw [List.length_range]; rfl⟩⟩ (fun _ _ _ _ _ => trivial) ?_ ?_
        · show [some (V.ref Tl), some (V.int (m : Nat)), some (V.int (sz : Nat)), some (V.ref a), some (V.int (0 + (i : Int))), some (V.ref Lf), some (V.ref Rw), y7] = _
          rw [Int.zero_add]
        · rintro j x σ H7 H8 hj ⟨y7, left, row, rfl, Pp⟩ ⟨rfl, rfl⟩
          have ll := Pp.len
          refine ⟨_, rfl, .inl ⟨rfl, _, .inl (.inl Pp.hr)⟩, _, rfl, .inl ⟨rfl, _, .inl (.inl Pp.hl)⟩, _, rfl, _, rfl, Lf, _, rfl, .inl (.inl (.inl Pp.hl)), ?_⟩
          refine ⟨Tl, left.length, ?_, Pp.till, by omega, by omega, fun H9 r ogr hr => ?_⟩
          · exact congrArg (fun z : Nat => [V.ref Tl, V.int (z : Int)]) (its_len left)
          obtain ⟨v, hv⟩ : ∃ v, left[r]? = some v := ⟨_, List.getElem?_eq_getElem hr⟩
          have hL9 := ogr.off _ _ LT Pp.hl
          have hR9 := ogr.off _ _ RT Pp.hr
          refine ⟨Lf, its left, (r : Int), r, .int (v : Nat), rfl, rfl, hL9, by omega, by omega, ?_, by unfold its; rw [List.getElem?_map, hv]; rfl, ?_⟩
          · rw [its_len]
            unfold seqIndex?
            have e1 : ¬ ((r : Int) < 0) := by omega
            simp only [if_neg e1]
            rw [if_pos (by simp; omega)]
            rfl
          · refine ⟨Rw, its row, _, rfl, rfl, by rw [upd_ne (Ne.symm LR)]; exact hR9, ?_, ?_⟩
            · rw [its_len]
              have := Pp.pm.length_eq
              rw [List.length_append, List.length_range] at this
              exact Nat.lt_of_le_of_lt (m := 5) (by omega) (by decide)
            · exact ⟨_, left.eraseIdx r, row ++ [v], rfl, Pp.step LT RT LR ogr hv⟩
        · rintro σ H7 ⟨y7, left, row, rfl, Pp⟩
          have l0 : left = [] := List.eq_nil_of_length_eq_zero (by have := Pp.len; omega)
          subst l0
          have pm := Pp.pm
          rw [List.append_nil] at pm
          obtain ⟨naT', ps, hA, hpl, hps⟩ := tf5
          have aLR := keepF hA
          have hA7 := Pp.off _ _ naT aLR.1 aLR.2 (u2 _ _ hA)
          refine ⟨_, rfl, .inl ⟨rfl, _, .inl (.inl hA7)⟩, _, rfl, a, ps.map V.ref, .ref Rw, rfl, rfl, hA7, ?_, ?_⟩
          · rw [List.length_map, hpl, htl]
            exact Nat.lt_of_le_of_lt (m := 5) (by omega) (by decide)
          have og7 : Og Tl H H7 := ⟨fun b o hb e => by
            have e5 := og5.off b o hb e
            exact Pp.off _ _ hb (keepF e5).1 (keepF e5).2 (u2 _ _ e5), Pp.till⟩
          have naH : H a = none := og.free na
          have Ra : Rw ≠ a := Ne.symm aLR.2
          refine ⟨_, _, _, _, tb ++ [row], rfl, ⟨fun b o hb e => by rw [upd_ne (ne_of_none e naH)]; exact og7.off b o hb e, og7.till.set naT⟩, ⟨naT, ps ++ [Rw], by rw [upd_same, List.map_append]; rfl, by rw [List.length_append, List.length_append, hpl]; rfl, fun k p rw_ e1 e2 => ?_⟩, by rw [List.length_append, htl]; rfl, .inr ⟨n, n1', ns, fun r2 hr2 => ?_⟩⟩
          · by_cases hk : k < ps.length
            · rw [List.getElem?_append_left hk] at e1
              rw [List.getElem?_append_left (by omega)] at e2
              obtain ⟨b1, b2⟩ := hps k p rw_ e1 e2
              have hpa : p ≠ a := fun e => by
                rw [e, hA] at b1
                injection b1 with b1
                injection b1 with b1
                cases ps with
                | nil => cases e1
                | cons q qs =>
                  cases rw_ with
                  | nil => cases b1
                  | cons u us =>
                    injection b1 with b1
                    cases b1
              refine ⟨?_, b2⟩
              rw [upd_ne hpa]
              exact Pp.off _ _ b2 (keepF b1).1 (keepF b1).2 (u2 _ _ b1)
            · have hk2 : k = ps.length := by
                have := (List.getElem?_eq_some_iff.mp e1).1
                rw [List.length_append] at this
                simp at this
                omega
              subst hk2
              rw [List.getElem?_append_right (Nat.le_refl _), Nat.sub_self] at e1
              rw [hpl, List.getElem?_append_right (Nat.le_refl _), Nat.sub_self] at e2
              cases e1
              cases e2
              exact ⟨by rw [upd_ne Ra]; exact Pp.hr, RT⟩
          · rcases List.mem_append.mp hr2 with hr2 | hr2
            · exact absurd hr2 (by rw [tb0]; exact fun z => nomatch z)
            · rw [List.mem_singleton.mp hr2]
              exact pm
      · obtain ⟨n, n1', ns, hall⟩ : ∃ n, 1 ≤ n ∧ n ≤ sz ∧ ∀ row ∈ tb, row.Perm (List.range n) := by
          rcases hrows with h | h
          · exact absurd (decide_eq_true (by rw [h]; rfl)) hb
          · exact h
        have tbn : 0 < tb.length := by
          cases tb with
          | nil => exact absurd (decide_eq_true rfl) hb
          | cons _ _ => exact Nat.succ_pos _
        obtain ⟨row0, hr00⟩ : ∃ r, tb[0]? = some r := ⟨_, List.getElem?_eq_getElem tbn⟩
        obtain ⟨q0, hq0⟩ : ∃ r, ps0[0]? = some r := ⟨_, List.getElem?_eq_getElem (by omega)⟩
        have l0 : row0.length = n := by
          have := (hall row0 (List.mem_of_getElem? hr00)).length_eq
          rw [List.length_range] at this
          exact this
        have hq1 := (hps0 0 q0 row0 hq0 hr00).1
        refine ⟨_, rfl, a, _, 0, .ref q0, rfl, rfl, .inl (.inl hA0), atI_nat (j := 0) (by rw [List.getElem?_map, hq0]; rfl), q0, its row0, rfl, .inl (.inl (.inl hq1)), ((its row0).length : Int), rfl, ?_⟩
        have og5 := og4
        have tf5 := tf4
        obtain ⟨H5, eH5⟩ : ∃ H5, H5 = upd H3 pe (.lst []) := ⟨_, rfl⟩
        rw [← eH5] at og5 tf5 ⊢
        have rl : rgV 0 ((n : Nat) : Int) = its (List.range n) := rgV_its n
        have e0n : rgV 0 ((its row0).length : Int) = its (List.range n) := by rw [its_len, l0, rl]
        refine ⟨by rw [its_len, l0]; exact RgOk.of_le (by omega) (by omega) (by omega) (by omega), fun Lf nLf => ⟨Nat.zero_le _, fun Rw nRw => ⟨_, _, rfl, ?_⟩⟩⟩
        rw [e0n] at nRw ⊢
        have u1 := same_upd (o := .lst (its (List.range n))) nLf
        have u2 := u1.trans (same_upd (o := .lst []) nRw)
        have og6 := og5.same u2
        have tf6 := tf5.og (Og.of og5.till u2)
        have LT : Lf ≠ Tl := fun e => by
          obtain ⟨_, _, _, e2, _⟩ := og5.till
          rw [e, e2] at nLf
          cases nLf
        have RT : Rw ≠ Tl := fun e => by
          obtain ⟨_, _, _, e2, _⟩ := (og5.same u1).till
          rw [e, e2] at nRw
          cases nRw
        have LR : Lf ≠ Rw := fun e => by
          rw [← e, upd_same] at nRw
          cases nRw
        have hLf := same_upd (o := .lst []) nRw _ _ (upd_same (H := H5) (a := Lf) (o := .lst (its (List.range n))))
        have hRw := upd_same (H := upd H5 Lf (.lst (its (List.range n)))) (a := Rw) (o := .lst [])
        have keepF : ∀ {b : Addr} {o : HO}, H5 b = some o → b ≠ Lf ∧ b ≠ Rw := fun e => ⟨ne_of_none e nLf, ne_of_none (u1 _ _ e) nRw⟩
        generalize upd (upd H5 Lf (.lst (its (List.range n)))) Rw (.lst []) = H6 at u2 og6 tf6 hLf hRw ⊢
        refine ⟨_, rfl, Lf, _, rfl, .inl (.inl (.inl hLf)), ((n : Nat) : Int), by rw [its_len, List.length_range], by omega, by omega, ?_⟩
        refine for_it (walk_range (lo := 0) (n := n)) (fun j σ H' => ∃ y7 left row, σ = [some (.ref Tl), some (.int (m : Nat)), some (.int (sz : Nat)), some (.ref a), some (.int (i : Nat)), some (.ref Lf), some (.ref Rw), y7] ∧ PopI Tl Lf Rw H6 H' n j left row)
          ⟨y7, List.range n, [], ?_, ⟨fun b o _ _ _ e => e, og6.till, hLf, hRw, .refl _, by rw [List.length_range]; rfl⟩⟩ (fun _ _ _ _ _ => trivial) ?_ ?_
        · show [some (V.ref Tl), some (V.int (m : Nat)), some (V.int (sz : Nat)), some (V.ref a), some (V.int (0 + (i : Int))), some (V.ref Lf), some (V.ref Rw), y7] = _
          rw [Int.zero_add]
        · rintro j x σ H7 H8 hj ⟨y7, left, row, rfl, Pp⟩ ⟨rfl, rfl⟩
          have ll := Pp.len
          refine ⟨_, rfl, .inl ⟨rfl, _, .inl (.inl Pp.hr)⟩, _, rfl, .inl ⟨rfl, _, .inl (.inl Pp.hl)⟩, _, rfl, _, rfl, Lf, _, rfl, .inl (.inl (.inl Pp.hl)), ?_⟩
          refine ⟨Tl, left.length, ?_, Pp.till, by omega, by omega, fun H9 r ogr hr => ?_⟩
          · exact congrArg (fun z : Nat => [V.ref Tl, V.int (z : Int)]) (its_len left)
          obtain ⟨v, hv⟩ : ∃ v, left[r]? = some v := ⟨_, List.getElem?_eq_getElem hr⟩
          have hL9 := ogr.off _ _ LT Pp.hl
          have hR9 := ogr.off _ _ RT Pp.hr
          refine ⟨Lf, its left, (r : Int), r, .int (v : Nat), rfl, rfl, hL9, by omega, by omega, ?_, by unfold its; rw [List.getElem?_map, hv]; rfl, ?_⟩
          · rw [its_len]
            unfold seqIndex?
            have e1 : ¬ ((r : Int) < 0) := by omega
            simp only [if_neg e1]
            rw [if_pos (by simp; omega)]
            rfl
          · refine ⟨Rw, its row, _, rfl, rfl, by rw [upd_ne (Ne.symm LR)]; exact hR9, ?_, ?_⟩
            · rw [its_len]
              have := Pp.pm.length_eq
              rw [List.length_append, List.length_range] at this
              exact Nat.lt_of_le_of_lt (m := 5) (by omega) (by decide)
            · exact ⟨_, left.eraseIdx r, row ++ [v], rfl, Pp.step LT RT LR ogr hv⟩
        · rintro σ H7 ⟨y7, left, row, rfl, Pp⟩
          have l0 : left = [] := List.eq_nil_of_length_eq_zero (by have := Pp.len; omega)
          subst l0
          have pm := Pp.pm
          rw [List.append_nil] at pm
          obtain ⟨naT', ps, hA, hpl, hps⟩ := tf5
          have aLR := keepF hA
          have hA7 := Pp.off _ _ naT aLR.1 aLR.2 (u2 _ _ hA)
          refine ⟨_, rfl, .inl ⟨rfl, _, .inl (.inl hA7)⟩, _, rfl, a, ps.map V.ref, .ref Rw, rfl, rfl, hA7, ?_, ?_⟩
          · rw [List.length_map, hpl, htl]
            exact Nat.lt_of_le_of_lt (m := 5) (by omega) (by decide)
          have og7 : Og Tl H H7 := ⟨fun b o hb e => by
            have e5 := og5.off b o hb e
            exact Pp.off _ _ hb (keepF e5).1 (keepF e5).2 (u2 _ _ e5), Pp.till⟩
          have naH : H a = none := og.free na
          have Ra : Rw ≠ a := Ne.symm aLR.2
          refine ⟨_, _, _, _, tb ++ [row], rfl, ⟨fun b o hb e => by rw [upd_ne (ne_of_none e naH)]; exact og7.off b o hb e, og7.till.set naT⟩, ⟨naT, ps ++ [Rw], by rw [upd_same, List.map_append]; rfl, by rw [List.length_append, List.length_append, hpl]; rfl, fun k p rw_ e1 e2 => ?_⟩, by rw [List.length_append, htl]; rfl, .inr ⟨n, n1', ns, fun r2 hr2 => ?_⟩⟩
          · by_cases hk : k < ps.length
            · rw [List.getElem?_append_left hk] at e1
              rw [List.getElem?_append_left (by omega)] at e2
              obtain ⟨b1, b2⟩ := hps k p rw_ e1 e2
              have hpa : p ≠ a := fun e => by
                rw [e, hA] at b1
                injection b1 with b1
                injection b1 with b1
                cases ps with
                | nil => cases e1
                | cons q qs =>
                  cases rw_ with
                  | nil => cases b1
                  | cons u us =>
                    injection b1 with b1
                    cases b1
              refine ⟨?_, b2⟩
              rw [upd_ne hpa]
              exact Pp.off _ _ b2 (keepF b1).1 (keepF b1).2 (u2 _ _ b1)
            · have hk2 : k = ps.length := by
                have := (List.getElem?_eq_some_iff.mp e1).1
                rw [List.length_append] at this
                simp at this
                omega
              subst hk2
              rw [List.getElem?_append_right (Nat.le_refl _), Nat.sub_self] at e1
              rw [hpl, List.getElem?_append_right (Nat.le_refl _), Nat.sub_self] at e2
              cases e1
              cases e2
              exact ⟨by rw [upd_ne Ra]; exact Pp.hr, RT⟩
          · rcases List.mem_append.mp hr2 with hr2 | hr2
            · exact hall r2 hr2
            · rw [List.mem_singleton.mp hr2]
              exact pm
    · rintro σ H2 ⟨y4, y5, y6, y7, tb, rfl, og3, tf, htl, hrows⟩
      rcases hrows with rfl | ⟨n, n1', ns, hr'⟩
      · cases htl
        exact absurd m1 (by decide)
      · exact ⟨_, rfl, q _ a tb n og3 naT tf.at_ (tok_of h6s ns htl hr') n1' (by omega) (mem_all h6s n1' ns htl hr')⟩
end
end G1
set_option Elab.async false
set_option linter.all false
set_option maxRecDepth 100000
set_option maxHeartbeats 4000000
/-! the law: words of a table -/
namespace G1
open PySem PySem.Spec PyProof.Rows _root_.L2
open PySem.W (Datum DatumOrd T3 T4 Tup)
/-- each place that a letter leads to is met -/
theorem all_met : (allTb.all fun tb => (metM tb).all fun x => (l4s.take tb.length).all fun c => decide (gos tb x.1 c ∈ (metM tb).map (·.1))) = true := by decide +kernel
def kvD (f : List (Nat × List Nat)) : List (Key × V) := f.map fun x => ((Sum.inl (x.1 : Int) : Key), V.str (tx x.2))
theorem kvD_val : ∀ (f : List (Nat × List Nat)) (h : Nat), h ∈ f.map (·.1) → valV (kvD f) (Sum.inl (h : Int)) = some (.str (tx (wdOf f h)))
  | [], h, z => nomatch z
  | x :: r, h, z => by
    unfold valV kvD wdOf
    rw [List.map_cons, List.find?_cons, List.find?_cons]
    by_cases e : x.1 = h
    · have e1 : decide ((Sum.inl (x.1 : Int) : Key) = Sum.inl (h : Int)) = true := decide_eq_true (by rw [e])
      have e2 : (x.1 == h) = true := beq_iff_eq.mpr e
      rw [e1, e2]
      rfl
    · have e1 : decide ((Sum.inl (x.1 : Int) : Key) = Sum.inl (h : Int)) = false := decide_eq_false fun q => e (by
        have := Sum.inl.inj q
        omega)
      have e2 : (x.1 == h) = false := beq_eq_false_iff_ne.mpr e
      rw [e1, e2]
      have z' : h ∈ r.map (·.1) := by
        rcases List.mem_cons.mp z with z | z
        · exact absurd z.symm e
        · exact z
      exact kvD_val r h z'
theorem putK_new (a : List (Nat × List Nat)) (x : Nat × List Nat) (h : x.1 ∉ a.map (·.1)) : putK (kvD a) (Sum.inl (x.1 : Int)) (.str (tx x.2)) = kvD (a ++ [x]) := by
  unfold putK
  rw [if_neg]
  · unfold kvD
    rw [List.map_append]
    rfl
  · intro e
    obtain ⟨kv, hkv, e2⟩ := List.any_eq_true.mp e
    unfold kvD at hkv
    obtain ⟨y, hy, rfl⟩ := List.mem_map.mp hkv
    have e3 : ((y.1 : Nat) : Int) = x.1 := Sum.inl.inj (of_decide_eq_true e2)
    exact h (List.mem_map.mpr ⟨y, hy, by omega⟩)
theorem merge_new : ∀ (b a : List (Nat × List Nat)), ((a ++ b).map (·.1)).Nodup → mergeK (kvD a) (kvD b) = kvD (a ++ b)
  | [], a, _ => by rw [List.append_nil]; rfl
  | x :: r, a, nd => by
    have h1 : x.1 ∉ a.map (·.1) := fun z => by
      rw [List.map_append, List.map_cons] at nd
      exact (List.nodup_append.mp nd).2.2 _ z _ List.mem_cons_self rfl
    have h2 := merge_new r (a ++ [x]) (by rw [List.append_assoc]; exact nd)
    rw [List.append_assoc] at h2
    refine Eq.trans ?_ h2
    show mergeK (putK (kvD a) (Sum.inl (x.1 : Int)) (.str (tx x.2))) (kvD r) = _
    rw [putK_new a x h1]
def rowR (tb : Tb) (x : Nat × List Nat) : List (List Nat) := (l4s.take tb.length).map fun c => strk (x.2 ++ [c] ++ und (wdOf (metM tb) (gos tb x.1 c)))
theorem ringM_eq (tb : Tb) : ringM tb = ((metM tb).flatMap (rowR tb)).filter fun x => x ≠ [] := rfl
theorem wdOf_mem : ∀ {f : List (Nat × List Nat)} {x : Nat × List Nat}, (f.map (·.1)).Nodup → x ∈ f → wdOf f x.1 = x.2
  | [], x, _, h => nomatch h
  | y :: r, x, nd, h => by
    unfold wdOf
    rw [List.find?_cons]
    rw [List.map_cons] at nd
    obtain ⟨n1, n2⟩ := List.nodup_cons.mp nd
    rcases List.mem_cons.mp h with rfl | h
    · rw [show (x.1 == x.1) = true from beq_self_eq_true _]
      rfl
    · have e : (y.1 == x.1) = false := beq_eq_false_iff_ne.mpr fun e => n1 (by rw [e]; exact List.mem_map.mpr ⟨x, h, rfl⟩)
      rw [e]
      exact wdOf_mem n2 h
theorem metM_mi {tb : Tb} {n : Nat} (ok : Tok tb n) (hn : 1 ≤ n) (hm : 1 ≤ tb.length) : MI tb n (metM tb) := by
  obtain ⟨r0, rs, rfl⟩ : ∃ r0 rs, tb = r0 :: rs := by
    cases tb with
    | nil => exact absurd hm (by decide)
    | cons x r => exact ⟨x, r, rfl⟩
  have e : metM (r0 :: rs) = (List.range n).foldl (stG (r0 :: rs)) [(0, [])] := by
    unfold metM
    rw [metGo_foldl]
    show List.foldl _ _ (List.range r0.length) = _
    rw [(ok.2.2 r0 List.mem_cons_self).1]
  rw [e]
  exact MI.go ok _ (MI.zero hn)
theorem wdOf_in {f : List (Nat × List Nat)} {h : Nat} (z : h ∈ f.map (·.1)) : ∃ x ∈ f, wdOf f h = x.2 := by
  unfold wdOf
  obtain ⟨x, hx, rfl⟩ := List.mem_map.mp z
  cases e : f.find? fun y => y.1 == x.1 with
  | none =>
    have := List.find?_eq_none.mp e x hx
    simp at this
  | some y => exact ⟨y, List.mem_of_find?_eq_some e, rfl⟩
theorem row_len (tb : Tb) (x : Nat × List Nat) : (rowR tb x).length ≤ 4 := by
  unfold rowR
  rw [List.length_map, List.length_take]
  have : l4s.length = 4 := rfl
  omega
theorem rows_len (tb : Tb) : ∀ l : List (Nat × List Nat), (l.flatMap (rowR tb)).length ≤ 4 * l.length
  | [] => Nat.le_refl _
  | x :: r => by
    have h1 := row_len tb x
    have h2 := rows_len tb r
    rw [List.flatMap_cons, List.length_append, List.length_cons]
    omega
theorem pair_of {K : PySem.W.Frag} {H : Hp} : ∀ {ps : List Addr} {f : List (Nat × List Nat)}, ps.length = f.length → (∀ (i : Nat) (q : Addr) (x : Nat × List Nat), ps[i]? = some q → f[i]? = some x → H q = some (.tup [.int (x.1 : Nat), .str (tx x.2)])) →
    PySem.Paired (fun p (kv : Key × V) => SqT K H p [kV kv.1, kv.2]) ps (kvD f)
  | [], [], _, _ => .nil
  | [], _ :: _, h, _ => nomatch h
  | _ :: _, [], h, _ => nomatch h
  | p :: ps, x :: f, h, hp => .cons (.inl (.inl (hp 0 p x rfl rfl))) (pair_of (Nat.succ.inj h) fun i q y e1 e2 => hp (i + 1) q y e1 e2)
section
variable {P : Program} {w : World} {K : PySem.W.Frag} {mg : Str → Option Value} {base : Heap} {CF CR CL : Addr}
def spRg : Sp := fun vs H Q _ => ∃ (a : Addr) (tb : Tb) (n : Nat), vs = [.ref a] ∧ TbAt H a tb ∧ Tok tb n ∧ 1 ≤ n ∧ 1 ≤ tb.length ∧ tb ∈ allTb ∧ ∀ H' p, Same H H' → H p = none → H' p = some (.lst (txs (ringM tb))) → Q (.ref p) H'
abbrev nRg : List Str := ["_law_table_here", "_law_met_here", "_law_found", "_law_here", "_law_sign", "_law_there", "_law_word"]
theorem scRg : FnScope nRg ["_law_table_here"] (defScope (top 62)) := ⟨rfl, rfl, rfl, by decide +kernel, rfl, by decide +kernel, by decide +kernel⟩
theorem c_ringed (T : Tx K mg CF CR CL) : Cal P w K mg base 3 "_law_ringed" spRg := by
  refine cal T.l_ringed scRg (fun vs H Q E h => ?_) (fun _ _ _ _ _ _ us hl => match us, hl with | [_], _ => rfl) fun f cdv A outer s H vs Q E hr h => ?_
  · obtain ⟨_, _, _, rfl, _⟩ := h; rfl
  · obtain ⟨a, tb, n, rfl, ha, ok, hn, hm, hin, q⟩ := h
    refine ⟨_, pss_cons (ps_par (i := 1) (j := 2) (by rfl) scRg.nd rfl rfl (by decide) rfl rfl (pa_cons (pe_callTy (call_dictP rfl) (by rfl) (T.nb "dict") boot_dict (pa_cons (pe_c (c_met T) hr (by decide) rfl (pa_cons (pv 0) pa_nil)) pa_nil)) (pa_cons (pe_lst pa_nil) pa_nil)) (by rfl))
      (pss_cons (ps_lock (ps_for PassesOwn.never rfl (pi_keys (pv 1)) (pg_name (i := 3) scRg.nd rfl (.inl rfl))
        (pss_one (ps_for PassesOwn.never rfl (pi_str (pe_slice sl_str pe_str po_none (po_some (pe_callB call_len_seq (by rfl) (T.nb "len") boot_len (pa_cons (pv 0) pa_nil))))) (pg_name (i := 4) scRg.nd rfl (.inl rfl))
          (pss_cons (ps_set (i := 5) scRg.nd rfl (.inl rfl) (pe_c (c_goes T) hr (by decide) rfl (pa_cons (pv 0) (pa_cons (pv 3) (pa_cons (pv 4) pa_nil)))))
          (pss_cons (ps_set (i := 6) scRg.nd rfl (.inl rfl) (pe_c (c_lstruck T) hr (by decide) rfl (pa_cons (pe_op op_add_str (pe_op op_add_str (pe_dget (hu_of hr) (pv 1) (pv 3) (fun _ _ => rfl)) (pv 4)) (pe_c (c_lundo T) hr (by decide) rfl (pa_cons (pe_dget (hu_of hr) (pv 1) (pv 5) (fun _ _ => rfl)) pa_nil))) pa_nil)))
          (pss_one (ps_if (pt_cmpR op_ne (pv 6) pe_str (nomark _)) (pss_one (ps_expr (pe_bm PySem.F.plainAttrs_list PySem.F.slot_list_append PySem.F.type_list_append mt_append (pv 2) (pa_cons (pv 6) pa_nil)))) pss_nil))))))))
      (pss_one (ps_ret (pv 2)))), ?_⟩
    have I := metM_mi ok hn hm
    obtain ⟨hn5, ht4, hrow⟩ := id ok
    obtain ⟨tps, hA, hlen, hps⟩ := id ha
    have tl : (tps.map V.ref).length = tb.length := by rw [List.length_map, hlen]
    obtain ⟨e4, _⟩ := cutm hm ht4
    refine ⟨_, rfl, a, tb, n, rfl, ha, ok, hn, hm, fun H1 p0 ps s1 np0 hp0 hpl hpx => ⟨p0, ps, kvD (metM tb), rfl, .inl (.inl hp0), pair_of hpl hpx, fun d nd => ⟨Nat.zero_le _, fun p np => ⟨_, _, rfl, ?_⟩⟩⟩⟩
    rw [show mergeK [] (kvD (metM tb)) = kvD (metM tb) from merge_new (metM tb) [] I.nd] at np ⊢
    have u1 := s1.trans (same_upd (o := .dK (kvD (metM tb))) nd)
    have u2 := u1.trans (same_upd (o := .lst []) np)
    have ndH : H d = none := s1.free nd
    have npH : H p = none := u1.free np
    have hd2 := same_upd (o := .lst []) np _ _ (upd_same (H := H1) (a := d) (o := .dK (kvD (metM tb))))
    have hp2 := upd_same (H := upd H1 d (.dK (kvD (metM tb)))) (a := p) (o := .lst [])
    generalize upd (upd H1 d (.dK (kvD (metM tb)))) p (.lst []) = H2 at u2 hd2 hp2 ⊢
    have pd : p ≠ d := fun e => by rw [e, hd2] at hp2; cases hp2
    refine ⟨d, _, hd2, trivial, fun od => ?_⟩
    refine ⟨_, rfl, d, od, rfl, .inl ⟨_, upd_same, for_it (walk_keys (kvs := kvD (metM tb))) (fun i σ H' => ∃ y3 y4 y5 y6, σ = [some (.ref a), some (.ref d), some (.ref p), y3, y4, y5, y6] ∧ Same H H' ∧ H' d = some (.frz od (.dK (kvD (metM tb)))) ∧ H' p = some (.lst (txs ((((metM tb).take i).flatMap (rowR tb)).filter fun x => x ≠ []))))
      ⟨none, none, none, none, rfl, u2.set ndH, upd_same, by rw [upd_ne pd]; exact hp2⟩ (fun i σ H' _ hp => ?_) ?_ ?_⟩⟩
    · obtain ⟨_, _, _, _, _, _, h, _⟩ := hp
      exact h
    · rintro i x σ H3 H4 hi ⟨y3, y4, y5, y6, rfl, sm, hd, hp⟩ ⟨rfl, k, v, hkv, rfl⟩
      obtain ⟨x0, hx0, e0⟩ : ∃ x0, (metM tb)[i]? = some x0 ∧ ((Sum.inl (x0.1 : Int) : Key), V.str (tx x0.2)) = (k, v) := by
        unfold kvD at hkv
        rw [List.getElem?_map] at hkv
        obtain ⟨x0, h1, h2⟩ := Option.map_eq_some_iff.mp hkv
        exact ⟨x0, h1, h2⟩
      cases e0
      have x0m := List.mem_of_getElem? hx0
      have x0n := I.lt _ x0m
      have x0w := I.lw _ x0m
      have f5 := I.len
      refine ⟨_, rfl, a, tps.map V.ref, rfl, .inl (.inl (.inl (sm _ _ hA))), ((tps.map V.ref).length : Int), rfl, "abcd", rfl, by decide +kernel, cutS "abcd" none (some ((tps.map V.ref).length : Int)), rfl, ?_⟩
      rw [tl, e4]
      refine for_it (walk_str (z := tx (l4s.take tb.length))) (fun j σ H' => ∃ y4 y5 y6, σ = [some (.ref a), some (.ref d), some (.ref p), some (.int (x0.1 : Nat)), y4, y5, y6] ∧ Same H H' ∧ H' d = some (.frz od (.dK (kvD (metM tb)))) ∧ H' p = some (.lst (txs ((((metM tb).take i).flatMap (rowR tb) ++ (rowR tb x0).take j).filter fun x => x ≠ []))))
        ⟨y4, y5, y6, rfl, sm, hd, by rw [List.take_zero, List.append_nil]; exact hp⟩ (fun _ _ _ _ _ => trivial) ?_ ?_
      · rintro j x σ H5 H6 hj ⟨y4, y5, y6, rfl, sm2, hd2, hp2⟩ ⟨rfl, c, hc, rfl⟩
        have hc' : (l4s.take tb.length)[j]? = some c := by simpa [tx] using hc
        have cm := List.mem_of_getElem? hc'
        have c4 := List.mem_of_mem_take cm
        have cl : c ∈ ltrs := by
          have key : ∀ c ∈ l4s, c ∈ ltrs := by decide
          exact key c c4
        have ltc : Lt c := (show W4 [c] from fun x hx => by rw [List.mem_singleton.mp hx]; exact cl).lw c List.mem_cons_self
        have slc : slow c - 97 < tb.length := by
          have key : ∀ m, m ≤ 4 → ∀ c ∈ l4s.take m, slow c - 97 < m := by decide
          exact key _ ht4 c cm
        have gin : gos tb x0.1 c ∈ (metM tb).map (·.1) := by
          have h1 := List.all_eq_true.mp all_met tb hin
          have h2 := List.all_eq_true.mp h1 x0 x0m
          exact of_decide_eq_true (List.all_eq_true.mp h2 c cm)
        obtain ⟨y0, y0m, ey⟩ := wdOf_in gin
        have y0w := I.lw _ y0m
        have lwx : ∀ x ∈ metM tb, LW x.2 := fun x hx => (show W4 x.2 from fun c hc => List.mem_of_mem_take ((I.lw x hx).1 c hc)).lw
        have u5 : x0.2.length < 5 := Nat.lt_of_lt_of_le x0w.2 (by omega)
        have v5 : (wdOf (metM tb) (gos tb x0.1 c)).length < 5 := by rw [ey]; exact Nat.lt_of_lt_of_le y0w.2 (by omega)
        have lwv : LW (wdOf (metM tb) (gos tb x0.1 c)) := by rw [ey]; exact lwx _ y0m
        have ex0 : wdOf (metM tb) x0.1 = x0.2 := wdOf_mem I.nd x0m
        have dg1 : DGet H6 d (.int (x0.1 : Nat)) (some (.str (tx x0.2))) := .inl ⟨kvD (metM tb), .inl (x0.1 : Int), .inr ⟨od, hd2⟩, rfl, by rw [kvD_val _ _ (List.mem_map.mpr ⟨x0, x0m, rfl⟩), ex0]⟩
        have dg2 : DGet H6 d (.int (gos tb x0.1 c : Nat)) (some (.str (tx (wdOf (metM tb) (gos tb x0.1 c))))) := .inl ⟨kvD (metM tb), .inl (gos tb x0.1 c : Int), .inr ⟨od, hd2⟩, rfl, by rw [kvD_val _ _ gin]⟩
        have et1 : tx x0.2 ++ (⟨#[c]⟩ : Str) = tx (x0.2 ++ [c]) := tx_app x0.2 [c]
        have rj : (rowR tb x0)[j]? = some (strk (x0.2 ++ [c] ++ und (wdOf (metM tb) (gos tb x0.1 c)))) := by
          unfold rowR
          rw [List.getElem?_map, hc']
          rfl
        have LWw : LW (x0.2 ++ [c] ++ und (wdOf (metM tb) (gos tb x0.1 c))) := fun b hb => by
          rcases List.mem_append.mp hb with hb | hb
          · rcases List.mem_append.mp hb with hb | hb
            · exact lwx _ x0m b hb
            · rw [List.mem_singleton.mp hb]; exact ltc
          · exact lw_und lwv b hb
        refine ⟨_, rfl, _, rfl, _, rfl, a, tb, n, x0.1, c, rfl, ha.same sm2, ok, x0n, ltc, slc, ?_⟩
        refine ⟨_, rfl, _, rfl, d, _, rfl, dg1, _, rfl, tx x0.2, ⟨#[c]⟩, rfl, rfl, ?_, _, rfl, _, rfl, d, _, rfl, dg2, _, rfl, lwv, by omega, fun H7 s7 => ?_⟩
        · show (tx x0.2).length + 1 ≤ _
          rw [tx_len]
          exact Nat.le_trans (m := 11) (by omega) (by decide)
        refine ⟨_, _, rfl, rfl, ?_, x0.2 ++ [c] ++ und (wdOf (metM tb) (gos tb x0.1 c)), congrArg (fun z => [V.str z]) (by rw [et1, tx_app]), LWw, ?_, ?_⟩
        · rw [et1, tx_len, tx_len, und_len, List.length_append]
          exact Nat.le_trans (m := 11) (by have : [c].length = 1 := rfl; omega) (by decide)
        · rw [List.length_append, List.length_append, und_len]
          have : [c].length = 1 := rfl
          omega
        refine ⟨_, rfl, rfl, _, rfl, ?_⟩
        have nx : ∀ l : List (List Nat), l ++ (rowR tb x0).take (j + 1) = (l ++ (rowR tb x0).take j) ++ [strk (x0.2 ++ [c] ++ und (wdOf (metM tb) (gos tb x0.1 c)))] := fun l => by
          rw [List.take_add_one, rj, ← List.append_assoc]
          rfl
        generalize strk (x0.2 ++ [c] ++ und (wdOf (metM tb) (gos tb x0.1 c))) = sw_ at nx ⊢
        have S7 := sm2.trans s7
        refine ite2 (fun hb => ?_) (fun hb => ?_)
        · have hne : sw_ ≠ [] := fun e => by
            rw [e] at hb
            exact absurd hb (by decide +kernel)
          have hp7 := s7 _ _ hp2
          refine ⟨_, rfl, .inl ⟨rfl, _, .inl (.inl hp7)⟩, _, rfl, p, _, _, rfl, rfl, hp7, ?_, ?_⟩
          · rw [txs_len]
            refine Nat.lt_of_le_of_lt (m := 100) ?_ (by decide)
            refine Nat.le_trans (List.length_filter_le _ _) ?_
            rw [List.length_append]
            have h1 := rows_len tb ((metM tb).take i)
            have h2 := row_len tb x0
            have h3 : ((metM tb).take i).length ≤ (metM tb).length := List.length_take_le' _ _
            have h4 : ((rowR tb x0).take j).length ≤ (rowR tb x0).length := List.length_take_le' _ _
            omega
          · refine ⟨_, _, _, rfl, S7.set npH, by rw [upd_ne (Ne.symm pd)]; exact s7 _ _ hd2, ?_⟩
            have e9 : ∀ l : List (List Nat), (l ++ [sw_]).filter (fun x => decide (x ≠ [])) = l.filter (fun x => decide (x ≠ [])) ++ [sw_] := fun l => by
              rw [List.filter_append, List.filter_cons_of_pos (by exact decide_eq_true hne)]
              rfl
            rw [upd_same, nx, e9]
            unfold txs
            rw [List.map_append]
            rfl
        · have hne : sw_ = [] := Classical.byContradiction fun e => hb (by
            show (!decide (V.str (tx sw_) = V.str "")) = true
            rw [decide_eq_false]
            · rfl
            · intro z
              injection z with z
              have := congrArg Str.length z
              rw [tx_len] at this
              exact e (List.eq_nil_of_length_eq_zero this))
          refine ⟨_, _, _, rfl, S7, s7 _ _ hd2, ?_⟩
          rw [nx, List.filter_append, hne]
          have e9 : [([] : List Nat)].filter (fun x => decide (x ≠ [])) = [] := rfl
          rw [e9, List.append_nil]
          exact s7 _ _ hp2
      · rintro σ H5 ⟨y4, y5, y6, rfl, sm2, hd2, hp2⟩
        refine ⟨_, _, _, _, rfl, sm2, hd2, ?_⟩
        have e5 : (rowR tb x0).take (tx (l4s.take tb.length)).cps.size = rowR tb x0 := List.take_of_length_le (by unfold rowR; rw [List.length_map]; exact Nat.le_refl _)
        have e6 : (some x0).toList.flatMap (rowR tb) = rowR tb x0 := by
          show rowR tb x0 ++ [] = _
          rw [List.append_nil]
        rw [hp2, e5, List.take_add_one, hx0, List.flatMap_append, e6]
    · rintro σ H3 ⟨y3, y4, y5, y6, rfl, sm, hd, hp⟩
      rw [List.take_of_length_le (by unfold kvD; rw [List.length_map]; exact Nat.le_refl _)] at hp
      refine ⟨hd, _, rfl, q _ p (sm.set ndH) npH ?_⟩
      rw [upd_ne pd, hp, ringM_eq]
end
end G1
set_option Elab.async false
set_option linter.all false
set_option maxRecDepth 100000
set_option maxHeartbeats 4000000
/-! the law: words -/
namespace G1
open PySem PySem.Spec PyProof.Rows _root_.L2
open PySem.W (Datum DatumOrd T3 T4 Tup)
section
variable {P : Program} {w : World} {K : PySem.W.Frag} {mg : Str → Option Value} {base : Heap} {CF CR CL : Addr}
abbrev nWo : List Str := ["_law_till_here", "_law_table_here", "_law_words_here", "_law_many", "_law_turn"]
theorem scWo : FnScope nWo ["_law_till_here"] (defScope (top 63)) := ⟨rfl, rfl, rfl, by decide +kernel, rfl, by decide +kernel, by decide +kernel⟩
theorem c_lwords (T : Tx K mg CF CR CL) : Cal P w K mg base 8 "_law_words" spWo := by
  refine cal T.l_words scWo (fun vs H Q E h => ?_) (fun _ _ _ _ _ _ us hl => match us, hl with | [_], _ => rfl) fun f cdv A outer s H vs Q E hr h => ?_
  · obtain ⟨_, rfl, _⟩ := h; rfl
  · obtain ⟨Tl, rfl, hT, q⟩ := h
    refine ⟨_, pss_cons (ps_if (pt_cmpR op_eq (pe_c (c_pay T) hr (by decide) rfl (pa_cons (pv 0) (pa_cons pe_int pa_nil))) pe_int (nomark _))
        (pss_cons (ps_set (i := 1) scWo.nd rfl (.inl rfl) (pe_c (c_table T) hr (by decide) rfl (pa_cons (pv 0) pa_nil)))
        (pss_cons (ps_set (i := 2) scWo.nd rfl (.inl rfl) (pe_c (c_ringed T) hr (by decide) rfl (pa_cons (pv 1) pa_nil)))
        (pss_one (ps_ret (pe_tup (pa_cons (pe_callB call_len_seq (by rfl) (T.nb "len") boot_len (pa_cons (pv 1) pa_nil)) (pa_cons (pe_ifExp (pt_cmpR (op_neT (List Str) hr.units) (pv 2) (pe_lst pa_nil) (nomark _)) (pv 2) (pe_lst (pa_cons pe_str pa_nil))) pa_nil))))))) pss_nil)
      (pss_cons (ps_set (i := 3) scWo.nd rfl (.inr rfl) (pe_c (c_coin T) hr (by decide) rfl (pa_cons (pv 0) (pa_cons (pe_lst (pa_cons pe_int (pa_cons pe_int (pa_cons pe_int (pa_cons pe_int (pa_cons pe_int pa_nil)))))) pa_nil))))
      (pss_cons (ps_setLc (i := 2) (own := [("_law_turn", 4)]) (g := gName 4) (tt := tYes) (te := tCall spDr [] E0 (tCons (tVar 0) (tCons (tVar 3) (tCons (tC (.int 4)) tNil)))) rfl scWo.nd rfl rfl (sw_true rfl rfl rfl (by decide +kernel)) (pi_range1 rfl (T.nb "range") (pa_cons (pe_op op_add pe_int (pe_c (c_pay T) hr (by decide) rfl (pa_cons (pv 0) (pa_cons pe_int pa_nil)))) pa_nil)) (blkOk_by (N := nWo) (sc := defScope (top 63)) (by decide +kernel))
        (fun _ _ _ _ _ => pg_name (i := 4) scWo.nd rfl (.inl rfl)) (fun _ _ _ _ _ => pts_nil) (fun _ _ _ _ _ => pe_c (c_drawn T) hr (by decide) rfl (pa_cons (pv 0) (pa_cons (pv 3) (pa_cons pe_int pa_nil)))))
      (pss_cons (ps_if (pt_cmpR op_eq (pe_c (c_pay T) hr (by decide) rfl (pa_cons (pv 0) (pa_cons pe_int pa_nil))) pe_int (nomark _))
        (pss_one (ps_expr (pe_bm PySem.F.plainAttrs_list PySem.F.slot_list_append PySem.F.type_list_append mt_append (pv 2) (pa_cons (pe_c (c_lstruck T) hr (by decide) rfl (pa_cons (pe_op op_add_str (pe_c (c_coin T) hr (by decide) rfl (pa_cons (pv 0) (pa_cons (pv 2) pa_nil))) (pe_c (c_lundo T) hr (by decide) rfl (pa_cons (pe_c (c_coin T) hr (by decide) rfl (pa_cons (pv 0) (pa_cons (pv 2) pa_nil))) pa_nil))) pa_nil)) pa_nil)))) pss_nil)
      (pss_one (ps_ret (pe_tup (pa_cons (pv 3) (pa_cons (pv 2) pa_nil)))))))), ?_⟩
    have nT : ∀ {H' : Hp} {p : Addr}, Og Tl H H' → H' p = none → p ≠ Tl := fun o n e => by
      obtain ⟨xs, h⟩ := o.till.lst
      rw [e, h] at n
      cases n
    refine ⟨_, rfl, Tl, 3, rfl, hT, by decide, by decide, fun H1 r1 og1 hr1 => ⟨rfl, _, rfl, ?_⟩⟩
    refine ite2 (fun hb => ?_) (fun hb => ?_)
    · refine ⟨_, rfl, Tl, rfl, og1.till, fun H2 a tb n og2 naT ha ok n1 m1 hin => ?_⟩
      have oga := og1.trans og2
      refine ⟨_, rfl, a, tb, n, rfl, ha, ok, n1, m1, hin, fun H3 p s3 np hp => ?_⟩
      have ogb := oga.same s3
      have pT : p ≠ Tl := nT oga np
      obtain ⟨tps, hA, hlen, _⟩ := ha.same s3
      have tl : (tps.map V.ref).length = tb.length := by rw [List.length_map, hlen]
      have B : Bas (tps.map V.ref).length (lotM tb) := by
        rw [tl]
        exact okR.bas m1 ok.2.1 (List.all_eq_true.mp all_ok tb hin)
      refine ⟨_, rfl, tps.map V.ref |> fun _ => a, tps.map V.ref, rfl, .inl (.inl (.inl hA)), _, rfl, Nat.zero_le _, fun pe npe => ?_⟩
      have s4 := same_upd (o := .lst []) npe
      have hp4 := s4 _ _ hp
      have key : ∀ l : List (List Nat), DpAll K (upd H3 pe (.lst [])) (txs l) ((l.map tx).map Datum.toD) := by
        intro l
        induction l with
        | nil => exact .nil
        | cons c r ih => exact .cons (.str _) ih
      refine ⟨(ringM tb).map tx, [], .lst (.inl (.inl hp4)) (key _), .lst (.inl (.inl upd_same)) .nil, _, rfl, ?_⟩
      refine ite2 (fun hb => ?_) (fun hb => ?_)
      · have hne : ringM tb ≠ [] := fun e => of_decide_eq_true hb (by rw [e]; rfl)
        have el : lotM tb = ringM tb := if_neg hne
        rw [el] at B
        refine ⟨_, rfl, ln2 _ _, fun pt npt => q _ pt p _ (ringM tb) ((ogb.same s4).same (same_upd npt)) pT upd_same (same_upd npt _ _ hp4) B⟩
      · have he : ringM tb = [] := Classical.byContradiction fun e => hb (decide_eq_true (fun z => e (List.map_eq_nil_iff.mp z)))
        have el : lotM tb = [[97]] := if_pos he
        rw [el] at B
        refine ⟨ln1 _, fun pl npl => ⟨ln2 _ _, fun pt npt => q _ pt pl _ [[97]] (((ogb.same s4).same (same_upd npl)).same (same_upd npt)) (nT (ogb.same s4) npl) upd_same (same_upd npt _ _ upd_same) B⟩⟩
    · refine ⟨_, rfl, (by show 5 ≤ sizeLine; decide), fun lc nlc => ?_⟩
      have ogc := og1.same (same_upd (o := .lst [.int 2, .int 2, .int 2, .int 1, .int 3]) nlc)
      refine ⟨Tl, .ref lc, rfl, ogc.till, .inr ⟨lc, _, rfl, nT og1 nlc, upd_same, (by show 1 ≤ 5; decide), (by show 5 ≤ 1000; decide), fun H2 i x og2 hx => ?_⟩⟩
      obtain ⟨m, rfl, m1, m4⟩ : ∃ m : Nat, x = .int m ∧ 1 ≤ m ∧ m ≤ 4 := by
        match i, hx with
        | 0, e => cases e; exact ⟨2, rfl, by decide, by decide⟩
        | 1, e => cases e; exact ⟨2, rfl, by decide, by decide⟩
        | 2, e => cases e; exact ⟨2, rfl, by decide, by decide⟩
        | 3, e => cases e; exact ⟨1, rfl, by decide, by decide⟩
        | 4, e => cases e; exact ⟨3, rfl, by decide, by decide⟩
        | k + 5, e => cases e
      have og := ogc.trans og2
      refine ⟨_, rfl, Tl, 3, rfl, og.till, by decide, by decide, fun H4 r og4 hr4 => ⟨_, _, rfl, rfl, ((1 + r : Nat) : Int), by rw [Int.natCast_add]; rfl, ?_, ?_, fun D nD => ?_⟩⟩
      · show -(2 ^ 62 : Int) ≤ ((1 + r : Nat) : Int)
        omega
      · show ((1 + r : Nat) : Int) < 2 ^ 62
        omega
      have ogD := og.trans og4
      refine lc_it (walk_range (lo := 0) (n := 1 + r)) (fun i H' => Og Tl H H' ∧ ∃ ds, H' D = some (.lst (txs ds)) ∧ ds.length = i ∧ ∀ d ∈ ds, Drw m 4 d) ⟨ogD.same (same_upd nD), [], upd_same, rfl, fun p h => (nomatch h)⟩ (fun _ _ _ _ => trivial) ?_ ?_
      · rintro i x H0 H5 hi ⟨og5, ds, hD, hld, hds⟩ ⟨rfl, rfl⟩
        refine ⟨rfl, yesT ?_⟩
        refine ⟨_, rfl, _, rfl, Tl, m, 4, rfl, og5.till, m1, m4, by decide, fun H6 d og6 hd => ⟨_, og6.off _ _ (nT ogD nD) hD, ?_, (og5.trans og6).set (ogD.free nD) (nT ogD nD), ds ++ [d], ?_, ?_, ?_⟩⟩
        · rw [txs_len]
          exact Nat.lt_of_le_of_lt (m := 5) (by omega) (by decide)
        · rw [upd_same]
          unfold txs
          rw [List.map_append]
          rfl
        · rw [List.length_append, hld]; rfl
        · intro p hpm
          rcases List.mem_append.mp hpm with hpm | hpm
          · exact hds p hpm
          · rw [List.mem_singleton.mp hpm]
            exact hd
      · rintro H5 ⟨og5, ds, hD, hld, hds⟩
        have DT := nT ogD nD
        have wrs : ∀ d ∈ ds, Wr m 4 d := fun d hd => (hds d hd).wr m4
        refine ⟨_, rfl, Tl, 3, rfl, og5.till, by decide, by decide, fun H6 r6 og6 hr6 => ⟨rfl, _, rfl, ?_⟩⟩
        have hD6 := og6.off _ _ DT hD
        refine ite2 (fun h4 => ?_) (fun h4 => ?_)
        · refine ⟨_, rfl, .inl ⟨rfl, _, .inl (.inl hD6)⟩, _, rfl, _, rfl, Tl, .ref D, rfl, og6.till, .inr ⟨D, txs ds, rfl, DT, hD6, by rw [txs_len]; omega, by rw [txs_len]; omega, fun H7 i7 x7 og7 hx7 => ?_⟩⟩
          obtain ⟨w7, hw7, rfl⟩ := txs_at hx7
          have hD7 := og7.off _ _ DT hD6
          refine ⟨_, rfl, _, rfl, Tl, .ref D, rfl, og7.till, .inr ⟨D, txs ds, rfl, DT, hD7, by rw [txs_len]; omega, by rw [txs_len]; omega, fun H8 i8 x8 og8 hx8 => ?_⟩⟩
          obtain ⟨w8, hw8, rfl⟩ := txs_at hx8
          have W7 := wrs w7 (List.mem_of_getElem? hw7)
          have W8 := wrs w8 (List.mem_of_getElem? hw8)
          have len7 := W7.len
          have len8 := W8.len
          refine ⟨w8, rfl, W8.lw m4, by omega, fun H9 s9 => ⟨tx w7, tx (und w8), rfl, rfl, ?_, w7 ++ und w8, congrArg (fun z => [V.str z]) (tx_app _ _), ?_, ?_, ?_⟩⟩
          · rw [tx_len, tx_len, und_len]
            exact Nat.le_trans (m := 8) (by omega) (by decide)
          · intro b hb
            rcases List.mem_append.mp hb with hb | hb
            · exact W7.lw m4 b hb
            · exact lw_und (W8.lw m4) b hb
          · rw [List.length_append, und_len]
            omega
          have og9 := (((og5.trans og6).trans og7).trans og8).same s9
          have hD9 := s9 _ _ (og8.off _ _ DT hD7)
          have Wp : Wr m 8 (strk (w7 ++ und w8)) := wr_strk m4 (fun c hc => (List.mem_append.mp hc).elim (W7.let_ c) (und_sub m4 W8.let_ c)) (by
            have := strk_le (w7 ++ und w8)
            rw [List.length_append, und_len] at this
            omega)
          refine ⟨D, txs ds, _, rfl, rfl, hD9, ?_, ?_⟩
          · rw [txs_len]
            exact Nat.lt_of_le_of_lt (m := 5) (by omega) (by decide)
          refine ⟨_, rfl, _, rfl, ln2 _ _, fun pt npt => ?_⟩
          refine q _ pt D m (ds ++ [strk (w7 ++ und w8)]) ((og9.set (ogD.free nD) DT).same (same_upd npt)) DT upd_same (same_upd npt _ _ (upd_same.trans ?_)) ((Nlt.prod wrs (by omega) (by omega) Wp).bas m1 m4)
          unfold txs
          rw [List.map_append]
          rfl
        · refine ⟨_, rfl, _, rfl, ln2 _ _, fun pt npt => ?_⟩
          exact q _ pt D m ds ((og5.trans og6).same (same_upd npt)) DT upd_same (same_upd npt _ _ hD6) ((Nlt.plain wrs (by omega) (by omega)).bas m1 m4)
end
end G1
set_option Elab.async false
set_option linter.all false
set_option maxRecDepth 100000
set_option maxHeartbeats 4000000
/-! a set of tuples of ints and texts: its search and its growth -/
namespace G1
open PySem PySem.Spec PyProof.Rows L2
abbrev Row3 := Addr × List Key
abbrev At3 (P : Program) (w : World) (h : Heap) (k : List Key) (b : Addr) : Prop := IsTupleKey (mixKind P w) h k b
abbrev ha3 (P : Program) (w : World) (k : List Key) : Int := tupleKeyHash (mixKind P w) k
def en3 (P : Program) (w : World) (p : Row3) : Int × Value := (ha3 P w p.2, Value.ref p.1)
section
variable {P : Program} {w : World} {A : Around} {E : Value → Shared → Prop} {s : Shared}
/-! tuples of ints and texts show nothing -/
def Plain3 (v : Value) : Prop := (∃ i t, v = .int i t) ∨ ∃ x t, v = .str x t
theorem plain3 {k : List Key} {vs : List Value} (h : ItemsAre (mixKind P w) k vs) : ∀ v ∈ vs, Plain3 v := by
  induction h with
  | nil => exact fun v z => nomatch z
  | cons h1 _ ih =>
    intro v z
    rcases List.mem_cons.mp z with rfl | z
    · rcases keyIs_shape h1 with ⟨i, t, _, e⟩ | ⟨x, t, _, e⟩
      · exact .inl ⟨i, t, e⟩
      · exact .inr ⟨x, t, e⟩
    · exact ih v z
theorem cls3 (n : Nat) {v : Value} (h : Plain3 v) : ofAClassStatement n v = pure false := by
  rcases h with ⟨i, t, rfl⟩ | ⟨x, t, rfl⟩ <;> cases n <;> rfl
theorem byv3 (n : Nat) {v : Value} (h : Plain3 v) : hashByValue n v = pure true ∨ hashByValue n v = pure false := by
  rcases h with ⟨i, t, rfl⟩ | ⟨x, t, rfl⟩
  · exact .inl (by cases n <;> rfl)
  · exact .inr (by cases n <;> rfl)
theorem cls3t {k : List Key} {b : Addr} {Q : Bool → Shared → Prop} (hk : At3 P w s.heap k b) (h : Q false s) : wpAny (model P w) A (ofAClassStatement 8 (.ref b)) Q E s := by
  have hT := hk.typeIs
  obtain ⟨o, its, n, ho, _, hd, hi⟩ := hk
  unfold ofAClassStatement
  refine wpAny_bind (wpAny_typeOf hT ?_)
  dsimp only
  simp only [show (("tuple" : String) == "tuple") = true from by decide, if_true, Bool.not_true, Bool.false_eq_true, if_false]
  try refine wpAny_bind (wpAny_pure ?_)
  try simp only [Bool.not_true, Bool.false_eq_true, if_false]
  show wpAny _ _ (seqItems? (.ref b) >>= _) _ _ s
  refine wpAny_bind (wpAny_seqItems ho hd ?_)
  dsimp only
  refine wpAny_bind (show wpAny _ _ (forIn its _ _) _ _ s from ?_)
  rw [← Array.forIn_toList]
  refine wpAny_forIn_list _ (fun left r t => (r.1 = none ∧ t = s) ∧ ∀ v ∈ left, Plain3 v) _ (fun v left r t ⟨⟨hr, ht⟩, al⟩ => ?_) (fun r t ⟨⟨hr, ht⟩, _⟩ => ?_) _ _ ⟨⟨rfl, rfl⟩, plain3 hi⟩
  · rw [cls3 _ (al v List.mem_cons_self)]
    refine wpAny_bind (wpAny_pure ?_)
    simp only [Bool.false_eq_true, if_false]
    exact wpAny_pure ⟨⟨rfl, ht⟩, fun u hu => al u (List.mem_cons_of_mem _ hu)⟩
  · obtain ⟨r1, r2⟩ := r
    cases hr
    subst ht
    exact wpAny_pure h
theorem byv3t {k : List Key} {b : Addr} {Q : Bool → Shared → Prop} (hk : At3 P w s.heap k b) (h : ∀ z, Q z s) : wpAny (model P w) A (hashByValue 8 (.ref b)) Q E s := by
  have hT := hk.typeIs
  obtain ⟨o, its, n, ho, _, hd, hi⟩ := hk
  unfold hashByValue
  refine wpAny_bind (wpAny_specialOf hT F.slot_tuple_hash.lookup ?_)
  show wpAny _ _ (seqItems? (.ref b) >>= _) _ _ s
  refine wpAny_bind (wpAny_seqItems ho hd ?_)
  refine wpAny_bind (show wpAny _ _ (forIn its _ _) _ _ s from ?_)
  rw [← Array.forIn_toList]
  refine wpAny_forIn_list _ (fun left r t => (r.1 = none ∧ t = s) ∧ ∀ v ∈ left, Plain3 v) _ (fun v left r t ⟨⟨hr, ht⟩, al⟩ => ?_) (fun r t ⟨⟨hr, ht⟩, _⟩ => ?_) _ _ ⟨⟨rfl, rfl⟩, plain3 hi⟩
  · rcases byv3 _ (al v List.mem_cons_self) with e | e
    · rw [e]
      refine wpAny_bind (wpAny_pure ?_)
      simp only [Bool.not_true, Bool.false_eq_true, if_false]
      exact wpAny_pure ⟨⟨rfl, ht⟩, fun u hu => al u (List.mem_cons_of_mem _ hu)⟩
    · rw [e]
      refine wpAny_bind (wpAny_pure ?_)
      simp only [Bool.not_false, if_true]
      subst ht
      exact wpAny_pure (wpAny_pure (h false))
  · obtain ⟨r1, r2⟩ := r
    cases hr
    subst ht
    exact wpAny_pure (h true)
theorem seen3 {k : List Key} {b : Addr} {Q : Bool → Shared → Prop} (hk : At3 P w s.heap k b) {ys : List Value} (hy : ∀ y ∈ ys, ∃ k' c, y = Value.ref c ∧ At3 P w s.heap k' c) (h : Q false s) :
    wpAny (model P w) A (searchCouldBeSeen (.ref b) ys) Q E s := by
  unfold searchCouldBeSeen
  refine wpAny_bind ?_
  refine wpAny_forIn_list _ (fun left r t => (r.1 = none ∧ t = s) ∧ ∀ y ∈ left, ∃ k' c, y = Value.ref c ∧ At3 P w s.heap k' c) _ (fun v left r t ⟨⟨hr, ht⟩, al⟩ => ?_) (fun r t ⟨⟨hr, ht⟩, _⟩ => ?_) _ _ ⟨⟨rfl, rfl⟩, hy⟩
  · subst ht
    obtain ⟨k', c, rfl, hc⟩ := al v List.mem_cons_self
    have al' := fun u (hu : u ∈ left) => al u (List.mem_cons_of_mem _ hu)
    dsimp only
    by_cases hv : (b == c || (carriedByValue (.ref b) && carriedByValue (.ref c))) = true
    · exact wp_if_pos hv (wpAny_pure ⟨⟨rfl, rfl⟩, al'⟩)
    · refine wp_if_neg hv (wpAny_bind (wpAny_eqIsQuiet_tuple hk ?_))
      simp only [Bool.not_true, Bool.false_eq_true, if_false]
      refine wpAny_bind (wpAny_eqIsQuiet_tuple hc ?_)
      simp only [Bool.not_true, Bool.false_eq_true, if_false]
      refine wpAny_bind (cls3t hk ?_)
      simp only [Bool.false_eq_true, if_false]
      refine wpAny_bind (cls3t hc ?_)
      simp only [Bool.false_eq_true, if_false]
      exact wpAny_pure ⟨⟨rfl, rfl⟩, al'⟩
  · obtain ⟨r1, r2⟩ := r
    cases hr
    subst ht
    exact wpAny_pure h
/-- the set at a, its table in good order -/
structure Set3 (P : Program) (w : World) (h : Heap) (a : Addr) (L : List Row3) (es : Array (Int × Value)) (ep : Nat) (t : SetTable) : Prop where
  ob : ∃ o, h.get? a = some o ∧ o.ExactSet ∧ o.data = .set es ep t
  rw : es.toList = L.map (en3 P w)
  tb : TabOk t (L.map fun p => ha3 P w p.2)
  ks : ∀ p ∈ L, At3 P w h p.2 p.1
  ld : w.params.followText "set-order" = true ∨ t.led = true
  rm : L.length * 5 < t.mask * 3
variable {a : Addr} {L : List Row3} {es : Array (Int × Value)} {ep : Nat} {t : SetTable}
theorem len3 (h : es.toList = L.map (en3 P w)) : es.size = L.length := by
  rw [← Array.length_toList, h, List.length_map]
theorem fits3 (z : es.size = L.length) (T : t.place.size = es.size) (d : t.dummies = #[]) (m : L.length ≤ t.mask) : t.fits es.size = true := by
  unfold SetTable.fits SetTable.fill
  rw [d, T, z]
  simp
  exact m
theorem Set3.fits (R : Set3 P w s.heap a L es ep t) : t.fits es.size = true := by
  have h1 := R.tb.sz
  rw [List.length_map] at h1
  have h3 := R.rm
  exact fits3 (len3 R.rw) (by rw [h1, len3 R.rw]) R.tb.dm (by omega)
theorem Set3.at (R : Set3 P w s.heap a L es ep t) {i : Nat} {p : Row3} (h : L[i]? = some p) : es[i]? = some (en3 P w p) := by
  rw [← Array.getElem?_toList, R.rw, List.getElem?_map, h]
  rfl
theorem Set3.gw (R : Set3 P w s.heap a L es ep t) : ¬ t.gaveWay = true := by
  unfold SetTable.gaveWay
  rw [mask_odd R.tb.mok]
  decide
theorem no_dummy (m : Nat) : ∀ (n : Nat) (p : SetTable.Probe), p.dummy = none → (nth m p n).dummy = none
  | 0, _, h => h
  | n + 1, p, h => no_dummy m n (adv m p) (by
    unfold adv
    split <;> exact h)
/-- the probe from the start -/
abbrev P0 (t : SetTable) (g : Int) : SetTable.Probe := runAt t.mask (SetTable.bits g % (t.mask + 1)) (SetTable.bits g)
/-- THE SEARCH of one that is to be added, from the c-th step on -/
theorem seek3 (R : Set3 P w s.heap a L es ep t) {x : Addr} {k : List Key} (hx : At3 P w s.heap k x) (hu : A.units < cLine) {n : Nat} (hnf : n < 10 * SetTable.turns t.mask)
    (hn : way t.mask (ha3 P w k) n ∉ t.place.toList) (hb : ∀ c, c < n → way t.mask (ha3 P w k) c ∈ t.place.toList) {Q : SetFound → Shared → Prop}
    (q1 : k ∈ L.map (·.2) → Q (.there none) s) (q2 : Q (.free (way t.mask (ha3 P w k) n) false) s) :
    ∀ (f c : Nat) (from_ : Option SetTable.Probe), from_.getD (t.probeStart (ha3 P w k)) = nth t.mask (P0 t (ha3 P w k)) c → c ≤ n → n - c < f →
      wpAny (model P w) A (setSearchFrom a (.ref x) (ha3 P w k) true f from_) Q E s
  | 0, _, _, _, _, z => absurd z (Nat.not_lt_zero _)
  | f + 1, c, from_, hst, hc, hf => by
    obtain ⟨o, ho, hex, hd⟩ := R.ob
    rw [setSearchFrom_succ]
    refine wpAny_bind (wpAny_setState_of ho hd R.fits ?_)
    dsimp only
    refine wp_if_neg R.gw ?_
    try refine wpAny_bind (wpAny_pure ?_)
    have on_ : ∀ q, (nth t.mask (nth t.mask (P0 t (ha3 P w k)) c) q) = nth t.mask (P0 t (ha3 P w k)) (c + q) := fun q => (nth_add t.mask c _ q).symm
    have e1 : ∀ q, (nth t.mask (nth t.mask (P0 t (ha3 P w k)) c) q).j = way t.mask (ha3 P w k) (c + q) := fun q => congrArg SetTable.Probe.j (on_ q)
    have ecn : c + (n - c) = n := by omega
    rcases go_spec t R.tb.ris R.tb.dm (fun i => (es[i]?.map (·.1)).getD 0) (ha3 P w k) (10 * SetTable.turns t.mask) (n - c) (nth t.mask (P0 t (ha3 P w k)) c) (no_dummy _ c _ rfl) (by omega)
      (fun q hq => by rw [e1]; exact hb _ (by omega)) (by rw [e1, ecn]; exact hn) with ⟨q, i, hq, hi, _, _, pr⟩ | ⟨_, pr⟩
    · have pr' : t.probe (fun i => (es[i]?.map (·.1)).getD 0) (ha3 P w k) (from_.getD (t.probeStart (ha3 P w k))) = some (.candidate (way t.mask (ha3 P w k) (c + q)) i (nth t.mask (P0 t (ha3 P w k)) (c + (q + 1)))) := by
        rw [hst, ← e1, ← on_]
        exact pr
      rw [pr']
      dsimp only
      rw [e1] at hi
      have hil : i < L.length := by
        have z1 := (List.getElem?_eq_some_iff.mp hi).1
        have z2 := R.tb.sz
        rw [List.length_map, ← Array.length_toList] at z2
        omega
      have hp : L[i]? = some L[i] := List.getElem?_eq_getElem hil
      generalize L[i] = p at hp
      have hm : p ∈ L := List.mem_of_getElem? hp
      have go : wpAny (model P w) A (searchRest a (.ref x) (ha3 P w k) true f es t (way t.mask (ha3 P w k) (c + q)) i (nth t.mask (P0 t (ha3 P w k)) (c + (q + 1)))) Q E s := by
        unfold searchRest
        rw [R.at hp]
        unfold en3
        dsimp only
        refine wpAny_bind (wpAny_holding (wpAny_eqBool_tuple hu (R.ks p hm) hx ?_))
        refine wpAny_bind (wpAny_setState_of ho hd R.fits ?_)
        dsimp only
        by_cases he : p.2 = k
        · exact wp_if_pos (by simp [he]) (wpAny_pure (q1 (List.mem_map.mpr ⟨p, hm, he⟩)))
        · refine wp_if_neg (by simp [he]) ?_
          try refine wpAny_bind (wpAny_pure ?_)
          rw [sameMem]
          dsimp only
          have hsl : t.slot (way t.mask (ha3 P w k) (c + q)) = .live i := slot_live R.tb.ris hi
          have hat := R.at hp
          unfold en3 at hat
          simp only [if_true, hsl, hat]
          refine wpAny_bind (wpAny_isSame_ref_self (wpAny_bind (wpAny_pure ?_)))
          simp only [if_true]
          refine wp_if_neg (by simp [he]) ?_
          exact seek3 R hx hu hnf hn hb q1 q2 f (c + (q + 1)) _ rfl (by omega) (by omega)
      by_cases hl : t.led = true
      · refine wp_if_neg (by simp [hl]) ?_
        try refine wpAny_bind (wpAny_pure ?_)
        exact go
      · refine wp_if_pos (by simp [hl]) (wpAny_bind (seen3 hx (fun y hy => ?_) ?_))
        · obtain ⟨e, he, rfl⟩ := List.mem_map.mp hy
          have he1 : e ∈ es ∧ e.1 = ha3 P w k := by simpa using he
          have he2 : e ∈ es.toList := by simpa using he1.1
          rw [R.rw] at he2
          obtain ⟨p2, hp2, rfl⟩ := List.mem_map.mp he2
          exact ⟨p2.2, p2.1, rfl, R.ks p2 hp2⟩
        · refine wp_if_neg (by decide) ?_
          try refine wpAny_bind (wpAny_pure ?_)
          exact go
    · have pr' : t.probe (fun i => (es[i]?.map (·.1)).getD 0) (ha3 P w k) (from_.getD (t.probeStart (ha3 P w k))) = some (.empty (way t.mask (ha3 P w k) n) none) := by
        rw [hst]
        refine pr.trans ?_
        rw [e1, ecn]
      rw [pr']
      dsimp only
      exact wpAny_pure q2
theorem find3 (R : Set3 P w s.heap a L es ep t) {x : Addr} {k : List Key} (hx : At3 P w s.heap k x) (hu : A.units < cLine) {Q : SetFound → Shared → Prop} (q1 : k ∈ L.map (·.2) → Q (.there none) s)
    (q2 : ∀ n, way t.mask (ha3 P w k) n ∉ t.place.toList → (∀ c, c < n → way t.mask (ha3 P w k) c ∈ t.place.toList) → Q (.free (way t.mask (ha3 P w k) n) false) s) : wpAny (model P w) A (setSearch a (.ref x) (ha3 P w k) true) Q E s := by
  have rm := R.rm
  obtain ⟨n, hnf, hn, hb⟩ := R.tb.first (by rw [List.length_map]; omega) (ha3 P w k)
  have hbig : n < 100000 := by
    have : 10 * SetTable.turns t.mask ≤ 1420 := by
      unfold SetTable.turns
      rcases R.tb.mok with e | e | e <;> omega
    omega
  exact seek3 R hx hu hnf hn hb q1 (q2 n hn hb) 100000 0 none rfl (Nat.zero_le _) (by omega)
/-! growth -/
theorem at3_but {h h' : Heap} {k : List Key} {b : Addr} {o : Obj} (hb : At3 P w h k b) (ho : h.get? a = some o) (hd : o.data = .set es ep t) (hs : Heap.SameBut a h h') : At3 P w h' k b := by
  obtain ⟨o', its, n, ho', hc, hd', hi⟩ := hb
  refine ⟨o', its, n, (hs.2 b fun e => ?_).trans ho', hc, hd', hi⟩
  rw [e, ho] at ho'
  cases ho'
  rw [hd] at hd'
  cases hd'
theorem flm3 {α β : Type} {f g : α → Option β} : ∀ {l : List α}, (∀ x ∈ l, f x = g x) → l.filterMap f = l.filterMap g
  | [], _ => rfl
  | x :: r, h => by
    rw [List.filterMap_cons, List.filterMap_cons, h x List.mem_cons_self, flm3 fun y hy => h y (List.mem_cons_of_mem _ hy)]
theorem ent_range {α : Type} : ∀ (L : List α), (List.range L.length).filterMap (fun i => L[i]?) = L
  | [] => rfl
  | x :: r => by
    rw [List.length_cons, List.range_succ_eq_map, List.filterMap_cons, List.filterMap_map]
    show x :: (List.range r.length).filterMap (fun i => r[i]?) = x :: r
    rw [ent_range r]
theorem order3 {L : List Row3} {es : Array (Int × Value)} {od : Array Nat} (hr : es.toList = L.map (en3 P w)) (hp : od.toList.Perm (List.range L.length)) :
    ∃ L2 : List Row3, (od.filterMap (es[·]?)).toList = L2.map (en3 P w) ∧ L2.Perm L ∧ (L2.map fun p => ha3 P w p.2) = od.toList.map fun i => (es.map (·.1)).getD i 0 := by
  have ent : ∀ i : Nat, es[i]? = (L[i]?).map (en3 P w) := fun i => by rw [← Array.getElem?_toList, hr, List.getElem?_map]
  refine ⟨od.toList.filterMap fun i => L[i]?, ?_, ?_, ?_⟩
  · rw [Array.toList_filterMap, List.map_filterMap]
    exact congrArg (fun g => od.toList.filterMap g) (funext ent)
  · have := hp.filterMap (fun i => L[i]?)
    rwa [ent_range] at this
  · rw [List.map_filterMap, ← List.filterMap_eq_map]
    refine flm3 fun i hi => ?_
    have hlt : i < L.length := List.mem_range.mp (hp.mem_iff.mp hi)
    have e5 : (es.map (·.1))[i]? = some (ha3 P w (L[i]).2) := by
      rw [Array.getElem?_map, ent, List.getElem?_eq_getElem hlt]
      rfl
    show (L[i]?).map _ = some ((es.map (·.1)).getD i 0)
    rw [List.getElem?_eq_getElem hlt, Array.getD_eq_getD_getElem?, e5]
    rfl
theorem grow3 {o : Obj} (ho : s.heap.get? a = some o) (hex : o.ExactSet) (hd : o.data = .set es ep t) (hrows : es.toList = L.map (en3 P w)) (hsz : t.place.size = es.size) (hdm : t.dummies = #[]) (hfl : L.length ≤ t.mask)
    (ks : ∀ p ∈ L, At3 P w s.heap p.2 p.1)(ld : w.params.followText "set-order" = true ∨ t.led = true) {wanted M : Nat}
    (hw : SetTable.sizeAbove wanted - 1 = M) (hM : MaskOk M) (hw2 : SetTable.sizeAbove wanted ≤ 128) (hn : L.length * 5 < M * 3) {Q : Unit → Shared → Prop}
    (hQ : ∀ h' L' es' ep' t', Heap.SameBut a s.heap h' → Set3 P w h' a L' es' ep' t' → L'.Perm L → Q () { s with heap := h' }) : wpAny (model P w) A (setRelay a wanted) Q E s := by
  have zl := len3 hrows
  have hM2 : M ≤ 127 := by rcases hM with e | e | e <;> omega
  obtain ⟨t', od, e, hp, T, em, el, ep', ed⟩ := relaid_ok t (hs := es.map (·.1)) (wanted := wanted) hw hM (by rw [Array.size_map, zl]; omega)
  rw [Array.size_map, zl] at hp
  obtain ⟨L2, r1, r2, r3⟩ := order3 hrows hp
  rw [← r3] at T
  have z2 : (od.filterMap (es[·]?)).size = es.size := by rw [len3 r1, r2.length_eq, zl]
  rw [setRelay_eq]
  refine wpAny_bind (wpAny_setState_of ho hd (fits3 zl hsz hdm hfl) ?_)
  dsimp only
  refine wp_if_neg (by rw [sizeLine_eq]; omega) ?_
  try refine wpAny_bind (wpAny_pure ?_)
  rw [e]
  dsimp only
  refine wpAny_bind (wp_if_neg (by rw [z2]; simp) ?_)
  try refine wpAny_bind (wpAny_pure ?_)
  refine wpAny_pure ?_
  dsimp only
  refine wpAny_storeSet_of ho hd ?_ (by rw [z2, zl, sizeLine_eq]; omega)
  have sb : Heap.SameBut a s.heap (s.heap.update a (Obj.putSet (od.filterMap (es[·]?)) t')) := Heap.SameBut.update ..
  refine hQ _ L2 _ (ep + 1) t' sb ⟨⟨_, store_at ho hd, ⟨hex.1, hex.2.1, hex.2.2⟩, rfl⟩, r1, T, fun p hm => at3_but (ks p (r2.mem_iff.mp hm)) ho hd sb, by rw [el]; exact ld, ?_⟩ r2
  rw [r2.length_eq, em]
  exact hn
/-- ADDING -/
theorem add3 (R : Set3 P w s.heap a L es ep t) {x : Addr} {k : List Key} (hx : At3 P w s.heap k x) (hu : A.units < cLine) (few : L.length + 1 < 64) {Q : Bool → Shared → Prop}
    (hQ : ∀ b h' L' es' ep' t', Heap.SameBut a s.heap h' → Set3 P w h' a L' es' ep' t' → ((L' = L ∧ k ∈ L.map (·.2)) ∨ L'.Perm ((x, k) :: L)) → Q b { s with heap := h' }) :
    wpAny (model P w) A (setAddHashed a (.ref x) (ha3 P w k)) Q E s := by
  obtain ⟨o, ho, hex, hd⟩ := R.ob
  have zl := len3 R.rw
  have rm := R.rm
  unfold setAddHashed
  refine wpAny_holding ?_
  rw [show (100000 : Nat) = 99999 + 1 from rfl, setAddHashedIn_succ]
  refine wpAny_bind (wpAny_setState_of ho hd R.fits ?_)
  dsimp only
  refine wp_if_neg (by simp [byScan, Value.scannable]) ?_
  try refine wpAny_bind (wpAny_pure ?_)
  refine wpAny_bind (find3 R hx hu (fun hm => ?_) fun n hn hb => ?_)
  · dsimp only
    exact wpAny_pure (hQ false s.heap L es ep t (Heap.SameBut.refl a s.heap) R (.inl ⟨rfl, hm⟩))
  · dsimp only
    refine wpAny_bind (wpAny_setState_of ho hd R.fits ?_)
    dsimp only
    obtain ⟨p1, p2, p3, p4, p5, _, _, _, p9⟩ := R.tb.put hn hb
    generalize hpt : t.put (way t.mask (ha3 P w k) n) = pt at p1 p3 p4 p5 p9 ⊢
    obtain ⟨t0, y⟩ := pt
    dsimp only at p1 p3 p4 p5 p9 ⊢
    subst p1
    generalize SetTable.below t.place (way t.mask (ha3 P w k) n) = y at p2 p3 ⊢
    rw [List.length_map] at p2 p9
    have any : ∀ (K : Bool → Sem Bool), (∀ z, wpAny (model P w) A (K z) Q E s) → wpAny (model P w) A (if t0.plain = true then hashByValue 8 (.ref x) >>= K else pure true >>= K) Q E s := fun K hK => by
      by_cases hpl : t0.plain = true
      · rw [if_pos hpl]
        exact wpAny_bind (byv3t hx hK)
      · rw [if_neg hpl]
        exact wpAny_bind (wpAny_pure (hK true))
    refine any _ fun z => ?_
    obtain ⟨t1, e1⟩ : ∃ t1 : SetTable, t1 = (if z = true then t0 else { t0 with plain := false }) := ⟨_, rfl⟩
    rw [← e1]
    have f1 : t1.place = t0.place ∧ t1.dummies = t0.dummies ∧ t1.mask = t0.mask ∧ t1.led = t0.led := by
      rw [e1]
      cases z <;> exact ⟨rfl, rfl, rfl, rfl⟩
    obtain ⟨g1, g2, g3, g4⟩ := f1
    replace p3 : TabOk t1 _ := ⟨by rw [g1]; exact p3.ris, by rw [g2]; exact p3.dm, by rw [g1]; exact p3.sz, by rw [g3]; exact p3.mok, by rw [g1, g3]; exact p3.bd, by rw [g1, g3]; exact p3.reach⟩
    replace p4 : t1.mask = t.mask := g3.trans p4
    replace p5 : t1.led = t.led := g4.trans p5
    replace p9 : t1.fill = L.length + 1 := by
      rw [← p9]
      unfold SetTable.fill
      rw [g1, g2]
    clear e1 g1 g2 g3 g4 hpt any
    have hrw : (SetTable.insertAt es y (ha3 P w k, Value.ref x)).toList = (L.take y ++ (x, k) :: L.drop y).map (en3 P w) := by
      rw [SetTable.toList_insertAt, R.rw, List.map_append, List.map_cons, List.map_take, List.map_drop]
      rfl
    have pm : (L.take y ++ (x, k) :: L.drop y).Perm ((x, k) :: L) := put_perm L y (x, k)
    rw [show (L.map fun p => ha3 P w p.2).take y ++ ha3 P w k :: (L.map fun p => ha3 P w p.2).drop y = (L.take y ++ (x, k) :: L.drop y).map fun p => ha3 P w p.2 from by rw [List.map_append, List.map_cons, List.map_take, List.map_drop]] at p3
    generalize L.take y ++ (x, k) :: L.drop y = L1 at pm p3 hrw
    generalize SetTable.insertAt es y (ha3 P w k, Value.ref x) = es1 at hrw ⊢
    have l1 : L1.length = L.length + 1 := pm.length_eq
    have z1 := len3 hrw
    refine wpAny_bind (wpAny_storeSet_of ho hd ?_ (by rw [z1, l1, sizeLine_eq]; omega))
    have sb : Heap.SameBut a s.heap (s.heap.update a (Obj.putSet es1 t1)) := Heap.SameBut.update ..
    have ho1 := store_at (es' := es1) (t' := t1) ho hd
    generalize s.heap.update a (Obj.putSet es1 t1) = h1 at sb ho1 ⊢
    have ks1 : ∀ p ∈ L1, At3 P w h1 p.2 p.1 := fun p hp => by
      rcases List.mem_cons.mp (pm.mem_iff.mp hp) with e | hp
      · rw [e]; exact at3_but hx ho hd sb
      · exact at3_but (R.ks p hp) ho hd sb
    have ld1 : w.params.followText "set-order" = true ∨ t1.led = true := by rw [p5]; exact R.ld
    have s1 : t1.place.size = es1.size := by
      have := p3.sz
      rw [List.length_map] at this
      rw [this, z1]
    have tf : t1.tooFull = true ↔ (L.length + 1) * 5 ≥ t.mask * 3 := by
      unfold SetTable.tooFull
      rw [decide_eq_true_eq, p9, p4]
    by_cases hf : t1.tooFull = true
    · first
        | (refine wpAny_bind ?_; refine wp_if_pos (by simp [hf]) ?_)
        | (refine wp_if_pos (by simp [hf]) ?_; refine wpAny_bind ?_)
      have full := tf.mp hf
      rw [zl]
      have two : (t.mask = 7 ∧ L.length = 4) ∨ (t.mask = 31 ∧ L.length = 18) := by
        rcases R.tb.mok with e | e | e <;> rw [e] at full rm
        · exact .inl ⟨e, by omega⟩
        · exact .inr ⟨e, by omega⟩
        · omega
      have go : ∀ M, SetTable.sizeAbove (SetTable.grown (L.length + 1)) - 1 = M → MaskOk M → SetTable.sizeAbove (SetTable.grown (L.length + 1)) ≤ 128 → (L.length + 1) * 5 < M * 3 →
          wpAny (model P w) A (setRelay a (SetTable.grown (L.length + 1))) (fun _ s' => wpAny (model P w) A (pure true) Q E s') E { s with heap := h1 } := fun M g1 g2 g3 g4 =>
        grow3 (s := { s with heap := h1 }) ho1 ⟨hex.1, hex.2.1, hex.2.2⟩ rfl hrw s1 p3.dm (by rw [l1, p4]; rcases two with ⟨e, e2⟩ | ⟨e, e2⟩ <;> omega) ks1 ld1 g1 g2 g3 (by rw [l1]; exact g4)
          fun h2 L2 es2 ep2 t2 sb2 R2 pm2 => wpAny_pure (hQ true h2 L2 es2 ep2 t2 (sb.trans sb2) R2 (.inr (pm2.trans pm)))
      rcases two with ⟨_, e2⟩ | ⟨_, e2⟩
      · exact go 31 (by rw [e2, size_20]) (.inr (.inl rfl)) (by rw [e2, size_20]; decide) (by omega)
      · exact go 127 (by rw [e2, size_76]) (.inr (.inr rfl)) (by rw [e2, size_76]; decide) (by omega)
    · first
        | refine wp_if_neg (by simp [hf]) ?_
        | (refine wpAny_bind ?_; refine wp_if_neg (by simp [hf]) ?_; refine wpAny_pure ?_)
      refine wpAny_pure (hQ true h1 L1 es1 (ep + 1) t1 sb ⟨⟨_, ho1, ⟨hex.1, hex.2.1, hex.2.2⟩, rfl⟩, hrw, p3, ks1, ld1, ?_⟩ (.inr pm))
      have hz : ¬ (L.length + 1) * 5 ≥ t.mask * 3 := fun z => hf (tf.mpr z)
      rw [l1, p4]
      omega
end
end G1
set_option Elab.async false
set_option linter.all false
set_option maxRecDepth 100000
set_option maxHeartbeats 4000000
/-! set(a list of tuples of ints and texts) -/
namespace G1
open PySem PySem.Spec PyProof.Rows L2
/-- what the set has of the first i items -/
structure Has3 (ks : List Row3) (i : Nat) (L : List Row3) : Prop where
  sub : ∀ p ∈ L, p ∈ ks
  all : ∀ p ∈ ks.take i, p.2 ∈ L.map (·.2)
  len : L.length ≤ i
theorem Has3.next {ks L L' : List Row3} {i : Nat} {x : Row3} (g : Has3 ks i L) (h : ks[i]? = some x) (hc : (L' = L ∧ x.2 ∈ L.map (·.2)) ∨ L'.Perm ((x.1, x.2) :: L)) : Has3 ks (i + 1) L' := by
  have et : ks.take (i + 1) = ks.take i ++ [x] := by rw [List.take_add_one, h]; rfl
  rcases hc with ⟨rfl, hm⟩ | pm
  · refine ⟨g.sub, fun p hp => ?_, Nat.le_succ_of_le g.len⟩
    rw [et] at hp
    rcases List.mem_append.mp hp with z | z
    · exact g.all p z
    · rw [List.mem_singleton.mp z]; exact hm
  · refine ⟨fun p hp => ?_, fun p hp => ?_, ?_⟩
    · rcases List.mem_cons.mp (pm.mem_iff.mp hp) with e | z
      · rw [e]; exact List.mem_of_getElem? h
      · exact g.sub p z
    · rw [(pm.map (·.2)).mem_iff, List.map_cons]
      rw [et] at hp
      rcases List.mem_append.mp hp with z | z
      · exact List.mem_cons_of_mem _ (g.all p z)
      · rw [List.mem_singleton.mp z]; exact List.mem_cons_self
    · rw [pm.length_eq]
      exact Nat.succ_le_succ g.len
section
variable {P : Program} {w : World} {A : Around} {E : Value → Shared → Prop} {s : Shared}
theorem at3_keep {h h' : Heap} {k : List Key} {b : Addr} (x : At3 P w h k b) (hk : ∀ c o, h.get? c = some o → h'.get? c = some o) : At3 P w h' k b := by
  obtain ⟨o, its, n, ho, r⟩ := x
  exact ⟨o, its, n, hk b o ho, r⟩
theorem Set3.keep {h h' : Heap} {a : Addr} {L : List Row3} {es : Array (Int × Value)} {ep : Nat} {t : SetTable} (R : Set3 P w h a L es ep t) (ha : ∀ o, h.get? a = some o → h'.get? a = some o) (ht : ∀ p ∈ L, At3 P w h' p.2 p.1) : Set3 P w h' a L es ep t := by
  obtain ⟨o, ho, r⟩ := R.ob
  exact ⟨⟨o, ha o ho, r⟩, R.rw, R.tb, ht, R.ld, R.rm⟩
def o3 (w : World) : Obj := { cls := .type "set", dict := none, data := .set #[] 0 (.fresh 0 0 (!w.params.followText "set-order")) }
theorem set3_new {h : Heap} {a : Addr} (ho : h.get? a = some (o3 w)) : Set3 P w h a [] #[] 0 (.fresh 0 0 (!w.params.followText "set-order")) := by
  refine ⟨⟨_, ho, ⟨rfl, rfl, rfl⟩, rfl⟩, rfl, ⟨List.Pairwise.nil, rfl, rfl, .inl rfl, fun x hx => (by cases hx), fun i h j hi => (by simp at hi)⟩, fun p hp => (nomatch hp), ?_, (by decide : 0 * 5 < 7 * 3)⟩
  show _ ∨ (!w.params.followText "set-order") = true
  cases w.params.followText "set-order"
  · exact .inr rfl
  · exact .inl rfl
/-- the loop that fills it -/
theorem fill3 {I : Addr} {fp wr : List Addr} {G : Array GenState → Array GenState → Prop} {n : Nat} {Pv : Nat → Value → Prop} {St : Nat → Shared → Prop} {R : Result → Shared → Prop}
    (W : WalksS P w A.in1 I fp wr G n Pv St) (S : Addr) (hSf : S ∉ fp) (ks : List Row3) (hn : n = ks.length) (few : ks.length < 64) (hval : ∀ i v, Pv i v → ∃ p, ks[i]? = some p ∧ v = .ref p.1)
    (h0 : Heap) (hk : ∀ p ∈ ks, At3 P w h0 p.2 p.1) (hS0 : h0.get? S = none) (hw0 : ∀ b ∈ wr, h0.get? b = none) (hu : A.in1.units < cLine) :
    ∀ (j i : Nat) (s : Shared), n - i = j → i ≤ n → St i s → (∀ b o, h0.get? b = some o → s.heap.get? b = some o) → (∃ L es ep t, Set3 P w s.heap S L es ep t ∧ Has3 ks i L) →
      (∀ s' L es ep t, Moved (S :: wr) G s s' → Set3 P w s'.heap S L es ep t → Has3 ks n L → (∀ b o, h0.get? b = some o → s'.heap.get? b = some o) → R (.ok (.ret .none)) s') →
      codeAny (model P w) A (.builtin "set.update.loop" ⟨[.ref S, .ref I], []⟩) R s := by
  have sub : ∀ b ∈ wr, b ∈ S :: wr := fun b hb => List.mem_cons_of_mem _ hb
  have stay : ∀ {s s' : Shared}, Moved wr G s s' → (∀ b o, h0.get? b = some o → s.heap.get? b = some o) → ∀ b o, h0.get? b = some o → s'.heap.get? b = some o := fun hm hkp b o e =>
    hm.heap b o (fun hb => by rw [hw0 b hb] at e; cases e) (hkp b o e)
  intro j
  induction j with
  | zero =>
    intro i s hj hi hst hkp ⟨L, es, ep, t, hS, g⟩ hR
    obtain rfl : i = n := by omega
    refine codeAny_builtin F.entry_set_update_loop ?_
    rw [Around.under_plainId F.plain_set_update_loop _]
    show wpAny _ A.in1 (pyNext (.ref I) >>= _) _ _ s
    refine wpAny_bind (W.done s _ _ hst fun s' hm => ?_)
    have hkp' := stay hm hkp
    show wpAny _ A.in1 (ret Value.none) _ _ s'
    exact wpAny_pure (hR s' L es ep t (hm.mono sub) (hS.keep (fun o e => hm.heap S o (fun z => hSf (W.sub _ z)) e) fun p hp => at3_keep (hk p (g.sub p hp)) hkp') g hkp')
  | succ j ih =>
    intro i s hj hi hst hkp ⟨L, es, ep, t, hS, g⟩ hR
    have hlt : i < n := by omega
    refine codeAny_builtin F.entry_set_update_loop ?_
    rw [Around.under_plainId F.plain_set_update_loop _]
    show wpAny _ A.in1 (pyNext (.ref I) >>= _) _ _ s
    refine wpAny_bind (W.item i s _ _ hlt hst fun v s' hP hst' hm => ?_)
    obtain ⟨p, hp, rfl⟩ := hval i v hP
    have hkp' := stay hm hkp
    have hS' : Set3 P w s'.heap S L es ep t := hS.keep (fun o e => hm.heap S o (fun z => hSf (W.sub _ z)) e) fun q hq => at3_keep (hk q (g.sub q hq)) hkp'
    have hx : At3 P w s'.heap p.2 p.1 := at3_keep (hk p (List.mem_of_getElem? hp)) hkp'
    show wpAny _ A.in1 (holding [Value.ref p.1] (setAdd S (.ref p.1)) >>= _) _ _ s'
    refine wpAny_bind (wpAny_holding ?_)
    unfold setAdd
    refine wpAny_holding (wpAny_bind (wpAny_pyHash_tuple hu hx ?_))
    refine add3 (s := { s' with toks := s'.toks + (p.2.length + 1) }) hS' hx hu (by have := g.len; omega) fun b h' L' es' ep' t' hsb hS2 c => ?_
    have hkp2 : ∀ b o, h0.get? b = some o → h'.get? b = some o := fun b o e => (hsb.2 b (fun z => by rw [z, hS0] at e; cases e)).trans (hkp' b o e)
    refine wpAny_pure ⟨plainId_quiet F.plain_set_update_loop _, ih (i + 1) _ (by omega) hlt (W.frame _ s' _ _ hst' (Nat.le_add_right _ _) fun b hb o e => ?_) hkp2 ⟨L', es', ep', t', hS2, g.next hp c⟩ fun s'' L2 es2 ep2 t2 hm'' hS'' g'' hkp'' => ?_⟩
    · rw [hsb.2 b (fun h : b = S => hSf (by rw [← h]; exact hb))]; exact e
    · refine hR s'' L2 es2 ep2 t2 (Moved.trans W.gtrans ((hm.mono sub).then_heap (Nat.le_add_right _ _) fun b o hb e => ?_) hm'') hS'' g'' hkp''
      rw [hsb.2 b (fun h : b = S => hb (by rw [h]; exact List.mem_cons_self))]; exact e
theorem set_call3 {l : Addr} {items : Array Value} (ks : List Row3) {Q : Value → Shared → Prop} (hh : A.handled = none) (hl : s.heap.IsList l items) (hit : items.toList = ks.map fun p => Value.ref p.1)
    (hk : ∀ p ∈ ks, At3 P w s.heap p.2 p.1) (few : ks.length < 64) (hu : A.units + 3 < cLine)
    (h : ∀ (h' : Heap) (tk : Nat) L es ep t, Set3 P w h' s.heap.objs.size L es ep t → Has3 ks ks.length L → (∀ b o, s.heap.get? b = some o → h'.get? b = some o) → Q (.ref s.heap.objs.size) { s with heap := h', toks := tk }) :
    wpAny (model P w) A (call (.type "set") [.ref l]) Q E s := by
  have hisz : items.size = ks.length := by rw [← Array.length_toList, hit, List.length_map]
  obtain ⟨c, tl, hmro⟩ := F.called_set.mro
  have hmade := F.called_set.made
  have hsub := F.called_set.sub
  refine wpAny_call (codeAny_of_tree (show wpAny _ _ (callAny (.type "set") _) _ _ _ from wpAny_pure ⟨Code.quiet_builtin _ (by decide +kernel), codeAny_builtin F.entry_type_call ?_⟩))
  rw [Around.under_plain (weight_type_call_type "set" [.ref l] []) rfl]
  have h1 := F.called_set.notType
  have h2 := F.called_set.canCreate
  have hct := F.typeCall_set_1 (.ref l)
  repeat (any_goals (first | assumption | wp_step))
  refine codeAny_mono (code_set_led1 (.ref l) (E := E) (Q₁ := fun obj u => obj = .ref s.heap.objs.size ∧ u = { s with heap := s.heap.push (o3 w) }) ⟨rfl, rfl⟩) fun r u hr => ?_
  cases r with
  | error e => exact hr
  | ok fl =>
    cases fl with
    | ret obj =>
      obtain ⟨rfl, rfl⟩ := hr
      have hS : (s.heap.push (o3 w)).get? s.heap.objs.size = some (o3 w) := Heap.get?_push_size _ rfl
      have hT : Shared.TypeIs { s with heap := s.heap.push (o3 w) } (.ref s.heap.objs.size) "set" := ⟨_, hS, rfl⟩
      have hli := F.called_set.init.lookup
      have hbi := F.called_set.init.bind (.ref s.heap.objs.size)
      repeat (any_goals (first | assumption | wp_step))
      refine codeAny_mono (codeAny_call_builtin (R := wants (fun r u => r = .none ∧ ∃ h' tk L es ep t, u = { s with heap := h', toks := tk } ∧ Set3 P w h' s.heap.objs.size L es ep t ∧ Has3 ks ks.length L ∧
          (∀ b o, s.heap.get? b = some o → h'.get? b = some o)) E) F.called_set.init.plain F.entry_set_init (check_set_init_1 hT ?_)) fun r₂ s₂ hr₂ => ?_
      · obtain ⟨ol, hol, hcl, nl, hdl⟩ := hl
        obtain ⟨ocls, odict, odata, oslots⟩ := ol
        simp only at hcl hdl
        subst hcl; subst hdl
        have hol' : (s.heap.push (o3 w)).get? l = some { cls := .type "list", dict := odict, data := .seq items nl, slots := oslots } := Heap.get?_push_of_some _ hol
        have hsls := F.sub_list_set
        have hslf := F.sub_list_frozenset
        have hne : (Value.type "list" == Value.type "dict") = false := by decide
        have hl1 : (s.heap.push (o3 w)).IsList l items := ⟨_, hol', rfl, nl, rfl⟩
        unfold Builtin.«set.__init__» noKeywords Builtin.Frozenset.updateFrom
        generalize hPI : pyIter = PI
        wp_walk
        subst hPI
        refine wpAny_pyIter_list hl1 (wpAny_bind (wpAny_runValue ?_))
        have hlS : l < s.heap.objs.size := Heap.lt_size hol
        have hh3 : A.in1.in1.in1.handled = none := by simp [hh]
        have hz1 : (s.heap.push (o3 w)).objs.size = s.heap.objs.size + 1 := Heap.size_push ..
        have hneI : l ≠ (s.heap.push (o3 w)).objs.size := by rw [hz1]; exact Nat.ne_of_lt (Nat.lt_succ_of_lt hlS)
        have hSf : s.heap.objs.size ∉ [(s.heap.push (o3 w)).objs.size, l] := by
          rw [hz1]
          simp only [List.mem_cons, List.mem_singleton, List.not_mem_nil, or_false, not_or]
          exact ⟨Nat.ne_of_lt (Nat.lt_succ_self _), Nat.ne_of_gt hlS⟩
        have none_of : ∀ b, s.heap.objs.size ≤ b → s.heap.get? b = none := fun b hb => by
          cases q : s.heap.get? b with
          | none => rfl
          | some o => exact absurd (Nat.lt_of_lt_of_le (Heap.lt_size q) hb) (Nat.lt_irrefl _)
        refine fill3 ((Walks.list hh3 _ l hneI items).toS) s.heap.objs.size hSf ks hisz few (fun i v hv => ?_) s.heap hk (none_of _ (Nat.le_refl _)) (fun b hb => none_of b ?_) hu (items.size - 0) 0 _ rfl (Nat.zero_le _)
          ⟨⟨_, Heap.get?_push_size _ rfl, rfl, rfl⟩, (hl1.push _)⟩ (fun b o e => Heap.get?_push_of_some _ (Heap.get?_push_of_some _ e)) ?_ fun s' L es ep t hm hS' g' hkp => ?_
        · have q : items.toList[i]? = some v := by rw [Array.getElem?_toList]; exact hv
          rw [hit, List.getElem?_map] at q
          obtain ⟨p, hp, e⟩ := Option.map_eq_some_iff.mp q
          exact ⟨p, hp, e.symm⟩
        · rw [List.mem_singleton.mp hb, hz1]
          exact Nat.le_succ _
        · exact ⟨[], #[], 0, _, set3_new (Heap.get?_push_of_some _ hS), ⟨fun p z => (nomatch z), fun p z => (by simp at z), Nat.le_refl _⟩⟩
        · obtain ⟨h', g2, d', tk', os'⟩ := s'
          have eg : g2 = s.gens := hm.gens
          have ed : d' = s.drawn := hm.drawn
          have eo : os' = s.os := hm.os
          subst eg; subst ed; subst eo
          show wpAny _ _ _ _ _ _
          refine wpAny_pure (show wpAny _ _ (ret Value.none) _ _ _ from ?_)
          rw [hisz] at g'
          exact wpAny_pure ⟨rfl, h', tk', L, es, ep, t, rfl, hS', g', hkp⟩
      · cases r₂ with
        | error e => exact hr₂
        | ok fl₂ =>
          cases fl₂ with
          | ret r =>
            obtain ⟨rfl, h', tk, L, es, ep, t, rfl, hS', g', hk'⟩ := hr₂
            repeat (any_goals (first | assumption | wp_step))
            exact h _ _ _ _ _ _ hS' g' hk'
          | _ => exact hr₂.elim
    | _ => exact hr.elim
end
end G1
set_option Elab.async false
set_option linter.all false
set_option maxRecDepth 100000
set_option maxHeartbeats 4000000
/-! set(xs) and sorted(set) as rules -/
namespace G1
open PySem PySem.Spec PyProof.Rows L2
open PySem.W (Datum DatumOrd T3 T4 Tup EachIs)
/-- the set at a, without what is said of its tuples -/
def Bare3 (P : Program) (w : World) (h : Heap) (a : Addr) (L : List Row3) : Prop := ∃ (es : Array (Int × Value)) (ep : Nat) (t : SetTable), (∃ o, h.get? a = some o ∧ o.ExactSet ∧ o.data = .set es ep t) ∧ es.toList = L.map (en3 P w) ∧
  TabOk t (L.map fun p => ha3 P w p.2) ∧ (w.params.followText "set-order" = true ∨ t.led = true) ∧ L.length * 5 < t.mask * 3
def SO3 (P : Program) (w : World) (a : Addr) (L : List Row3) : HO := .ext fun h => Bare3 P w h a L
theorem so3_new {P : Program} {w : World} {H : Hp} {h : Heap} {a : Addr} {L : List Row3} (R : Bare3 P w h a L) : ObjOk P w H h a (SO3 P w a L) := by
  have ⟨es, ep, t, ⟨o, ho, r⟩, q⟩ := R
  refine ⟨R, ⟨o, ho⟩, fun h1 h2 p k => ?_⟩
  have ⟨es', ep', t', ⟨o', ho', r'⟩, q'⟩ := (show Bare3 P w h1 a L from p)
  exact ⟨es', ep', t', ⟨o', k o' ho', r'⟩, q'⟩
theorem refs3 : ∀ {ks : List Row3} {us : List Value}, Vals (ks.map fun p => V.ref p.1) us → us = ks.map fun p => Value.ref p.1
  | [], _, r => by cases r; rfl
  | p :: ks, _, r => by
    cases r with
    | cons r1 r2 =>
      cases r1
      rw [refs3 r2]
      rfl
theorem vals3 : ∀ (ks : List Row3), Vals (ks.map fun p => V.ref p.1) (ks.map fun p => Value.ref p.1)
  | [] => .nil
  | p :: ks => .cons rfl (vals3 ks)
theorem each_perm {α : Type} {S : Value → α → Prop} {us vs : List Value} (pm : vs.Perm us) : ∀ {bs : List α}, EachIs S us bs → ∃ bs', bs'.Perm bs ∧ EachIs S vs bs' := by
  induction pm with
  | nil => intro bs h; cases h; exact ⟨[], .nil, .nil⟩
  | cons x _ ih =>
    intro bs h
    cases h with
    | cons a b =>
      obtain ⟨bs', p, q⟩ := ih b
      exact ⟨_ :: bs', p.cons _, .cons a q⟩
  | swap x y l =>
    intro bs h
    cases h with
    | cons a b =>
      cases b with
      | cons b c => exact ⟨_ :: _ :: _, .swap _ _ _, .cons b (.cons a c)⟩
  | trans _ _ ih1 ih2 =>
    intro bs h
    obtain ⟨b1, p1, q1⟩ := ih2 h
    obtain ⟨b2, p2, q2⟩ := ih1 q1
    exact ⟨b2, p2.trans p1, q2⟩
theorem each_and {α : Type} {S T : Value → α → Prop} : ∀ {us : List Value} {bs : List α}, EachIs S us bs → EachIs T us bs → EachIs (fun v b => S v b ∧ T v b) us bs
  | _, _, .nil, _ => .nil
  | _, _, .cons a b, .cons c d => .cons ⟨a, c⟩ (each_and b d)
theorem flat3 {h : Heap} {v : Value} {b : TK} {as : List Addr} (r : Reads h v (Datum.toD b) as) : as = [] := by
  have r' : Reads h v (.tuple [.int b.a, .str b.b, .int b.c]) as := r
  cases r' with
  | @tuple _ _ vs _ _ _ _ _ _ h4 =>
    generalize vs.toList = l at h4
    cases h4 with
    | cons a r1 =>
      cases a
      cases r1 with
      | cons a r2 =>
        cases a
        cases r2 with
        | cons a r3 =>
          cases a
          cases r3
          rfl
section
variable {X : Cx}
/-- set(xs), xs a list of tuples of ints and texts -/
def rSet3 (K : PySem.W.Frag) (P : Program) (w : World) : List V → Hp → VK → Prop := fun xs H Q => ∃ (l : Addr) (ks : List Row3), xs = [V.ref l] ∧ SqL K H l (ks.map fun p => V.ref p.1) ∧ (∀ p ∈ ks, SqT K H p.1 (p.2.map kV)) ∧ ks.length < 64 ∧
  ∀ a L, H a = none → L.length ≤ ks.length → (∀ p ∈ L, p ∈ ks) → (∀ p ∈ ks, p.2 ∈ L.map (·.2)) → Q (.ref a) (upd H a (SO3 P w a L))
theorem cr_set3 (hc : X.calm = true) (hu : X.A.units + 64 < cLine) : CallR X (.type "set") (rSet3 X.K X.prog X.w) := by
  intro pins s σ H xs us Q I r h
  obtain ⟨l, ks, rfl, hl, hk, hf, q⟩ := h
  rw [Vals.ref1 r]
  obtain ⟨its, rv, pl, _⟩ := I.list hl
  refine set_call3 (P := X.prog) (w := X.w) ks (I.ok.hd hc) pl.isList (by simpa using refs3 rv) (fun p hp => ?_) hf (by omega) fun h' tk L es ep t R g k => ?_
  · obtain ⟨it2, r2, ⟨o, ho, hc2, n, hd⟩, _⟩ := I.tuple (hk p hp)
    exact ⟨o, it2.toArray, n, ho, hc2, hd, by simpa using items_are r2⟩
  · refine ⟨.ref s.heap.objs.size, upd H s.heap.objs.size (SO3 X.prog X.w s.heap.objs.size L), I.laid (t' := tk) k (Nat.le_refl _) (so3_new ⟨es, ep, t, R.ob, R.rw, R.tb, R.ld, R.rm⟩), rfl, q _ L (I.hok.fresh (Nat.le_refl _)) g.len g.sub fun p hp => ?_⟩
    exact g.all p (by rw [List.take_length]; exact hp)
/-- sorted(s), s a set of triples -/
def rSortS3 (K : PySem.W.Frag) (P : Program) (w : World) : List V → Hp → VK → Prop := fun vs H Q => ∃ (a : Addr) (L : List Row3) (bs : List (V × TK)), vs = [V.ref a] ∧ H a = some (SO3 P w a L) ∧ (bs.map (·.1)) = L.map (fun p => V.ref p.1) ∧
  (∀ b ∈ bs, Dp K H b.1 (Datum.toD b.2)) ∧ L.length ≤ 100000 ∧
  ∀ (bs' : List (V × TK)) l, bs'.Perm bs → bs'.Pairwise (fun x y => kle x.2 y.2 = true) → H l = none → Q (.ref l) (upd H l (.lst (bs'.map (·.1))))
theorem cr_sortS3 (hc : X.calm = true) (hu : X.A.units + 64 < cLine) : CallR X (.builtin "sorted") (rSortS3 X.K X.prog X.w) := by
  intro pins s σ H vs us Q I r h
  obtain ⟨a, L, bs, rfl, ha, hbs, hd, hlen, q⟩ := h
  obtain ⟨es, ep, t, ⟨o, ho, hex, hdat⟩, hrw, T, ld, rm⟩ := (show Bare3 X.prog X.w s.heap a L from (I.hok a _ ha).1)
  rw [Vals.ref1 r]
  have rv : Vals (bs.map (·.1)) (L.map fun p => Value.ref p.1) := by rw [hbs]; exact vals3 L
  obtain ⟨e1, e2⟩ := each_of I rv hd
  have hbl : bs.length = L.length := by rw [← List.length_map (f := (·.1)), hbs, List.length_map]
  have zl : es.size = L.length := len3 hrw
  have hfit : t.fits es.size = true := fits3 zl (by have := T.sz; rw [List.length_map] at this; rw [this, zl]) T.dm (by omega)
  have hm : t.mask ≤ 127 := by rcases T.mok with e | e | e <;> omega
  have hL : L.length < 77 := by omega
  refine Calls.call_function_entry kind_sorted plain_sorted entry_sorted (args_sorted1 _) ?_
  unfold Builtin.«sorted»
  refine wpAny_bind (m := checkCount "sorted" 1 1 _) (wpAny_pure ?_)
  refine wpAny_bind (collect_set (A := X.A.in1) (I.ok.hd hc) ⟨o, ho, hex.1, hdat⟩ hfit (by unfold scanBound; omega) T.ris ld fun s1 vs k1 hz g1 o1 pm => ?_)
  have ees : es.toList.map (·.2) = L.map fun p => Value.ref p.1 := by
    rw [hrw, List.map_map]
    rfl
  rw [ees] at pm
  have hvl : vs.length < 77 := by rw [pm.length_eq, List.length_map]; exact hL
  refine wpAny_bind (wpAny_newList ?_ (by rw [sizeLine_eq]; omega))
  have hoL : (s1.heap.push (seqObj "list" vs.toArray 0)).get? s1.heap.objs.size = some (seqObj "list" vs.toArray 0) := Heap.get?_push_size _ rfl
  obtain ⟨cs, pc, ec⟩ := each_perm pm (each_and e1 e2)
  have er : EachIs (fun v (b : V × TK) => ∃ as, Reads (s1.heap.push (seqObj "list" vs.toArray 0)) v (Datum.toD b.2) as ∧ s1.heap.objs.size ∉ as) vs cs := ec.mono fun v b ⟨_, as, rd⟩ =>
    ⟨[], (flat3 rd) ▸ PyProof.Rows.Reads.keeps (fun c o e => Heap.get?_push_of_some _ (k1 c o e)) rd, fun z => nomatch z⟩
  refine wpAny_bind (wpAny_holding (PySem.W.list_sort_data (s := { s1 with heap := s1.heap.push (seqObj "list" vs.toArray 0) }) (enc := fun b : V × TK => Datum.toD b.2) hoL (ec.mono fun v b z => z.1) er (fun d hd d' hd' => ?_) (PySem.W.Sortable.tuples fun b => ⟨_, _, rfl⟩) ?_ (fun b hb => ?_) fun out h1 h2 => ?_))
  · obtain ⟨x, _, rfl⟩ := List.mem_map.mp hd
    obtain ⟨y, _, rfl⟩ := List.mem_map.mp hd'
    exact DatumOrd.alike x.2 y.2
  · rw [pc.length_eq, hbl, sizeLine_eq]
    omega
  · have := Datum.depth_le b.2
    have e : Datum.depth TK = 1 := rfl
    show X.A.units + 1 + 1 + (Datum.toD b.2).depth < _
    omega
  · obtain ⟨c, hcs⟩ := sortedHeap_at (vs := vs) (out := List.toArray out) hoL
    have hp := (List.mergeSort_perm cs (PySem.W.dataLe false fun b : V × TK => Datum.toD b.2)).trans pc
    have hl2 : ((cs.mergeSort (PySem.W.dataLe false fun b : V × TK => Datum.toD b.2)).map (·.1)).length ≤ sizeLine := by
      rw [List.length_map, hp.length_eq, hbl, sizeLine_eq]
      omega
    have hn : H s1.heap.objs.size = none := I.hok.fresh hz
    have old : ∀ b o, s.heap.get? b = some o → (sortedHeap (s1.heap.push (seqObj "list" vs.toArray 0)) s1.heap.objs.size vs (List.toArray out)).get? b = some o := fun b u e => by
      have q := k1 b u e
      have hlt := Heap.lt_size q
      rw [sortedHeap_old (Nat.ne_of_lt hlt) (by rw [size_push']; exact Nat.lt_succ_of_lt hlt)]
      exact Heap.get?_push_of_some _ q
    have J : Inv X pins σ (upd H s1.heap.objs.size (.lst ((cs.mergeSort (PySem.W.dataLe false fun b : V × TK => Datum.toD b.2)).map (·.1)))) { s with heap := sortedHeap (s1.heap.push (seqObj "list" vs.toArray 0)) s1.heap.objs.size vs (List.toArray out), gens := s1.gens, drawn := s1.drawn, toks := s1.toks } :=
      I.call (ch := []) (Un.laid old hz hn) (I.hok.laid old hz ⟨hl2, out, c, vals_each h2, hcs⟩) (by rw [g1]; exact I.bare) (fun _ z => nomatch z)
    have T := PySem.W.sortLe_total (listOrd itemOrd) false (fun b : V × TK => PySem.W.keyToks (Datum.toD b.2))
    have z := List.pairwise_mergeSort (le := PySem.W.dataLe false fun b : V × TK => Datum.toD b.2) (fun a b c => T.trans a b c) (fun a b => Bool.or_eq_true_iff.mpr (T.total a b)) cs
    refine wpAny_pure ⟨_, rfl, ?_⟩
    have eo : ({ s1 with heap := sortedHeap (s1.heap.push (seqObj "list" vs.toArray 0)) s1.heap.objs.size vs (List.toArray out) } : Shared) = { s with heap := sortedHeap (s1.heap.push (seqObj "list" vs.toArray 0)) s1.heap.objs.size vs (List.toArray out), gens := s1.gens, drawn := s1.drawn, toks := s1.toks } := by
      cases s1
      cases s
      cases o1
      rfl
    show ∃ x H', _
    refine ⟨.ref s1.heap.objs.size, _, ?_, rfl, q _ _ hp (z.imp fun {x y} hxy => ?_) hn⟩
    · exact eo ▸ J
    · rw [PySem.W.dataLe_eq] at hxy
      show (!DatumOrd.lt y.2 x.2) = true
      rw [← DatumOrd.lt_eq y.2 x.2]
      exact hxy
end
end G1
set_option Elab.async false
set_option linter.all false
set_option maxRecDepth 100000
set_option maxHeartbeats 4000000
/-! the law's fold: plain facts -/
namespace G1
open PySem PySem.Spec PyProof.Rows _root_.L2
open PySem.W (Datum DatumOrd T3 T4 Tup)
theorem minOf2 (i j : Nat) : PySem.W.minOf (i : Int) [(j : Int)] = ((min i j : Nat) : Int) := by
  show (if decide ((j : Int) < i) = true then (j : Int) else i) = _
  by_cases h : (j : Int) < i
  · rw [if_pos (decide_eq_true h)]
    omega
  · rw [if_neg (by simpa using h)]
    omega
theorem maxOf2 (i j : Nat) : PySem.W.maxOf (i : Int) [(j : Int)] = ((max i j : Nat) : Int) := by
  show (if decide ((i : Int) < j) = true then (j : Int) else i) = _
  by_cases h : (i : Int) < j
  · rw [if_pos (decide_eq_true h)]
    omega
  · rw [if_neg (by simpa using h)]
    omega
theorem pln_id {ts : List Tie} (h : ∀ t ∈ ts, t.m = []) : ts.map pln = ts := by
  have : ∀ t ∈ ts, pln t = id t := fun t ht => by
    have e := h t ht
    cases t
    cases e
    rfl
  rw [List.map_congr_left this, List.map_id]
theorem fm_pln (ts : List Tie) : fmD (ts.map pln) = fmD ts := by
  unfold fmD
  rw [List.map_map]
  rfl
theorem hf_mem {ts us : List Tie} (h : ∀ t, t ∈ us ↔ t ∈ ts) {q : Tie} : q ∈ hf us ↔ q ∈ hf ts := by
  rw [mem_hf, mem_hf]
  constructor
  · rintro ⟨t, ht, e⟩
    exact ⟨t, (h t).mp ht, e⟩
  · rintro ⟨t, ht, e⟩
    exact ⟨t, (h t).mpr ht, e⟩
theorem LUnd.fldM {wl : List (List Nat)} {n : Nat} {ts us : List Tie} (U : LUnd wl n ts) (hc : clash ts = none) (h : ∀ t, t ∈ us ↔ t ∈ ts) : Fld wl us := by
  have st : ∀ p c q, Stp us p c q ↔ Stp ts p c q := fun p c q => by
    constructor
    · rintro ⟨t, ht, e⟩
      exact ⟨t, (hf_mem h).mp ht, e⟩
    · rintro ⟨t, ht, e⟩
      exact ⟨t, (hf_mem h).mpr ht, e⟩
  refine ⟨fun t ht => U.sml t ((h t).mp ht), fun p c q q' a b => clash_none hc p c q q' ((st _ _ _).mp a) ((st _ _ _).mp b), fun vs hs hd hw => ?_, fun w hw => path_congr (fun p c q s => (st _ _ _).mpr s) (U.way w hw)⟩
  obtain ⟨f, f0, fm⟩ := U.univ vs hs hd hw
  exact ⟨f, f0, fun t ht => fm t ((h t).mp ht)⟩
theorem lrn4 {ts : List Tie} {lo hi : Nat} (h : L4 ts) : L4 (ts.map (lrn lo hi)) := fun t ht => by
  obtain ⟨t0, h0, rfl⟩ := List.mem_map.mp ht
  exact h t0 h0
theorem lrn_m {ts : List Tie} {lo hi : Nat} : ∀ t ∈ ts.map (lrn lo hi), t.m = [] := fun t ht => by
  obtain ⟨t0, _, rfl⟩ := List.mem_map.mp ht
  rfl
/-! keys, data -/
def key3 (t : Tie) : List Key := [.inl t.s, .inr (chS t.a), .inl t.e]
def deK : List Key → TK
  | [.inl a, .inr b, .inl c] => ⟨a, b, c⟩
  | _ => ⟨0, "", 0⟩
theorem deK3 (t : Tie) : deK (key3 t) = k3 t := rfl
def unT (x : TK) : Tie := ⟨x.a.toNat, x.b.cps.toList.headD 0, x.c.toNat, []⟩
theorem unT3 (t : Tie) : unT (k3 t) = pln t := rfl
theorem k3_mk {K : PySem.W.Frag} {H : Hp} {a : Addr} {t : Tie} (hs : SqT K H a [.int t.s, .str (chS t.a), .int t.e]) : Dt K H (.ref a) (Datum.toD (k3 t)) := .tup hs (.cons (.int _) (.cons (.str _) (.cons (.int _) .nil)))
theorem ks_of {K : PySem.W.Frag} {H : Hp} : ∀ {ts : List Tie} {fs : List V}, DtAll K H fs (fmD ts) → ∃ ks : List Row3, fs = ks.map (fun p => V.ref p.1) ∧ ks.map (·.2) = ts.map key3 ∧ ∀ p ∈ ks, SqT K H p.1 (p.2.map kV)
  | [], _, h => by
    cases h
    exact ⟨[], rfl, rfl, fun p z => nomatch z⟩
  | t :: ts, _, h => by
    cases h with
    | cons h1 h2 =>
      obtain ⟨a, rfl, ha⟩ := k3_inv h1
      obtain ⟨ks, rfl, e, hk⟩ := ks_of (ts := ts) h2
      refine ⟨(a, key3 t) :: ks, rfl, by rw [List.map_cons, List.map_cons, e], fun p hp => ?_⟩
      rcases List.mem_cons.mp hp with rfl | hp
      · exact ha
      · exact hk p hp
theorem dt_all {K : PySem.W.Frag} {H : Hp} {α : Type} {f : α → V} {g : α → PyData} : ∀ {bs : List α}, (∀ b ∈ bs, Dt K H (f b) (g b)) → DtAll K H (bs.map f) (bs.map g)
  | [], _ => .nil
  | b :: bs, h => .cons (h b List.mem_cons_self) (dt_all fun x hx => h x (List.mem_cons_of_mem _ hx))
/-- what comes out of the set, sorted -/
theorem out3 {K : PySem.W.Frag} {H H' : Hp} {ts : List Tie} {ks L : List Row3} {bs : List (V × TK)} (hm : ∀ t ∈ ts, t.m = []) (e : ks.map (·.2) = ts.map key3) (hk : ∀ p ∈ ks, SqT K H p.1 (p.2.map kV)) (sub : ∀ p ∈ L, p ∈ ks) (all : ∀ p ∈ ks, p.2 ∈ L.map (·.2))
    (sm : Same H H') (pm : bs.Perm (L.map fun p => (V.ref p.1, deK p.2))) : ∃ us : List Tie, DtAll K H' (bs.map (·.1)) (fmD us) ∧ (∀ t, t ∈ us ↔ t ∈ ts) ∧ us.length = L.length := by
  have key : ∀ p ∈ ks, ∃ t ∈ ts, p.2 = key3 t := fun p hp => by
    have : p.2 ∈ ts.map key3 := by rw [← e]; exact List.mem_map.mpr ⟨p, hp, rfl⟩
    obtain ⟨t, ht, e2⟩ := List.mem_map.mp this
    exact ⟨t, ht, e2.symm⟩
  have pl : ∀ t ∈ ts, pln t = t := fun t ht => by
    have e := hm t ht
    cases t
    cases e
    rfl
  have inb : ∀ b ∈ bs, ∃ p ∈ ks, ∃ t ∈ ts, p.2 = key3 t ∧ b = (V.ref p.1, k3 t) := fun b hb => by
    obtain ⟨p, hp, rfl⟩ := List.mem_map.mp (pm.mem_iff.mp hb)
    obtain ⟨t, ht, e2⟩ := key p (sub p hp)
    exact ⟨p, sub p hp, t, ht, e2, by rw [e2, deK3]⟩
  refine ⟨bs.map fun b => unT b.2, ?_, fun t => ⟨fun h => ?_, fun h => ?_⟩, by rw [List.length_map, pm.length_eq, List.length_map]⟩
  · unfold fmD
    rw [List.map_map]
    refine dt_all fun b hb => ?_
    obtain ⟨p, hp, t, ht, e2, rfl⟩ := inb b hb
    have := hk p hp
    rw [e2] at this
    exact (k3_mk (t := t) this).move (kp_same sm)
  · obtain ⟨b, hb, rfl⟩ := List.mem_map.mp h
    obtain ⟨p, hp, t, ht, e2, rfl⟩ := inb b hb
    show unT (k3 t) ∈ ts
    rw [unT3, pl t ht]
    exact ht
  · have h1 : key3 t ∈ ks.map (·.2) := by rw [e]; exact List.mem_map.mpr ⟨t, h, rfl⟩
    obtain ⟨p, hp, e1⟩ := List.mem_map.mp h1
    have h2 := all p hp
    rw [e1] at h2
    obtain ⟨p2, hp2, e3⟩ := List.mem_map.mp h2
    refine List.mem_map.mpr ⟨(V.ref p2.1, deK p2.2), pm.mem_iff.mpr (List.mem_map.mpr ⟨p2, hp2, rfl⟩), ?_⟩
    show unT (deK p2.2) = t
    rw [e3, deK3, unT3, pl t h]
/-! rings, marks left out -/
def RP (w : List Nat) (h k : Nat) : List Tie := (ringT [] w h k).map pln
theorem told_pln (h c t : Nat) (m n : Wd) : pln (told h c t m) = pln (told h c t n) := by
  unfold told
  split <;> rfl
theorem ring_pln (m : Wd) (w : List Nat) (h k : Nat) : (ringT m w h k).map pln = RP w h k := by
  cases w with
  | nil => rfl
  | cons c r =>
    unfold RP
    rw [ring_cons, ring_cons, List.map_cons, List.map_cons, told_pln h c _ m []]
theorem rp_cons (c : Nat) (r : List Nat) (h k : Nat) : RP (c :: r) h k = pln (told h c (if r = [] then 0 else k) []) :: RP r k (k + 1) := by
  unfold RP
  rw [ring_cons]
  rfl
theorem rp_nil (h k : Nat) : RP [] h k = [] := rfl
/-! sums -/
theorem sum12 : ∀ {ws : List (List Nat)} {n : Nat}, (∀ x ∈ ws, x.length ≤ 12) → ws.length ≤ n → (ws.map List.length).sum ≤ 12 * n
  | [], _, _, _ => Nat.zero_le _
  | x :: r, 0, _, h => absurd h (Nat.not_succ_le_zero _)
  | x :: r, n + 1, h, hn => by
    have h1 := h x List.mem_cons_self
    have h2 := sum12 (ws := r) (n := n) (fun y hy => h y (List.mem_cons_of_mem _ hy)) (Nat.le_of_succ_le_succ hn)
    rw [List.map_cons, List.sum_cons]
    omega
theorem ss_sum : ∀ ws : List (List Nat), SS ws ≤ (ws.map List.length).sum
  | [] => Nat.zero_le _
  | x :: r => by
    have := ss_sum r
    rw [SS_cons, List.map_cons, List.sum_cons]
    omega
theorem lowS {c : Nat} (h : c ∈ ltrs) (hn : ¬ lw c = true) : Txt.lower (chS c) = chS (sw c) := by
  have key : ∀ c ∈ ltrs, lw c = false → Txt.lower (chS c) = chS (sw c) := by decide +kernel
  exact key c h (by simpa using hn)
section
variable {X : Cx}
/-- min, max of a pair of ints -/
def rMin2 (K : PySem.W.Frag) : List V → Hp → VK → Prop := fun vs H Q => ∃ (a : Addr) (i j : Nat), vs = [.ref a] ∧ SqT K H a [.int i, .int j] ∧ Q (.int (min i j : Nat)) H
def rMax2 (K : PySem.W.Frag) : List V → Hp → VK → Prop := fun vs H Q => ∃ (a : Addr) (i j : Nat), vs = [.ref a] ∧ SqT K H a [.int i, .int j] ∧ Q (.int (max i j : Nat)) H
theorem cr_min2 (hc : X.calm = true) (hu : X.A.units + 64 < cLine) : CallR X (.builtin "min") (rMin2 X.K) := by
  intro pins s σ H vs us Q I r h
  obtain ⟨a, i, j, rfl, hs, q⟩ := h
  obtain ⟨its, rv, hl, _⟩ := I.tuple hs
  rw [Vals.ref1 r]
  cases rv with
  | cons r1 r2 =>
    cases r2 with
    | cons r2 r3 =>
      cases r3
      obtain ⟨t1, rfl⟩ := r1
      obtain ⟨t2, rfl⟩ := r2
      refine PySem.W.min_tuple_datum (α := Int) (x := (i : Int)) (xs := [(j : Int)]) (I.ok.hd hc) hl ⟨_, .cons (.int _ _) (.cons (.int _ _) .nil)⟩ (by show X.A.units + 1 + 0 < cLine; omega) fun k v h' tk _ hv hk => ?_
      obtain ⟨as, rd⟩ := hv
      rw [minOf2] at rd
      cases rd with
      | int m t => exact ⟨.int _, H, I.kept hk, ⟨t, rfl⟩, q⟩
theorem cr_max2 (hc : X.calm = true) (hu : X.A.units + 64 < cLine) : CallR X (.builtin "max") (rMax2 X.K) := by
  intro pins s σ H vs us Q I r h
  obtain ⟨a, i, j, rfl, hs, q⟩ := h
  obtain ⟨its, rv, hl, _⟩ := I.tuple hs
  rw [Vals.ref1 r]
  cases rv with
  | cons r1 r2 =>
    cases r2 with
    | cons r2 r3 =>
      cases r3
      obtain ⟨t1, rfl⟩ := r1
      obtain ⟨t2, rfl⟩ := r2
      refine PySem.W.max_tuple_datum (α := Int) (x := (i : Int)) (xs := [(j : Int)]) (I.ok.hd hc) hl ⟨_, .cons (.int _ _) (.cons (.int _ _) .nil)⟩ (by show X.A.units + 1 + 0 < cLine; omega) fun k v h' tk _ hv hk => ?_
      obtain ⟨as, rd⟩ := hv
      rw [maxOf2] at rd
      cases rd with
      | int m t => exact ⟨.int _, H, I.kept hk, ⟨t, rfl⟩, q⟩
end
end G1
set_option Elab.async false
set_option linter.all false
set_option maxRecDepth 100000
set_option maxHeartbeats 4000000
/-! the law: its fold -/
namespace G1
open PySem PySem.Spec PyProof.Rows _root_.L2
open PySem.W (Datum DatumOrd T3 T4 Tup)
section
variable {P : Program} {w : World} {K : PySem.W.Frag} {mg : Str → Option Value} {base : Heap} {CF CR CL : Addr}
abbrev nLf : List Str := ["_law_words_here", "_law_ties", "_law_size", "_law_word", "_law_here", "_law_k", "_law_there", "_law_turn", "_law_pair", "_law_low", "_law_high", "_law_part", "_law_tie"]
theorem scLf : FnScope nLf ["_law_words_here"] (defScope (top 65)) := ⟨rfl, rfl, rfl, by decide +kernel, rfl, by decide +kernel, by decide +kernel⟩
/-- the scope of the outer one of the nested comprehensions, as its block sees it -/
def scTie : Scope := { kind := .function, names := [(".0", .local), ("_law_tie", .local), ("_law_high", .cell), ("_law_low", .cell)], isGenerator := false, isCoroutine := false }
theorem c_lfolded (T : Tx K mg CF CR CL) : Cal P w K mg base 4 "_law_folded" (spLf K) := by
  refine cal T.l_folded scLf (fun vs H Q E h => ?_) (fun _ _ _ _ _ _ us hl => match us, hl with | [_], _ => rfl) fun f cdv A outer s H vs Q E hr h => ?_
  · obtain ⟨_, _, rfl, _⟩ := h; rfl
  · obtain ⟨l, ws, rfl, hl, hw, hn, q⟩ := h
    refine ⟨_, pss_cons (ps_par (i := 1) (j := 2) (by rfl) scLf.nd rfl rfl (by decide) rfl rfl (pa_cons (pe_lst pa_nil) (pa_cons pe_int pa_nil)) (by rfl))
      (pss_cons (ps_for PassesOwn.never rfl (pi_list (pv 0)) (pg_name (i := 3) scLf.nd rfl (.inl rfl))
        (pss_cons (ps_set (i := 4) scLf.nd rfl (.inl rfl) pe_int)
        (pss_one (ps_for PassesOwn.never rfl (pi_range1 rfl (T.nb "range") (pa_cons (pe_callB call_len_str (by rfl) (T.nb "len") boot_len (pa_cons (pv 3) pa_nil)) pa_nil)) (pg_name (i := 5) scLf.nd rfl (.inl rfl))
          (pss_cons (ps_set (i := 6) scLf.nd rfl (.inl rfl) (pe_ifExp (pt_cmpR op_eq (pe_op op_add (pv 5) pe_int) (pe_callB call_len_str (by rfl) (T.nb "len") boot_len (pa_cons (pv 3) pa_nil)) (nomark _)) pe_int (pv 2)))
          (pss_cons (ps_set (i := 2) scLf.nd rfl (.inl rfl) (pe_op op_add (pv 2) (pe_callTy call_int1 (by rfl) (T.nb "int") boot_int (pa_cons (pe_cmpR op_gt (pv 6) pe_int (nomark _)) pa_nil))))
          (pss_cons (ps_expr (pe_bm PySem.F.plainAttrs_list PySem.F.slot_list_append PySem.F.type_list_append mt_append (pv 1)
            (pa_cons (pe_ifExp (pt_val (pe_m0 PySem.F.slot_str_islower PySem.F.type_str_islower mt_islower (pe_ix ix_str (pv 3) (pv 5) (fun _ _ => rfl)))) (pe_tup (pa_cons (pv 4) (pa_cons (pe_ix ix_str (pv 3) (pv 5) (fun _ _ => rfl)) (pa_cons (pv 6) pa_nil)))) (pe_tup (pa_cons (pv 6) (pa_cons (pe_lower (pe_ix ix_str (pv 3) (pv 5) (fun _ _ => rfl))) (pa_cons (pv 4) pa_nil))))) pa_nil)))
          (pss_one (ps_set (i := 4) scLf.nd rfl (.inl rfl) (pv 6))))))))))
      (pss_cons (ps_for PassesOwn.never rfl (pi_range1 rfl (T.nb "range") (pa_cons (pv 2) pa_nil)) (pg_name (i := 7) scLf.nd rfl (.inl rfl))
        (pss_cons (ps_set (i := 8) scLf.nd rfl (.inl rfl) (pe_c (c_lclash T) hr (by decide) rfl (pa_cons (pv 1) pa_nil)))
        (pss_one (ps_if (pt_cmpR (op_neT (Tup Int) hr.units) (pv 8) (pe_tup pa_nil) (nomark _))
          (pss_cons (ps_asg (pe_tup (pa_cons (pe_callB (cr_min2 rfl hr.units) (by rfl) (T.nb "min") boot_min (pa_cons (pv 8) pa_nil)) (pa_cons (pe_callB (cr_max2 rfl hr.units) (by rfl) (T.nb "max") boot_max (pa_cons (pv 8) pa_nil)) pa_nil))) (pg_tup rfl (pgs_cons (pg_name (i := 9) scLf.nd rfl (.inr rfl)) (pgs_cons (pg_name (i := 10) scLf.nd rfl (.inr rfl)) pgs_nil))))
          (pss_cons (ps_setLc (i := 1) (own := [("_law_tie", 12)]) (g := gName 12) (tt := tYes) (te := tLc (iTup K (tVar 12)) (gName 11) tYes (tIf (tTest (tOp rEq (tVar 11) (tVar 10))) (tVar 9) (tVar 11)) [11]) rfl scLf.nd rfl rfl (sw_true rfl rfl rfl (by decide +kernel)) (pi_list (pv 1)) (blkOk_by (N := nLf) (sc := defScope (top 65)) (by decide +kernel))
              (fun _ _ _ _ _ => pg_name (i := 12) scLf.nd rfl (.inl rfl)) (fun _ _ _ _ _ => pts_nil)
              (fun _ _ _ _ _ => pe_lc (own := [("_law_part", 11)]) (g := gName 11) (tt := tYes) (te := tIf (tTest (tOp rEq (tVar 11) (tVar 10))) (tVar 9) (tVar 11)) rfl scLf.nd (pi_tup (pv 12)) (blkOk_by (N := nLf) (sc := scTie) (by decide +kernel))
                (fun _ _ _ _ _ => pg_name (i := 11) scLf.nd rfl (.inl rfl)) (fun _ _ _ _ _ => pts_nil) (fun _ _ _ _ _ => pe_ifExp (pt_cmpR op_eq (pv 11) (pv 10) (nomark _)) (pv 9) (pv 11))))
          (pss_one (ps_setLc (i := 1) (own := [("_law_tie", 12)]) (g := gName 12) (tt := tYes) (te := tTup (tCons (tOp (rIxL K) (tVar 12) (tC (.int 0))) (tCons (tOp (rIxL K) (tVar 12) (tC (.int 1))) (tCons (tOp (rIxL K) (tVar 12) (tC (.int 2))) tNil)))) rfl scLf.nd rfl rfl (sw_true rfl rfl rfl (by decide +kernel)) (pi_list (pv 1)) (blkOk_by (N := nLf) (sc := defScope (top 65)) (by decide +kernel))
            (fun _ _ _ _ _ => pg_name (i := 12) scLf.nd rfl (.inl rfl)) (fun _ _ _ _ _ => pts_nil) (fun _ _ _ _ _ => pe_tup (pa_cons (pe_ix ix_list (pv 12) pe_int (fun _ _ => rfl)) (pa_cons (pe_ix ix_list (pv 12) pe_int (fun _ _ => rfl)) (pa_cons (pe_ix ix_list (pv 12) pe_int (fun _ _ => rfl)) pa_nil)))))))) pss_nil))))
      (pss_one (ps_ret (pe_callB (cr_sortS3 rfl hr.units) (by rfl) (T.nb "sorted") boot_sorted (pa_cons (pe_callTy (cr_set3 rfl hr.units) (by rfl) (T.nb "set") boot_set (pa_cons (pv 1) pa_nil)) pa_nil)))))), ?_⟩
    have hsum : (rgs ws 0 1).length ≤ 60 := by
      rw [rgs_len]
      exact sum12 (n := 5) (fun x hx => (hw x hx).2) hn
    refine ⟨Nat.zero_le _, fun p np => ⟨_, _, rfl, ?_⟩⟩
    refine ⟨_, rfl, l, rfl, ⟨txs ws, .inl (.inl ((same_upd np) _ _ hl))⟩, for_it (walk_list (xs := txs ws))
      (fun i σ H' => ∃ y3 y4 y5 y6 k fs dn, σ = [some (.ref l), some (.ref p), some (.int (k : Nat)), y3, y4, y5, y6, none, none, none, none, none, none] ∧ LD K H H' p fs (fmD dn) ∧ dn.map pln ++ (rgs (ws.drop i) i k).map pln = (rgs ws 0 1).map pln ∧ k + SS (ws.drop i) = 1 + SS ws ∧ 0 < k)
      ⟨none, none, none, none, 1, [], [], rfl, LD.nil np, rfl, rfl, by decide⟩ (fun i σ H' _ hp => ?_) ?_ ?_⟩
    · obtain ⟨_, _, _, _, _, _, _, _, L, _⟩ := hp
      exact .inl (.inl (L.same _ _ hl))
    · rintro i x σ H0 H1 hi ⟨y3, y4, y5, y6, k, fs, dn, rfl, L, eq, kk, kp⟩ ⟨rfl, hx⟩
      obtain ⟨wd, hwd, rfl⟩ := txs_at hx
      have hiw : i < ws.length := (List.getElem?_eq_some_iff.mp hwd).1
      have wm := hw wd (List.mem_of_getElem? hwd)
      have ed : ws.drop i = wd :: ws.drop (i + 1) := by
        rw [List.drop_eq_getElem_cons hiw]
        congr 1
        exact Option.some.inj ((List.getElem?_eq_getElem hiw).symm.trans hwd)
      rw [ed] at eq kk
      have eq2 : dn.map pln ++ ((ringT [((i : Int), 1)] wd 0 k).map pln ++ (rgs (ws.drop (i + 1)) (i + 1) (k + (wd.length - 1))).map pln) = (rgs ws 0 1).map pln := by
        rw [← eq, ← List.map_append]
        rfl
      rw [SS_cons] at kk
      have wl : (tx wd).length ≤ sizeLine := by rw [tx_len]; exact Nat.le_trans wm.2 (by decide)
      refine ⟨_, rfl, tx wd, rfl, wl, ((wd.length : Nat) : Int), by rw [tx_len], by omega, by have := wm.2; omega, ?_⟩
      rw [ring_pln, ← List.append_assoc] at eq2
      have ll : dn.length ≤ 60 := by
        have e := congrArg List.length eq2
        rw [List.length_append, List.length_append, List.length_map, List.length_map (as := rgs ws 0 1)] at e
        omega
      refine for_it (walk_range (lo := 0) (n := wd.length)) (fun j σ H' => ∃ y5 y6 here k2 fs2 dn2, σ = [some (.ref l), some (.ref p), some (.int (k2 : Nat)), some (.str (tx wd)), some (.int (here : Nat)), y5, y6, none, none, none, none, none, none] ∧ LD K H H' p fs2 (fmD dn2) ∧ dn2.map pln ++ RP (wd.drop j) here k2 = dn.map pln ++ RP wd 0 k ∧ k2 + ((wd.drop j).length - 1) = k + (wd.length - 1) ∧ 0 < k2)
        ⟨y5, y6, 0, k, fs, dn, rfl, L, by rw [List.drop_zero], by rw [List.drop_zero], kp⟩ (fun _ _ _ _ _ => trivial) ?_ ?_
      · rintro j x σ H2 H3 hj ⟨y5, y6, here, k2, fs2, dn2, rfl, Lq, e2, kk2, kp2⟩ ⟨rfl, rfl⟩
        have e00 : (fun i : Nat => V.int (0 + (i : Int))) j = V.int (j : Int) := by
          show V.int (0 + (j : Int)) = _
          rw [Int.zero_add]
        rw [e00]
        obtain ⟨c, hc⟩ : ∃ c, wd[j]? = some c := ⟨_, List.getElem?_eq_getElem hj⟩
        have c4 : c ∈ ltrs := wm.1 c (List.mem_of_getElem? hc)
        have hlt : Lt c := wm.1.lw c (List.mem_of_getElem? hc)
        have edj : wd.drop j = c :: wd.drop (j + 1) := by
          rw [List.drop_eq_getElem_cons hj]
          congr 1
          exact Option.some.inj ((List.getElem?_eq_getElem hj).symm.trans hc)
        have llen : (wd.drop (j + 1)).length = wd.length - (j + 1) := List.length_drop
        rw [edj, rp_cons] at e2
        rw [edj, List.length_cons] at kk2
        have hat : atI (tx wd).cps.toList (j : Int) = some c := atI_nat (by simpa [tx] using hc)
        have l60 : dn2.length ≤ 100 := by
          have e := congrArg List.length e2
          rw [List.length_append, List.length_map, List.length_append, List.length_map, List.length_cons] at e
          unfold RP at e
          rw [List.length_map, List.length_map, ring_len, ring_len] at e
          have := wm.2
          omega
        have lf : fs2.length < sizeLine := by
          rw [Lq.len]
          unfold fmD
          rw [List.length_map]
          exact Nat.lt_of_le_of_lt l60 (by decide)
        have push : ∀ (th : Nat) (H4 : Hp) (v : V), LD K H H4 p fs2 (fmD dn2) → Dt K H4 v (Datum.toD (k3 (told here c th []))) → LD K H (upd H4 p (.lst (fs2 ++ [v]))) p (fs2 ++ [v]) (fmD (dn2 ++ [told here c th []])) := fun th H4 v L4 hv => by
          unfold fmD
          rw [List.map_append]
          exact L4.push np hv
        refine ⟨_, rfl, _, _, rfl, rfl, _, rfl, tx wd, rfl, wl, rfl, _, rfl, ?_⟩
        refine ite2 (fun h => ?_) (fun h => ?_)
        · have elast : wd.drop (j + 1) = [] := by
            have := of_decide_eq_true h
            injection this with z
            rw [tx_len] at z
            exact List.drop_of_length_le (by omega)
          rw [elast, if_pos rfl, rp_nil] at e2
          refine ⟨_, rfl, _, rfl, _, _, rfl, rfl, .inr ⟨_, rfl, _, _, rfl, rfl, ?_⟩⟩
          have ek : (V.int ((k2 : Int) + (if decide ((0 : Int) < ((0 : Nat) : Int)) = true then 1 else 0))) = V.int ((k2 : Nat) : Int) := by
            rfl
          refine ⟨_, rfl, .inl ⟨rfl, _, .inl (.inl Lq.at_)⟩, _, rfl, _, rfl, tx wd, (j : Int), c, rfl, rfl, wl, hat, ⟨_, rfl⟩, _, rfl, rfl, trivial, _, rfl, ?_⟩
          rw [show Txt.islower ⟨#[c]⟩ = lw c from islow hlt]
          refine ite2 (fun hb => ?_) (fun hb => ?_)
          · refine ⟨_, rfl, _, rfl, _, rfl, tx wd, (j : Int), c, rfl, rfl, wl, hat, _, rfl, ln3 _ _ _, fun pt npt => ?_⟩
            have L3 := Lq.new (o := .tup [.int here, .str ⟨#[c]⟩, .int (0 : Nat)]) npt
            have dt : Dt K (upd H3 pt (.tup [.int here, .str ⟨#[c]⟩, .int (0 : Nat)])) (.ref pt) (Datum.toD (k3 (told here c 0 []))) := by
              unfold told
              rw [if_pos hb]
              exact k3_mk (.inl (.inl upd_same))
            refine ⟨p, fs2, _, rfl, rfl, L3.at_, lf, _, rfl, ?_⟩
            refine ⟨some (.int (j : Int)), some (.int ((0 : Nat) : Int)), 0, k2, _, dn2 ++ [told here c 0 []], ?_, push _ _ _ L3 dt, (by rw [elast, rp_nil, List.append_nil, List.map_append]; exact e2), (by rw [elast]; rw [elast] at kk2; exact kk2), kp2⟩
            show [some (V.ref l), some (V.ref p), some (V.int ((k2 : Int) + (if decide ((0 : Int) < ((0 : Nat) : Int)) = true then 1 else 0))), some (V.str (tx wd)), some (V.int ((0 : Nat) : Int)), some (V.int (j : Int)), some (V.int ((0 : Nat) : Int)), none, none, none, none, none, none] = _
            rw [ek]
          · refine ⟨_, rfl, _, rfl, _, rfl, tx wd, (j : Int), c, rfl, rfl, wl, hat, ⟨_, rfl⟩, _, rfl, rfl, (by show 1 ≤ _; decide), _, rfl, ln3 _ _ _, fun pt npt => ?_⟩
            rw [show Txt.lower ⟨#[c]⟩ = chS (sw c) from lowS c4 hb]
            have L3 := Lq.new (o := .tup [.int (0 : Nat), .str (chS (sw c)), .int here]) npt
            have dt : Dt K (upd H3 pt (.tup [.int (0 : Nat), .str (chS (sw c)), .int here])) (.ref pt) (Datum.toD (k3 (told here c 0 []))) := by
              unfold told
              rw [if_neg hb]
              exact k3_mk (t := ⟨0, sw c, here, iv []⟩) (.inl (.inl upd_same))
            refine ⟨p, fs2, _, rfl, rfl, L3.at_, lf, _, rfl, ?_⟩
            refine ⟨some (.int (j : Int)), some (.int ((0 : Nat) : Int)), 0, k2, _, dn2 ++ [told here c 0 []], ?_, push _ _ _ L3 dt, (by rw [elast, rp_nil, List.append_nil, List.map_append]; exact e2), (by rw [elast]; rw [elast] at kk2; exact kk2), kp2⟩
            show [some (V.ref l), some (V.ref p), some (V.int ((k2 : Int) + (if decide ((0 : Int) < ((0 : Nat) : Int)) = true then 1 else 0))), some (V.str (tx wd)), some (V.int ((0 : Nat) : Int)), some (V.int (j : Int)), some (V.int ((0 : Nat) : Int)), none, none, none, none, none, none] = _
            rw [ek]
        · have enot : wd.drop (j + 1) ≠ [] := fun e => h (by
            have := congrArg List.length e
            rw [llen] at this
            have e3 : ((tx wd).length : Int) = (j : Int) + 1 := by
              rw [tx_len]
              have : ([] : List Nat).length = 0 := rfl
              omega
            exact decide_eq_true (congrArg V.int e3.symm))
          rw [if_neg enot] at e2
          have lne : 0 < (wd.drop (j + 1)).length := List.length_pos_iff.mpr enot
          refine ⟨_, rfl, ?_⟩
          refine ⟨_, rfl, _, rfl, _, _, rfl, rfl, .inr ⟨_, rfl, _, _, rfl, rfl, ?_⟩⟩
          have ek : (V.int ((k2 : Int) + (if decide ((0 : Int) < ((k2 : Nat) : Int)) = true then 1 else 0))) = V.int (((k2 + 1) : Nat) : Int) := by
            rw [if_pos (decide_eq_true (by omega : (0 : Int) < (k2 : Int)))]; rfl
          refine ⟨_, rfl, .inl ⟨rfl, _, .inl (.inl Lq.at_)⟩, _, rfl, _, rfl, tx wd, (j : Int), c, rfl, rfl, wl, hat, ⟨_, rfl⟩, _, rfl, rfl, trivial, _, rfl, ?_⟩
          rw [show Txt.islower ⟨#[c]⟩ = lw c from islow hlt]
          refine ite2 (fun hb => ?_) (fun hb => ?_)
          · refine ⟨_, rfl, _, rfl, _, rfl, tx wd, (j : Int), c, rfl, rfl, wl, hat, _, rfl, ln3 _ _ _, fun pt npt => ?_⟩
            have L3 := Lq.new (o := .tup [.int here, .str ⟨#[c]⟩, .int (k2 : Nat)]) npt
            have dt : Dt K (upd H3 pt (.tup [.int here, .str ⟨#[c]⟩, .int (k2 : Nat)])) (.ref pt) (Datum.toD (k3 (told here c k2 []))) := by
              unfold told
              rw [if_pos hb]
              exact k3_mk (.inl (.inl upd_same))
            refine ⟨p, fs2, _, rfl, rfl, L3.at_, lf, _, rfl, ?_⟩
            refine ⟨some (.int (j : Int)), some (.int (k2 : Int)), k2, (k2 + 1), _, dn2 ++ [told here c k2 []], ?_, push _ _ _ L3 dt, (by rw [List.map_append, List.append_assoc]; exact e2), (by omega), Nat.succ_pos _⟩
            show [some (V.ref l), some (V.ref p), some (V.int ((k2 : Int) + (if decide ((0 : Int) < ((k2 : Nat) : Int)) = true then 1 else 0))), some (V.str (tx wd)), some (V.int ((k2 : Nat) : Int)), some (V.int (j : Int)), some (V.int ((k2 : Nat) : Int)), none, none, none, none, none, none] = _
            rw [ek]
          · refine ⟨_, rfl, _, rfl, _, rfl, tx wd, (j : Int), c, rfl, rfl, wl, hat, ⟨_, rfl⟩, _, rfl, rfl, (by show 1 ≤ _; decide), _, rfl, ln3 _ _ _, fun pt npt => ?_⟩
            rw [show Txt.lower ⟨#[c]⟩ = chS (sw c) from lowS c4 hb]
            have L3 := Lq.new (o := .tup [.int (k2 : Nat), .str (chS (sw c)), .int here]) npt
            have dt : Dt K (upd H3 pt (.tup [.int (k2 : Nat), .str (chS (sw c)), .int here])) (.ref pt) (Datum.toD (k3 (told here c k2 []))) := by
              unfold told
              rw [if_neg hb]
              exact k3_mk (t := ⟨k2, sw c, here, iv []⟩) (.inl (.inl upd_same))
            refine ⟨p, fs2, _, rfl, rfl, L3.at_, lf, _, rfl, ?_⟩
            refine ⟨some (.int (j : Int)), some (.int (k2 : Int)), k2, (k2 + 1), _, dn2 ++ [told here c k2 []], ?_, push _ _ _ L3 dt, (by rw [List.map_append, List.append_assoc]; exact e2), (by omega), Nat.succ_pos _⟩
            show [some (V.ref l), some (V.ref p), some (V.int ((k2 : Int) + (if decide ((0 : Int) < ((k2 : Nat) : Int)) = true then 1 else 0))), some (V.str (tx wd)), some (V.int ((k2 : Nat) : Int)), some (V.int (j : Int)), some (V.int ((k2 : Nat) : Int)), none, none, none, none, none, none] = _
            rw [ek]
      · rintro σ H2 ⟨y5, y6, here, k2, fs2, dn2, rfl, Lq, e2, kk2, kp2⟩
        rw [List.drop_length, rp_nil, List.append_nil] at e2
        rw [List.drop_length] at kk2
        refine ⟨_, _, _, _, k2, fs2, dn2, rfl, Lq, ?_, by simp at kk2; omega, kp2⟩
        have ek : k2 = k + (wd.length - 1) := by simpa using kk2
        rw [← eq2, ← e2, ek]
    · rintro σ H1 ⟨y3, y4, y5, y6, k, fs, dn, rfl, L, eq, kk, kp⟩
      have e0 : ws.drop (txs ws).length = [] := List.drop_of_length_le (by rw [txs_len]; exact Nat.le_refl _)
      rw [e0] at eq kk
      have ek : k = SS ws + 1 := by
        have : SS ([] : List (List Nat)) = 0 := rfl
        omega
      subst ek
      have eq1 : dn.map pln = (rgs ws 0 1).map pln := by
        rw [← eq]
        show dn.map pln = dn.map pln ++ []
        rw [List.append_nil]
      have L0 := L
      rw [← fm_pln dn, eq1] at L0
      have lw1 : ∀ x ∈ ws, LW x := fun x hx => (hw x hx).1.lw
      have U0 := lund0 lw1
      have ss60 : SS ws ≤ 60 := by
        have := ss_sum ws
        have := sum12 (n := 5) (fun x hx => (hw x hx).2) hn
        omega
      refine ⟨_, rfl, ((SS ws + 1 : Nat) : Int), rfl, by omega, by omega, ?_⟩
      refine for_it (walk_range (lo := 0) (n := SS ws + 1)) (fun i σ H' => ∃ y3 y4 y5 y6 y7 y8 y9 y10 y11 y12 p' fs ts, σ = [some (.ref l), some (.ref p'), some (.int ((SS ws + 1 : Nat) : Int)), y3, y4, y5, y6, y7, y8, y9, y10, y11, y12] ∧ H p' = none ∧ LD K H H' p' fs (fmD ts) ∧ LUnd ws (SS ws + 1) ts ∧ L4 ts ∧ (∀ t ∈ ts, t.m = []) ∧ ts.length ≤ 60 ∧ (G1.clash ts = none ∨ G1.vs ts (SS ws + 1) + i ≤ SS ws + 1))
        ⟨_, _, _, _, none, none, none, none, none, none, p, fs, _, rfl, np, L0, U0, ?_, ?_, ?_, .inr ?_⟩ (fun _ _ _ _ _ => trivial) ?_ ?_
      · intro t ht
        obtain ⟨t0, h0, rfl⟩ := List.mem_map.mp ht
        exact rgs4 (fun x hx => (hw x hx).1) t0 h0
      · intro t ht
        obtain ⟨t0, _, rfl⟩ := List.mem_map.mp ht
        rfl
      · rw [List.length_map]; exact hsum
      · have := vs_le (ts := (rgs ws 0 1).map pln) (SS ws)
        omega
      · rintro i x σ H2 H3 hi ⟨y3, y4, y5, y6, y7, y8, y9, y10, y11, y12, p', fs', ts, rfl, np', Lq, U, l4, hm, tl, hv⟩ ⟨rfl, rfl⟩
        refine ⟨_, rfl, p', fs', ts, rfl, .inl (.inl Lq.at_), Lq.dt, l4, Nat.le_trans tl (by decide), fun H4 r s4 hr4 => ?_⟩
        have Lr := Lq.go s4
        refine ⟨_, rfl, Nat.zero_le _, fun pe npe => ?_⟩
        have Ls := Lr.new (o := .tup []) npe
        have hpe : Dp K (upd H4 pe (.tup [])) (.ref pe) (Datum.toD (Tup.mk ([] : List Int))) := (show Dt K _ _ (.tuple []) from .tup (.inl (.inl upd_same)) .nil).dp
        have hr5 := hr4.move (kp_new (o := .tup []) npe)
        cases hc : G1.clash ts with
        | none =>
          rw [hc] at hr5
          refine ⟨Tup.mk [], Tup.mk [], (show Dt K _ _ (.tuple []) from hr5).dp, hpe, _, rfl, ?_⟩
          refine iteF ?_
          exact ⟨_, _, _, _, _, _, _, _, _, _, p', fs', ts, rfl, np', Ls, U, l4, hm, tl, .inl hc⟩
        | some oq =>
          obtain ⟨one, other⟩ := oq
          rw [hc] at hr5
          have C := clash_some hc
          refine ⟨Tup.mk [(one.e : Int), (other.e : Int)], Tup.mk [], (show Dt K _ _ (.tuple [.int one.e, .int other.e]) from hr5).dp, hpe, _, rfl, ?_⟩
          refine iteT ?_
          obtain ⟨pa2, xs, rfl, hxs, hda⟩ := hr5.tup_inv
          cases hda with
          | cons hd1 hda =>
            cases hda with
            | cons hd2 hda =>
              cases hda
              cases hd1.int_inv
              cases hd2.int_inv
              refine ⟨_, rfl, pa2, one.e, other.e, rfl, hxs, _, rfl, pa2, one.e, other.e, rfl, hxs, ln2 _ _, fun pt npt => ?_⟩
              have Lt := Ls.new (o := .tup [.int (min one.e other.e : Nat), .int (max one.e other.e : Nat)]) npt
              refine ⟨pt, _, rfl, .inl (.inl upd_same), rfl, _, _, rfl, _, _, rfl, rfl, ?_⟩
              obtain ⟨U2, V2⟩ := lund_step U C
              generalize min one.e other.e = lo at U2 V2 Lt ⊢
              generalize max one.e other.e = hi at U2 V2 Lt ⊢
              generalize upd (upd H4 pe (.tup [])) pt (.tup [.int (lo : Nat), .int (hi : Nat)]) = Hc at Lt ⊢
              refine ⟨_, rfl, p', rfl, ⟨fs', .inl (.inl Lt.at_)⟩, fun D nD => lc_it (walk_list (xs := fs')) (fun i H' => Same Hc H' ∧ ∃ qs : List Addr, H' D = some (.lst (qs.map V.ref)) ∧ qs.length = i ∧ ∀ (j : Nat) (q : Addr) (t : Tie), qs[j]? = some q → ts[j]? = some t → H' q = some (.lst [.int (rn lo hi t.s : Nat), .str (chS t.a), .int (rn lo hi t.e : Nat)]))
                ⟨same_upd nD, [], upd_same, rfl, fun j q t e => (nomatch e)⟩ (fun i H' _ hp => .inl (.inl (hp.1 _ _ Lt.at_))) ?_ ?_⟩
              · rintro i x H0 H5 hi2 ⟨sm, qs, hD, hlq, hq⟩ ⟨rfl, hx⟩
                obtain ⟨t, ht, hdt⟩ := dtAll_map (Lt.dt.move (kp_same sm)) hx
                obtain ⟨ta, rfl, hts⟩ := k3_inv hdt
                have hit : i < ts.length := (List.getElem?_eq_some_iff.mp ht).1
                refine ⟨rfl, yesT ?_⟩
                refine ⟨_, rfl, ta, rfl, ⟨_, hts⟩, fun D2 nD2 => lc_it (walk_tup (xs := [.int t.s, .str (chS t.a), .int t.e])) (fun j H' => Same H5 H' ∧ H' D2 = some (.lst (([V.int (rn lo hi t.s : Nat), .str (chS t.a), .int (rn lo hi t.e : Nat)]).take j)))
                  ⟨same_upd nD2, upd_same⟩ (fun j H' _ hp => (kp_same hp.1) _ _ hts) ?_ ?_⟩
                · rintro j x H6 H7 hj ⟨sm2, hD2⟩ ⟨rfl, hx2⟩
                  have h3 : j = 0 ∨ j = 1 ∨ j = 2 := by
                    have : [V.int (t.s : Nat), .str (chS t.a), .int (t.e : Nat)].length = 3 := rfl
                    omega
                  have lt9 : ∀ acc : List V, acc.length ≤ 3 → acc.length < sizeLine := fun acc h => Nat.lt_of_le_of_lt h (by decide)
                  rcases h3 with rfl | rfl | rfl
                  · cases hx2
                    refine ⟨rfl, yesT ?_⟩
                    refine ⟨_, rfl, _, rfl, rfl, _, rfl, ?_⟩
                    refine ite2 (fun h => ?_) (fun h => ?_)
                    · have e : t.s = hi := by
                        have := of_decide_eq_true h
                        injection this with z
                        omega
                      refine ⟨_, rfl, _, hD2, lt9 _ (by rw [List.length_take]; exact Nat.min_le_right _ _), sm2.set nD2, ?_⟩
                      rw [upd_same, show rn lo hi t.s = lo from if_pos e]
                      rfl
                    · have e : t.s ≠ hi := fun e => h (by
                        rw [e]
                        exact decide_eq_true rfl)
                      refine ⟨_, rfl, _, hD2, lt9 _ (by rw [List.length_take]; exact Nat.min_le_right _ _), sm2.set nD2, ?_⟩
                      rw [upd_same, show rn lo hi t.s = t.s from if_neg e]
                      rfl
                  · cases hx2
                    refine ⟨rfl, yesT ?_⟩
                    refine ⟨_, rfl, _, rfl, rfl, _, rfl, ?_⟩
                    refine ite2 (fun h => ?_) (fun h => ?_)
                    · exact absurd (of_decide_eq_true h) (fun e => nomatch e)
                    · refine ⟨_, rfl, _, hD2, lt9 _ (by rw [List.length_take]; exact Nat.min_le_right _ _), sm2.set nD2, ?_⟩
                      rw [upd_same]
                      rfl
                  · cases hx2
                    refine ⟨rfl, yesT ?_⟩
                    refine ⟨_, rfl, _, rfl, rfl, _, rfl, ?_⟩
                    refine ite2 (fun h => ?_) (fun h => ?_)
                    · have e : t.e = hi := by
                        have := of_decide_eq_true h
                        injection this with z
                        omega
                      refine ⟨_, rfl, _, hD2, lt9 _ (by rw [List.length_take]; exact Nat.min_le_right _ _), sm2.set nD2, ?_⟩
                      rw [upd_same, show rn lo hi t.e = lo from if_pos e]
                      rfl
                    · have e : t.e ≠ hi := fun e => h (by
                        rw [e]
                        exact decide_eq_true rfl)
                      refine ⟨_, rfl, _, hD2, lt9 _ (by rw [List.length_take]; exact Nat.min_le_right _ _), sm2.set nD2, ?_⟩
                      rw [upd_same, show rn lo hi t.e = t.e from if_neg e]
                      rfl
                · rintro H6 ⟨sm2, hD2⟩
                  have smA := sm.trans sm2
                  refine ⟨_, sm2 _ _ hD, ?_, smA.set nD, qs ++ [D2], ?_, ?_, fun j q u hq1 hu => ?_⟩
                  · rw [List.length_map]
                    exact Nat.lt_of_le_of_lt (m := 60) (by omega) (by decide)
                  · rw [upd_same, List.map_append]
                    rfl
                  · rw [List.length_append, hlq]
                    rfl
                  · by_cases hjl : j < qs.length
                    · rw [List.getElem?_append_left hjl] at hq1
                      have h5 := hq j q u hq1 hu
                      have hne : q ≠ D := fun e => by
                        rw [e, hD] at h5
                        injection h5 with h5
                        injection h5 with h5
                        cases qs with
                        | nil => cases h5
                        | cons a r =>
                          injection h5 with h5
                          cases h5
                      rw [upd_ne hne]
                      exact sm2 _ _ h5
                    · have hji : j = qs.length := by
                        have := (List.getElem?_eq_some_iff.mp hq1).1
                        rw [List.length_append] at this
                        simp at this
                        omega
                      subst hji
                      rw [List.getElem?_append_right (Nat.le_refl _), Nat.sub_self] at hq1
                      cases hq1
                      rw [hlq] at hu
                      obtain rfl : t = u := Option.some.inj (ht.symm.trans hu)
                      have hne : D2 ≠ D := fun e => by rw [e, hD] at nD2; cases nD2
                      rw [upd_ne hne]
                      exact hD2
              · rintro H5 ⟨sm, qs, hD, hlq, hq⟩
                have fl : fs'.length = ts.length := by
                  have := Lt.len
                  unfold fmD at this
                  rw [List.length_map] at this
                  exact this
                refine ⟨_, rfl, D, rfl, ⟨_, .inl (.inl hD)⟩, fun D3 nD3 => lc_it (walk_list (xs := qs.map V.ref)) (fun i H' => ∃ gs, LD K H5 H' D3 gs (fmD ((ts.map (lrn lo hi)).take i)))
                  ⟨[], by rw [List.take_zero]; exact LD.nil nD3⟩ (fun i H' _ hp => .inl (.inl (hp.elim fun _ z => z.same _ _ hD))) ?_ ?_⟩
                · rintro i x H6 H7 hi2 ⟨gs, Lg⟩ ⟨rfl, hx⟩
                  rw [List.getElem?_map] at hx
                  obtain ⟨q, hq1, rfl⟩ := Option.map_eq_some_iff.mp hx
                  have hit : i < ts.length := by
                    rw [List.length_map] at hi2
                    omega
                  have ht : ts[i]? = some ts[i] := List.getElem?_eq_getElem hit
                  generalize ts[i] = t at ht
                  have h5 := Lg.same _ _ (hq i q t hq1 ht)
                  have hsq : SqL K H7 q [.int (rn lo hi t.s : Nat), .str (chS t.a), .int (rn lo hi t.e : Nat)] := .inl (.inl h5)
                  refine ⟨rfl, yesT ?_⟩
                  refine ⟨_, rfl, q, _, 0, _, rfl, rfl, hsq, rfl, _, rfl, q, _, 1, _, rfl, rfl, hsq, rfl, _, rfl, q, _, 2, _, rfl, rfl, hsq, rfl, ln3 _ _ _, fun p9 n9 => ?_⟩
                  have Lh := Lg.new (o := .tup [.int (rn lo hi t.s : Nat), .str (chS t.a), .int (rn lo hi t.e : Nat)]) n9
                  have gl : gs.length < sizeLine := by
                    rw [Lg.len]
                    unfold fmD
                    rw [List.length_map, List.length_take, List.length_map]
                    exact Nat.lt_of_le_of_lt (m := 60) (by omega) (by decide)
                  refine ⟨gs, Lh.at_, gl, gs ++ [.ref p9], ?_⟩
                  have et : (ts.map (lrn lo hi)).take (i + 1) = (ts.map (lrn lo hi)).take i ++ [lrn lo hi t] := by
                    rw [List.take_add_one, List.getElem?_map, ht]
                    rfl
                  rw [et]
                  unfold fmD
                  rw [List.map_append]
                  exact Lh.push nD3 (k3_mk (t := lrn lo hi t) (.inl (.inl upd_same)))
                · rintro H6 ⟨gs, Lg⟩
                  rw [List.take_of_length_le (by rw [List.length_map, List.length_map]; omega)] at Lg
                  have S5 := Lt.same.trans sm
                  refine ⟨_, _, _, _, _, _, _, _, _, _, D3, gs, ts.map (lrn lo hi), rfl, S5.free nD3, ⟨S5.trans Lg.same, Lg.at_, Lg.dt⟩, U2, lrn4 l4, lrn_m, by rw [List.length_map]; exact tl, .inr ?_⟩
                  rcases hv with h | h
                  · rw [hc] at h
                    cases h
                  · omega
      · rintro σ H2 ⟨y3, y4, y5, y6, y7, y8, y9, y10, y11, y12, p', fs', ts, rfl, np', Lq, U, l4, hm, tl, hv⟩
        have hcn : G1.clash ts = none := by
          rcases hv with h | h
          · exact h
          · cases hc : G1.clash ts with
            | none => rfl
            | some oq =>
              have := (lund_step U (clash_some hc)).2
              omega
        obtain ⟨ks, rfl, ek, hk⟩ := ks_of Lq.dt
        have kl : ks.length = ts.length := by
          have := congrArg List.length ek
          rw [List.length_map, List.length_map] at this
          exact this
        refine ⟨_, rfl, p', ks, rfl, .inl (.inl Lq.at_), hk, by omega, fun a L na lL sub all => ?_⟩
        have sa := same_upd (o := SO3 P w a L) na
        refine ⟨a, L, L.map fun p => (V.ref p.1, deK p.2), rfl, upd_same, by rw [List.map_map]; rfl, fun b hb => ?_, ?_, fun bs' l' pm pw nl' => ?_⟩
        · obtain ⟨p2, hp2, rfl⟩ := List.mem_map.mp hb
          have h1 : p2.2 ∈ ts.map key3 := by rw [← ek]; exact List.mem_map.mpr ⟨p2, sub p2 hp2, rfl⟩
          obtain ⟨t, ht, e2⟩ := List.mem_map.mp h1
          have h2 := hk p2 (sub p2 hp2)
          rw [← e2] at h2
          show Dp K _ (V.ref p2.1) (Datum.toD (deK p2.2))
          rw [← e2, deK3]
          exact ((k3_mk (t := t) h2).move (kp_same sa)).dp
        · omega
        · obtain ⟨us, hus, mem, ul⟩ := out3 (H' := upd (upd H2 a (SO3 P w a L)) l' (.lst (bs'.map (·.1)))) hm ek hk sub all (sa.trans (same_upd nl')) pm
          refine q _ l' _ us ((Lq.same.trans sa).trans (same_upd nl')) ((Lq.same.trans sa).free nl') upd_same hus (U.fldM hcn mem) (fun t ht => l4 t ((mem t).mp ht)) ?_
          omega
end
end G1
set_option Elab.async false
set_option linter.all false
set_option maxRecDepth 100000
set_option maxHeartbeats 4000000
/-! the text's facts from the head's -/
namespace G1
open PySem PySem.Spec PyProof.Rows L2
theorem isB_ok {K : PySem.W.Frag} {x : Str} (h : isB K x = true) : IsiOk K (He.ga K x) := by
  obtain ⟨h1, h⟩ := He.ba h
  obtain ⟨h2, h⟩ := He.ba h
  obtain ⟨h3, h⟩ := He.ba h
  obtain ⟨h4, h5⟩ := He.ba h
  exact ⟨He.eqO_ok h1, He.eqO_ok h2, of_decide_eq_true h3, of_decide_eq_true h4, of_decide_eq_true h5⟩
section
variable {w : World} {K : PySem.W.Frag} {h : Heap} {mg : Str → Option Value}
theorem hdD (X : K.In h) (G : h.Ns mainGlobals mg) (c : He.SaysD faA fnA K) (i j : Nat) {x : Str} {n : Nat} (hd : fnA[i]? = some (dG x n) := by rfl) (hf : faA[j]? = some (.glo x) := by rfl) : DefAt K mg x (top n) := by
  obtain ⟨fd, F⟩ := c.def_ i hd
  exact ⟨_, fd, F, He.glo_ok X G (c.fact j hf)⟩
theorem hdM (c : He.SaysD faA fnA K) (i j : Nat) {C m q : Str} {n k : Nat} (hd : fnA[i]? = some (dM C m q n k) := by rfl) (hf : faA[j]? = some (.meth C m) := by rfl) : MetAt K (He.ga K C) m q (inClass (top n) k) := by
  obtain ⟨fd, F⟩ := c.def_ i hd
  exact ⟨_, fd, F, He.meth_ok (c.fact j hf)⟩
theorem hdI (c : He.SaysD faA fnA K) (i j : Nat) {C q : Str} {n k : Nat} (hd : fnA[i]? = some (dM C "__init__" q n k) := by rfl) (hf : faA[j]? = some (.mkr C) := by rfl) : ∃ f fd, FnP K "__init__" q (inClass (top n) k) f fd ∧ L2.Mk K (He.ga K C) f := by
  obtain ⟨fd, F⟩ := c.def_ i hd
  exact ⟨_, fd, F, He.mkr_ok (c.fact j hf)⟩
theorem hdP (m : exA K = true) (e : prO K = prV) (i : Nat) {p : PrD} (hp : prs[i]? = some p := by rfl) : ∃ a g fd, FunD K p.d.name p.d.qual p.d.params p.d.body p.d.scope [] [] g fd ∧ PropOf K (He.ga K p.C) p.m a g := by
  have e2 : (prO K)[i]? = prV[i]? := by rw [e]
  unfold prO prV at e2
  rw [List.getElem?_map, List.getElem?_map, hp] at e2
  exact prB_ok (List.all_eq_true.mp (He.ba m).1 p (List.mem_of_getElem? hp)) (Option.some.inj e2)
theorem free_all (X : K.In h) (G : h.Ns mainGlobals mg) (c : He.SaysD faA fnA K) : ∀ x ∈ blN, mg x = none := fun x hx => He.free_ok X G (c.facts (List.mem_append_right _ (List.mem_append_right _ (List.mem_append_left _ (List.mem_map.mpr ⟨x, hx, rfl⟩)))))
theorem tx_of (X : K.In h) (G : h.Ns mainGlobals mg) (cx : He.SaysX faA fnA [] [] exA w h K) (e : prO K = prV) : Tx K mg (He.ga K "Fold") (He.ga K "Row") (He.ga K "RowLot") := by
  have c := cx.t.d
  have m := cx.more
  exact {
    undone_letter := hdD X G c 0 0
    struck := hdD X G c 1 1
    told_tie := hdD X G c 2 2
    back_tie := hdD X G c 3 3
    undone_marks := hdD X G c 4 4
    joined_marks := hdD X G c 5 5
    folded := hdD X G c 6 6
    unlike_ties := hdD X G c 7 7
    steps_of := hdD X G c 8 8
    letters_of := hdD X G c 9 9
    met_words := hdD X G c 10 10
    numbered := hdD X G c 11 11
    marked := hdD X G c 12 12
    gone_word := hdD X G c 13 13
    is_integer := hdD X G c 14 14
    is_within := hdD X G c 15 15
    is_word := hdD X G c 16 16
    is_small_row := hdD X G c 17 17
    check_row_lot := hdD X G c 18 18
    letters_in := hdD X G c 19 19
    check_row_lots := hdD X G c 20 20
    row_form_of := hdD X G c 21 21
    form_has_row := hdD X G c 22 22
    row_form := hdD X G c 23 23
    same_rows := hdD X G c 24 24
    rows_within := hdD X G c 25 25
    needless_rows := hdD X G c 26 26
    l_till := hdD X G c 27 27
    l_pay := hdD X G c 28 28
    l_coin := hdD X G c 29 29
    l_flip := hdD X G c 30 30
    l_struck := hdD X G c 31 31
    l_undo := hdD X G c 32 32
    l_drawn := hdD X G c 33 33
    l_goes := hdD X G c 34 34
    l_met := hdD X G c 35 35
    l_table := hdD X G c 36 36
    l_ringed := hdD X G c 37 37
    l_words := hdD X G c 38 38
    l_clash := hdD X G c 39 39
    l_folded := hdD X G c 40 40
    l_ends := hdD X G c 41 41
    l_walk := hdD X G c 42 42
    l_presses := hdD X G c 43 43
    l_lot := hdD X G c 44 44
    l_other := hdD X G c 45 45
    l_is_within := hdD X G c 46 46
    l_pair_right := hdD X G c 47 47
    l_needless_right := hdD X G c 48 48
    l_right := hdD X G c 49 49
    b := free_all X G c
    cF := He.cls_ok (c.fact 73 (f := .cls "Fold"))
    cR := He.cls_ok (c.fact 74 (f := .cls "Row"))
    cL := He.cls_ok (c.fact 75 (f := .cls "RowLot"))
    fInit := hdI c 51 76
    fAdd := hdM c 52 79
    fClash := hdM c 53 80
    fJoin := hdM c 54 81
    rLen := hdM c 56 82
    rStr := hdM c 57 83
    rInit := hdI c 55 77
    lInit := hdI c 58 78
    rLetters := let ⟨a, g, fd, F, p⟩ := hdP m e 0 (p := ⟨"Row", "letters", dM "Row" "letters" "Row.letters" 37 2⟩); ⟨a, g, fd, F, p⟩
    rWord := let ⟨a, g, fd, F, p⟩ := hdP m e 1 (p := ⟨"Row", "word", dM "Row" "word" "Row.word" 37 3⟩); ⟨a, g, fd, F, p⟩
    lChanges := let ⟨a, g, fd, F, p⟩ := hdP m e 2 (p := ⟨"RowLot", "changes", dM "RowLot" "changes" "RowLot.changes" 40 2⟩); ⟨a, g, fd, F, p⟩
    iR := isB_ok (He.ba (He.ba m).2).1
    iL := isB_ok (He.ba (He.ba m).2).2
    nFt := He.noat_ok (c.fact 84 (f := .noat "Fold" "ties"))
    nFm := He.noat_ok (c.fact 85 (f := .noat "Fold" "many"))
    nRm := He.noat_ok (c.fact 86 (f := .noat "Row" "many"))
    nRh := He.noat_ok (c.fact 87 (f := .noat "Row" "held"))
    nLc := He.noat_ok (c.fact 88 (f := .noat "RowLot" "own_changes"))
    nLt := He.noat_ok (c.fact 89 (f := .noat "RowLot" "own_text"))
    gML := He.int_ok X G (c.fact 90 (f := .int "MOST_LETTERS" 4))
    gMR := He.int_ok X G (c.fact 91 (f := .int "MOST_ROW" 400))
    gMS := He.int_ok X G (c.fact 92 (f := .int "MOST_SMALL_ROW" 12))
    gMT := He.int_ok X G (c.fact 93 (f := .int "MOST_TOLD" 5))
    gLE := He.str_ok X G (c.fact 94 (f := .str "LETTERS" "abcd"))
    gF := He.glo_ok X G (c.fact 51 (f := .glo "Fold"))
    gR := He.glo_ok X G (c.fact 52 (f := .glo "Row"))
    gL := He.glo_ok X G (c.fact 53 (f := .glo "RowLot")) }
theorem law_at (X : K.In h) (G : h.Ns mainGlobals mg) (cx : He.SaysX faA fnA [] [] exA w h K) : DefAt K mg "law" (top 75) := hdD X G cx.t.d 50 50
end
end G1
set_option Elab.async false
set_option linter.all false
set_option maxRecDepth 100000
set_option maxHeartbeats 4000000
/-! the end -/
namespace G1
open PySem PySem.Spec PyProof.Rows _root_.L2
/-- the script alone, as an object known to its address -/
def oneH (a : Addr) (o : Obj) (xs : List V) : Hp := fun b => if b = a then some (.frz o (.lst xs)) else none
theorem oneH_at {a : Addr} {o : Obj} {xs : List V} : oneH a o xs a = some (.frz o (.lst xs)) := if_pos rfl
theorem oneH_off {a b : Addr} {o : Obj} {xs : List V} (h : b ≠ a) : oneH a o xs b = none := if_neg h
theorem oneH_inv {a b : Addr} {o : Obj} {xs : List V} {u : HO} (h : oneH a o xs b = some u) : b = a ∧ u = .frz o (.lst xs) := by
  by_cases e : b = a
  · subst e
    rw [oneH_at] at h
    exact ⟨rfl, (Option.some.inj h).symm⟩
  · rw [oneH_off e] at h
    cases h
section
variable {P : Program} {w : World} {K : PySem.W.Frag} {mg mb : Str → Option Value} {k : Nat} {fa a : Addr} {fd : FuncData} {x : Str} {sp : Sp} {s : Shared} {vs : List Value} {ns : List Int}
/-- a call from a heap of which no more than the script is told -/
theorem callG_core (KX : K.In s.heap) (hns : s.heap.Ns mainGlobals mg) (hb : s.heap.Ns builtinsNs mb) (hbb : ∀ x : Str, x ≠ "__name__" → mb x = bootBuiltins x) (hlim : s.heap.NoLimit) (hg : s.gens = #[]) (hr : Room k callerA)
    (F : ∀ base : Heap, K.In base → base.Ns mainGlobals mg → FnG P w K mg base k fa fd [x] sp) (hbind : ∀ (s : Shared) (u : Value), BindsTo s fd ⟨[u], []⟩ [(x, u)])
    (H : Hp) (hO : Only H) (hok : HOk P w H s.heap) (free : ∀ b o, s.heap.get? b = some o → (K.lookup b = some o ∨ ∃ es ep, o.data = .dict es ep) → H b = none)
    (hsp : sp [.ref a] H (fun v _ => v = .bl true) fun _ _ _ => False) :
    codeAny (model P w) callerA (.call (.ref fa) ⟨[.ref a], []⟩) (fun r s' => r = .ok (.ret (.bool true)) ∧ OldK s.heap s'.heap ∧ s'.os = s.os ∧ AllBare s'.gens) s := by
  have nsB : ∀ {b : Addr} {m : Str → Option Value}, s.heap.Ns b m → (hidT s.heap H).Ns b m := fun {b m} z => by
    obtain ⟨o, es, ep, e, d, r⟩ := z
    exact ⟨o, es, ep, hidT_get e (free _ _ e (.inr ⟨es, ep, d⟩)), d, r⟩
  have kB : K.In (hidT s.heap H) := fun b o e => hidT_get (KX b o e) (free _ _ (KX b o e) (.inl e))
  have md : Mod K mg (hidT s.heap H) := by
    refine ⟨kB, nsB hns, ⟨mb, nsB hb, hbb⟩, ?_⟩
    obtain ⟨mc, l1, l2⟩ := hlim
    exact ⟨mc, nsB l1, l2⟩
  have e0 : Env0 P w K mg (hidT s.heap H) callerA [] s H := by
    refine ⟨rfl, md, fun b o e => of_hidT e, Nat.le_of_eq (hidT_size _ _), trivial, fun b z => ?_, hok, .of_eq hg⟩
    exact absurd (show b ∈ ([] : List Addr) from z) List.not_mem_nil
  refine codeAny_mono ((F _ kB (nsB hns)).run callerA [] s H ⟨[.ref a], []⟩ [.ref a] [.ref a] _ _ hr rfl e0 (hbind s (.ref a)) (.cons rfl .nil) hsp) fun r s' z => ?_
  cases r with
  | error e => exact False.elim z
  | ok fl =>
    cases fl with
    | ret u =>
      obtain ⟨v, H', os, bare, un, hok', rv, q⟩ := z
      have q2 : v = .bl true := q
      subst q2
      obtain rfl : u = Value.bool true := rv
      refine ⟨rfl, OldK.of_keep fun b o e => ?_, os, bare⟩
      cases hHb : H b with
      | none => exact un.keep b o e hHb (fun y => absurd (show b ∈ ([] : List Addr) from y) List.not_mem_nil) List.not_mem_nil
      | some u =>
        rcases hO b with y | ⟨ob, xs, y⟩
        · rw [hHb] at y
          cases y
        · have g1 := (hok b _ y).1
          have g2 := (hok' b _ (un.frzs b ob _ y)).1
          rw [e] at g1
          rw [Option.some.inj g1]
          exact g2
    | next => exact z.elim
    | brk => exact z.elim
    | cont => exact z.elim
theorem callG (KX : K.In s.heap) (hns : s.heap.Ns mainGlobals mg) (hb : s.heap.Ns builtinsNs mb) (hbb : ∀ x : Str, x ≠ "__name__" → mb x = bootBuiltins x) (hlim : s.heap.NoLimit) (hg : s.gens = #[])
    (ha : s.heap.get? a = some { cls := .type "list", data := .seq vs.toArray }) (hi : IntsAre vs ns) (hl : ns.length ≤ sizeLine) (hr : Room k callerA)
    (F : ∀ base : Heap, K.In base → base.Ns mainGlobals mg → FnG P w K mg base k fa fd [x] sp) (hbind : ∀ (s : Shared) (u : Value), BindsTo s fd ⟨[u], []⟩ [(x, u)])
    (hsp : ∀ H : Hp, SqL K H a (ns.map V.int) → sp [.ref a] H (fun v _ => v = .bl true) fun _ _ _ => False) :
    codeAny (model P w) callerA (.call (.ref fa) ⟨[.ref a], []⟩) (fun r s' => r = .ok (.ret (.bool true)) ∧ OldK s.heap s'.heap ∧ s'.os = s.os ∧ AllBare s'.gens) s := by
  have rel : Vals (ns.map V.int) vs := vals_ints hi
  cases hk : K.lookup a with
  | some o =>
    have e := KX a o hk
    rw [ha] at e
    cases e
    refine callG_core KX hns hb hbb hlim hg hr F hbind (fun _ => none) (fun _ => .inl rfl) (fun b u z => nomatch (show (none : Option HO) = some u from z)) (fun _ _ _ _ => rfl) (hsp _ (.inr ⟨_, vs.toArray, _, hk, rfl, rfl, rfl, ?_, by simpa using rel⟩))
    rw [List.size_toArray, hi.length]
    exact hl
  | none =>
    refine callG_core KX hns hb hbb hlim hg hr F hbind (oneH a { cls := .type "list", data := .seq vs.toArray } (ns.map V.int)) (fun b => ?_) (fun b u z => ?_) (fun b o e z => ?_) (hsp _ (.inl (.inr ⟨_, oneH_at⟩)))
    · by_cases e : b = a
      · exact .inr ⟨_, _, by rw [e]; exact oneH_at⟩
      · exact .inl (oneH_off e)
    · obtain ⟨rfl, rfl⟩ := oneH_inv z
      exact ⟨ha, by rw [List.length_map]; exact hl, vs, _, rel, ha⟩
    · refine oneH_off fun eb => ?_
      subst eb
      rw [ha] at e
      cases e
      rcases z with z | ⟨es, ep, z⟩
      · rw [hk] at z
        cases z
      · cases z
end
/-- the law, over a head by facts, its def one that may look at the guards -/
theorem walkG {l : PySem.W.OpenLaw} {n k : Nat} {q : Program} {loose : List Str} {XP : (Str → Option Value) → Heap → Prop} {YP : World → Heap → Prop} {d : DefRec} {x : Str}
    (hn : l.most = some n) (hn2 : n ≤ sizeLine) (hdf : d.params.defaults = []) (hr : Room k callerA)
    (F : ∀ (w : World) (mg : Str → Option Value) (fa : Addr) (h : Heap), YP w h → h.Ns mainGlobals mg → mg d.name = some (.ref fa) →
      ∃ (K : PySem.W.Frag) (fd : FuncData) (sp : Sp), K.In h ∧ (∀ (s : Shared) (u : Value), BindsTo s fd ⟨[u], []⟩ [(x, u)]) ∧
        (∀ (H : Hp) (a : Addr) (ns : List Int), ns.length ≤ n → SqL K H a (ns.map V.int) → sp [.ref a] H (fun v _ => v = .bl true) fun _ _ _ => False) ∧
        ∀ base : Heap, K.In base → base.Ns mainGlobals mg → FnG l.prog w K mg base k fa fd [x] sp) :
    PySem.W.WalkO q loose XP YP l.row.toRowW d [] (fun f vs => PySem.call f vs) := by
  refine Att.attach_call hn hdf fun w s₀ s₁ mg mb fa o pm cd doc a vs ns G Y ho hd hcd hmg hobj hints hlen hg => ?_
  obtain ⟨K, fd, sp, KX, hb, hsp, hF⟩ := F w mg fa _ Y G.T.g hmg
  exact callG KX G.T.g G.T.b G.T.builtins G.T.nolimit hg hobj hints (Nat.le_trans hlen hn2) hr hF hb fun H hS => hsp H a ns hlen hS
theorem law_facts {P : Program} {w : World} {K : PySem.W.Frag} {h : Heap} {mg : Str → Option Value} {fa : Addr} (X : K.In h) (G : h.Ns mainGlobals mg) (hfa : mg ("law" : Str) = some (.ref fa)) (cx : He.SaysX faA fnA [] [] exA w h K) (e : prO K = prV) :
    ∃ fd : FuncData, (∀ (s : Shared) (u : Value), BindsTo s fd ⟨[u], []⟩ [("_law_cells", u)]) ∧ ∀ base : Heap, K.In base → base.Ns mainGlobals mg → FnG P w K mg base 14 fa fd ["_law_cells"] (spLaw K) := by
  have T := tx_of X G cx e
  obtain ⟨f, fd, D, hm⟩ := law_at X G cx
  have ef : f = fa := by
    rw [hm] at hfa
    injection hfa with z
    injection z
  subst ef
  have b := FunD.bindsA (ps := ["_law_cells"]) D fun _ _ _ _ _ _ us hl => match us, hl with | [_], _ => rfl
  exact ⟨fd, fun s v => b s [v] rfl, fun base _ _ => c_law T D (c_lfolded T) (c_lwords T)⟩
end G1
open PySem PySem.W PySem.Calls PyProof.Rows
theorem PySem.Challenge.cw_pressworlds_k16_whole_row_lots_within_an_holds : PySem.Challenge.rw_pressworlds_k16_whole_row_lots_within_an.Holds := by
  w_on; o_law
  refine HandSHeadRun.head_any (r := G1.RR) (q := view G1.RR.prog [75]) (H := G1.hkP) (ob := G1.obA) (M := 12000) (loose := G1.nm0 ++ (G1.nm1 ++ G1.nm2)) (d := HandSHeadRun.topDef G1.RR.prog 75) (kwd := []) G1.obA_eq
    (by kernel_rfl) (fun s => by kernel_rfl) G1.runA (by kernel_rfl) (by kernel_rfl) (by kernel_rfl) (by rfl) (by first | assumption | decide +kernel) (by decide +kernel) ⟨rfl, rfl, rfl, rfl, rfl, by decide +kernel⟩ ?hw ?hc
  case hw => w_witness2
  case hc =>
    refine G1.walkG (l := G1.RWL) (n := 63) (k := 14) (x := "_law_cells") rfl (by decide) (by kernel_rfl) ⟨rfl, by decide, by decide⟩ ?F
    intro w mg fa h Y G hmg0
    obtain ⟨K, KX, c, e⟩ := Y
    have hmg : mg ("law" : PySem.Str) = some (.ref fa) := by
      have e : (HandSHeadRun.topDef G1.RR.prog 75).name = ("law" : PySem.Str) := by kernel_rfl
      rw [← e]
      exact hmg0
    obtain ⟨fd, hb, hF⟩ := G1.law_facts (P := G1.RWL.prog) (w := w) KX G hmg c e
    exact ⟨K, fd, G1.spLaw K, KX, hb, fun H a ns hl hS => ⟨a, ns, rfl, hS, by omega, fun _ => rfl⟩, hF⟩
