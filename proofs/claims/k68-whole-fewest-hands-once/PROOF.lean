import PyProof.Rows.All
import Wide.All
import OpenK.AllK
import Wide.FinOn
import HandS.ForMost
import HandS.More
import HandS.WordsExc
import HandS.Defaults
import HandS.HeadHook1
import HandS.HeadHook2
import HandS.HeadHook3
import HandS.HeadHook4
import KE.KStateDown
import Lean
import HandS.Head0
import HandS.Head1
import HandS.Head2
import HandS.HeadEnd
import KE.KDictKeyed
import KE.KDictDisplayH
import KE.KDictSum
import KE.SortData
import HandS.Deep
import HandS.TupAny
import HandS.Style
import HandS.SortInts
import HandS.Conv
import HandS.IsInst
import HandS.Codes
import HandS.DictComp
import HandS.SetFor
import HandS.Strs
import KE.DataMinMax
import KE.GoesMore
import HandS.Wide
import HandS.Steps
import HandS.Walk
import PySem.Challenge.RW_wholewalks_k68_whole_fewest_hands_once
set_option Elab.async false
set_option linter.all false
set_option maxRecDepth 100000
set_option maxHeartbeats 4000000
-- G6Tx
namespace G6
open PySem PySem.Spec PyProof.Rows L2
/-! ### the text by places -/
def top (i : Nat) : Stmt := PySem.Challenge.pw_wholewalks_k68_whole_fewest_hands_once.main.body.getD i (.Pass ⟨0, 0, 0, 0⟩)
abbrev s_is_integer : Stmt := top 7
abbrev s_is_within : Stmt := top 8
abbrev s_is_string_of : Stmt := top 9
abbrev s_is_word : Stmt := top 10
abbrev s_are_nexts : Stmt := top 16
abbrev s_is_say : Stmt := top 17
abbrev s_is_item : Stmt := top 18
abbrev s_with_row : Stmt := top 19
abbrev s_steps_of : Stmt := top 20
abbrev s_all_steps : Stmt := top 21
abbrev s_idle_ring : Stmt := top 22
abbrev s_event_of : Stmt := top 25
abbrev s_lines_of : Stmt := top 27
abbrev s_turned : Stmt := top 28
abbrev s_finished : Stmt := top 29
abbrev s_lots_of : Stmt := top 30
abbrev s_rows_in : Stmt := top 31
abbrev s_kept_pieces : Stmt := top 32
abbrev s_pairs_among : Stmt := top 33
abbrev s_web : Stmt := top 34
abbrev s_dealt_on : Stmt := top 36
abbrev s_hues : Stmt := top 37
abbrev s_fewest_hands : Stmt := top 38
abbrev s_way_across : Stmt := top 40
abbrev s_way_back : Stmt := top 41
abbrev s_is_across : Stmt := top 42
abbrev s_crosses : Stmt := top 43
abbrev s_fewest_once : Stmt := top 44
abbrev s_least_once : Stmt := top 45
abbrev s_law_pot : Stmt := top 47
abbrev s_law_draw : Stmt := top 48
abbrev s_law_mixed : Stmt := top 49
abbrev s_law_drawn_table : Stmt := top 50
abbrev s_law_steps : Stmt := top 51
abbrev s_law_phases : Stmt := top 52
abbrev s_law_is_idle : Stmt := top 53
abbrev s_law_renamed : Stmt := top 54
abbrev s_law_spec : Stmt := top 55
abbrev s_law_is_int : Stmt := top 56
abbrev s_law_way_across : Stmt := top 57
abbrev s_law_crosses : Stmt := top 58
abbrev s_law_is_apart : Stmt := top 59
abbrev s_law_ring_spec : Stmt := top 60
abbrev s_law_dealings : Stmt := top 61
abbrev s_law : Stmt := top 62
abbrev s_init : Stmt := inClass (top 23) 0
abbrev s_keep : Stmt := inClass (top 23) 1
abbrev FnP (K : PySem.W.Frag) (x : Str) (st : Stmt) (f : Addr) (fd : FuncData) : Prop := FunD K x x (defArgs st) (defBody st) (defScope st) [] [] f fd
abbrev FnQ (K : PySem.W.Frag) (x q : Str) (st : Stmt) (f : Addr) (fd : FuncData) : Prop := FunD K x q (defArgs st) (defBody st) (defScope st) [] [] f fd
/-! ### facts by names -/
def mkD (x : Str) (st : Stmt) : He.DefD := ⟨(x, none), x, x, defArgs st, defBody st, defScope st, [], []⟩
def mkM (x q : Str) (st : Stmt) : He.DefD := ⟨("Plan", some x), x, q, defArgs st, defBody st, defScope st, [], []⟩
def fn0 : List He.DefD := [mkD "is_integer" s_is_integer, mkD "is_within" s_is_within, mkD "is_string_of" s_is_string_of, mkD "is_word" s_is_word, mkD "are_nexts" s_are_nexts, mkD "is_say" s_is_say, mkD "is_item" s_is_item, mkD "with_row" s_with_row, mkD "steps_of" s_steps_of, mkD "all_steps" s_all_steps, mkD "idle_ring" s_idle_ring, mkD "event_of" s_event_of, mkD "lines_of" s_lines_of, mkD "turned" s_turned, mkD "finished" s_finished, mkD "lots_of" s_lots_of, mkD "rows_in" s_rows_in, mkD "kept_pieces" s_kept_pieces, mkD "pairs_among" s_pairs_among, mkD "web" s_web]
def fn1 : List He.DefD := [mkD "dealt_on" s_dealt_on, mkD "hues" s_hues, mkD "fewest_hands" s_fewest_hands, mkD "way_across" s_way_across, mkD "way_back" s_way_back, mkD "is_across" s_is_across, mkD "crosses" s_crosses, mkD "fewest_once" s_fewest_once, mkD "least_once" s_least_once, mkD "_law_pot" s_law_pot, mkD "_law_draw" s_law_draw, mkD "_law_mixed" s_law_mixed, mkD "_law_drawn_table" s_law_drawn_table, mkD "_law_steps" s_law_steps, mkD "_law_phases" s_law_phases, mkD "_law_is_idle" s_law_is_idle, mkD "_law_renamed" s_law_renamed, mkD "_law_spec" s_law_spec, mkD "_law_is_int" s_law_is_int, mkD "_law_way_across" s_law_way_across]
def fn2 : List He.DefD := [mkD "_law_crosses" s_law_crosses, mkD "_law_is_apart" s_law_is_apart, mkD "_law_ring_spec" s_law_ring_spec, mkD "_law_dealings" s_law_dealings, mkD "law" s_law]
def fnM : List He.DefD := [mkM "__init__" "Plan.__init__" s_init, mkM "keep" "Plan.keep" s_keep]
def fn : List He.DefD := fnM ++ (fn0 ++ (fn1 ++ (fn2)))
def fg0 : List He.Fa := [.glo "is_integer", .glo "is_within", .glo "is_string_of", .glo "is_word", .glo "are_nexts", .glo "is_say", .glo "is_item", .glo "with_row", .glo "steps_of", .glo "all_steps", .glo "idle_ring", .glo "event_of", .glo "lines_of", .glo "turned", .glo "finished", .glo "lots_of", .glo "rows_in", .glo "kept_pieces", .glo "pairs_among", .glo "web", .glo "dealt_on", .glo "hues", .glo "fewest_hands", .glo "way_across", .glo "way_back"]
def fg1 : List He.Fa := [.glo "is_across", .glo "crosses", .glo "fewest_once", .glo "least_once", .glo "_law_pot", .glo "_law_draw", .glo "_law_mixed", .glo "_law_drawn_table", .glo "_law_steps", .glo "_law_phases", .glo "_law_is_idle", .glo "_law_renamed", .glo "_law_spec", .glo "_law_is_int", .glo "_law_way_across", .glo "_law_crosses", .glo "_law_is_apart", .glo "_law_ring_spec", .glo "_law_dealings", .glo "law"]
def ff : List He.Fa := [.free "isinstance", .free "int", .free "bool", .free "str", .free "tuple", .free "len", .free "all", .free "any", .free "sorted", .free "list", .free "range", .free "max", .free "min", .free "sum", .free "abs", .free "set", .free "enumerate"]
def fc : List He.Fa := [.glo "Plan", .cls "Plan", .mkr "Plan", .meth "Plan" "keep", .noat "Plan" "rows", .noat "Plan" "letters", .noat "Plan" "table", .noat "Plan" "kept_phases", .glo "FIRST_PHASE", .int "MOST_ROWS" 6, .int "MOST_STANDINGS" 30, .str "LETTERS" "abc", .str "SMALL" "abcdefghijklmnopqrstuvwxyz", .str "END" "end"]
def fa : List He.Fa := fg0 ++ (fg1 ++ (ff ++ (fc)))
/-- the first phase: a written tuple (0, ()) -/
def inner (K : PySem.W.Frag) : Addr := match K.lookup (He.ga K "FIRST_PHASE") with
  | some ⟨_, _, .seq its _, _⟩ => (match its.toList with
    | [_, .ref b] => b
    | _ => 0)
  | _ => 0
def tupAt (K : PySem.W.Frag) (a : Addr) (vs : List V) : Bool := match K.lookup a with
  | some ⟨.type c, _, .seq its _, _⟩ => decide (c = "tuple") && (decide (its.size ≤ sizeLine) && He.relAll vs its.toList)
  | _ => false
def exF (K : PySem.W.Frag) : Bool := tupAt K (He.ga K "FIRST_PHASE") [.int 0, .ref (inner K)] && tupAt K (inner K) []
theorem tupAt_ok {K : PySem.W.Frag} {a : Addr} {vs : List V} (h : tupAt K a vs = true) (H : Hp) : SqT K H a vs := by
  unfold tupAt at h
  split at h
  · rename_i c od its n sl q
    obtain ⟨h1, h2⟩ := He.ba h
    obtain ⟨h2, h3⟩ := He.ba h2
    have e1 : c = "tuple" := of_decide_eq_true h1
    subst e1
    exact .inr ⟨_, its, n, q, rfl, rfl, of_decide_eq_true h2, He.relAll_ok h3⟩
  · cases h
end G6

-- G6Hd
namespace G6
open PySem PySem.Spec PyProof.Rows L2
abbrev R : PySem.W.OpenRow := PySem.W.OpenLaw.row PySem.Challenge.rw_wholewalks_k68_whole_fewest_hands_once
abbrev hk : PySem.W.Hook := He.hookX 4 fa fn [] [] exF
def ob (s : PySem.W.SharedT) : He.AlX := He.obsX 4 fa fn [] [] exF (HandSHeadRun.getT s)
theorem ob_eq (s : PySem.W.SharedT) : ob s = hk.obs s.abs := He.obsX_eq (HandSHeadRun.getT_eq s)
def nm0 : List PySem.Str := ["WalkError", "BadPlan", "Idle", "LETTERS", "SMALL", "is_integer", "is_within", "is_string_of", "is_word", "END", "MOST_ROWS", "MOST_STANDINGS", "FIRST_PHASE", "are_nexts", "is_say", "is_item", "with_row", "steps_of", "all_steps", "idle_ring", "Plan", "event_of", "lines_of", "turned", "finished", "lots_of", "rows_in", "kept_pieces", "pairs_among", "web"]
def nm1 : List PySem.Str := ["dealt_on", "hues", "fewest_hands", "way_across", "way_back", "is_across", "crosses", "fewest_once", "least_once", "_law_pot", "_law_draw", "_law_mixed", "_law_drawn_table", "_law_steps", "_law_phases", "_law_is_idle", "_law_renamed", "_law_spec", "_law_is_int", "_law_way_across", "_law_crosses", "_law_is_apart", "_law_ring_spec", "_law_dealings"]
def nms : List PySem.Str := nm0 ++ (nm1)
set_option maxHeartbeats 0 in
theorem run (w : World) : HandSHeadRun.RunEq R (PySem.W.view R.prog [62]) hk ob 3000 nms w := by
  intro os
  kernel_rfl
end G6

-- G6La
namespace G6
open PySem PySem.Spec PyProof.Rows L2

/-! ### what stays: tuples -/
structure Tk (H H' : Hp) : Prop where
  tup : ∀ a xs, H a = some (.tup xs) → H' a = some (.tup xs)
  frz : ∀ a o xs, H a = some (.frz o (.tup xs)) → H' a = some (.frz o (.tup xs))
theorem Tk.refl (H : Hp) : Tk H H := ⟨fun _ _ h => h, fun _ _ _ h => h⟩
theorem Tk.trans {H H1 H2 : Hp} (a : Tk H H1) (b : Tk H1 H2) : Tk H H2 := ⟨fun x y h => b.tup x y (a.tup x y h), fun x y z h => b.frz x y z (a.frz x y z h)⟩
theorem Tk.same {H H' : Hp} (e : Same H H') : Tk H H' := ⟨fun _ _ h => e _ _ h, fun _ _ _ h => e _ _ h⟩
/-- an object that is no tuple may be written -/
def NoT : Option HO → Prop
  | some (.tup _) => False
  | some (.frz _ (.tup _)) => False
  | _ => True
theorem Tk.upd {H : Hp} {p : Addr} {o : HO} (h : NoT (H p)) : Tk H (upd H p o) := by
  refine ⟨fun a xs e => ?_, fun a ob xs e => ?_⟩
  · have ne : a ≠ p := fun z => by
      subst z
      rw [e] at h
      exact h
    rw [upd_ne ne]
    exact e
  · have ne : a ≠ p := fun z => by
      subst z
      rw [e] at h
      exact h
    rw [upd_ne ne]
    exact e
theorem Tk.new {H : Hp} {p : Addr} {o : HO} (h : H p = none) : Tk H (L2.upd H p o) := Tk.upd (by rw [h]; exact True.intro)
theorem Tk.mut {H : Hp} {p : Addr} {o u : HO} (h : H p = some u) (n : NoT (some u)) : Tk H (L2.upd H p o) := Tk.upd (by rw [h]; exact n)
theorem Tk.sqt {K : PySem.W.Frag} {H H' : Hp} (t : Tk H H') {a : Addr} {xs : List V} (h : SqT K H a xs) : SqT K H' a xs := by
  rcases h with (h | ⟨o, h⟩) | h
  · exact .inl (.inl (t.tup _ _ h))
  · exact .inl (.inr ⟨o, t.frz _ _ _ h⟩)
  · exact .inr h
theorem same_new {H : Hp} {p : Addr} {o : HO} (h : H p = none) : Same H (upd H p o) := fun b x e => by
  rw [upd_ne (ne_of_none e h)]
  exact e
/-- a write at an address that is new since H -/
theorem Same.mut {H H' : Hp} {p : Addr} {o : HO} (e : Same H H') (h : H p = none) : Same H (upd H' p o) := fun b x q => by
  rw [upd_ne (ne_of_none q h)]
  exact e b x q

/-! ### data -/
mutual
/-- the value v is the datum k: numbers, texts, None, tuples of data -/
inductive NK (K : PySem.W.Frag) (H : Hp) : NestedKey → V → Prop
  | non : NK K H .none .non
  | num (i : Int) : NK K H (.num i) (.int i)
  | text (x : Str) : NK K H (.text x) (.str x)
  | tup {a : Addr} {vs : List V} {ks : List NestedKey} : SqT K H a vs → NKs K H ks vs → NK K H (.tup ks) (.ref a)
inductive NKs (K : PySem.W.Frag) (H : Hp) : List NestedKey → List V → Prop
  | nil : NKs K H [] []
  | cons {k : NestedKey} {v : V} {ks : List NestedKey} {vs : List V} : NK K H k v → NKs K H ks vs → NKs K H (k :: ks) (v :: vs)
end
section
variable {K : PySem.W.Frag} {H H' : Hp}
mutual
theorem NK.tk (t : Tk H H') : ∀ (k : NestedKey) (v : V), NK K H k v → NK K H' k v
  | .none, _, h => by cases h; exact .non
  | .num _, _, h => by cases h; exact .num _
  | .text _, _, h => by cases h; exact .text _
  | .tup ks, _, h => by
    cases h with
    | tup h1 h2 => exact .tup (t.sqt h1) (NKs.tk t ks _ h2)
theorem NKs.tk (t : Tk H H') : ∀ (ks : List NestedKey) (vs : List V), NKs K H ks vs → NKs K H' ks vs
  | [], _, h => by cases h; exact .nil
  | k :: ks, _, h => by
    cases h with
    | cons h1 h2 => exact .cons (NK.tk t k _ h1) (NKs.tk t ks _ h2)
end
theorem NKs.length : ∀ {ks : List NestedKey} {vs : List V}, NKs K H ks vs → vs.length = ks.length
  | [], _, h => by cases h; rfl
  | _ :: ks, _, h => by
    cases h with
    | cons _ h2 => simp [NKs.length h2]
theorem NKs.get : ∀ {ks : List NestedKey} {vs : List V} {i : Nat} {k : NestedKey}, NKs K H ks vs → ks[i]? = some k → ∃ v, vs[i]? = some v ∧ NK K H k v
  | [], _, _, _, h, e => by simp at e
  | k :: ks, _, 0, _, h, e => by
    cases h with
    | cons h1 _ =>
      simp at e
      subst e
      exact ⟨_, rfl, h1⟩
  | _ :: ks, _, i + 1, k, h, e => by
    cases h with
    | cons _ h2 =>
      obtain ⟨v, a, b⟩ := NKs.get (i := i) (k := k) h2 (by simpa using e)
      exact ⟨v, by simpa using a, b⟩
theorem NKs.getV : ∀ {ks : List NestedKey} {vs : List V} {i : Nat} {v : V}, NKs K H ks vs → vs[i]? = some v → ∃ k, ks[i]? = some k ∧ NK K H k v
  | [], _, _, _, h, e => by cases h; simp at e
  | k :: ks, _, 0, _, h, e => by
    cases h with
    | cons h1 _ =>
      simp at e
      subst e
      exact ⟨_, rfl, h1⟩
  | _ :: ks, _, i + 1, k, h, e => by
    cases h with
    | cons _ h2 =>
      obtain ⟨v, a, b⟩ := NKs.getV (i := i) h2 (by simpa using e)
      exact ⟨v, by simpa using a, b⟩
theorem NKs.append : ∀ {ks ls : List NestedKey} {vs ws : List V}, NKs K H ks vs → NKs K H ls ws → NKs K H (ks ++ ls) (vs ++ ws)
  | [], _, _, _, h, q => by cases h; exact q
  | _ :: ks, _, _, _, h, q => by
    cases h with
    | cons h1 h2 => exact .cons h1 (NKs.append h2 q)
theorem NKs.one {k : NestedKey} {v : V} (h : NK K H k v) : NKs K H [k] [v] := .cons h .nil
theorem NKs.ints (l : List Int) : NKs K H (l.map .num) (l.map .int) := by
  induction l with
  | nil => exact .nil
  | cons x l ih => exact .cons (.num x) ih
theorem NKs.ints_inv : ∀ {l : List Int} {vs : List V}, NKs K H (l.map .num) vs → vs = l.map .int
  | [], _, h => by cases h; rfl
  | x :: l, _, h => by
    cases h with
    | cons h1 h2 =>
      cases h1
      rw [NKs.ints_inv h2]
      rfl
theorem NKs.take (n : Nat) : ∀ {ks : List NestedKey} {vs : List V}, NKs K H ks vs → NKs K H (ks.take n) (vs.take n) := by
  induction n with
  | zero => intro ks vs _; exact .nil
  | succ n ih =>
    intro ks vs h
    cases h with
    | nil => exact .nil
    | cons h1 h2 => exact .cons h1 (ih h2)
theorem NKs.drop (n : Nat) : ∀ {ks : List NestedKey} {vs : List V}, NKs K H ks vs → NKs K H (ks.drop n) (vs.drop n) := by
  induction n with
  | zero => intro ks vs h; exact h
  | succ n ih =>
    intro ks vs h
    cases h with
    | nil => exact .nil
    | cons _ h2 => exact ih h2
theorem NK.tupOf {ks : List NestedKey} {v : V} (h : NK K H (.tup ks) v) : ∃ a vs, v = .ref a ∧ SqT K H a vs ∧ NKs K H ks vs := by
  cases h with
  | tup h1 h2 => exact ⟨_, _, rfl, h1, h2⟩
end

section
variable {X : Cx} {pins : List (Addr × Obj)} {σ : L2.St} {H : Hp} {s : Shared}
mutual
theorem NK.is (I : Inv X pins σ H s) : ∀ (k : NestedKey) (v : V) (u : Value), NK X.K H k v → RelV v u → NestedIs s.heap k u
  | .none, _, _, h, r => by
    cases h
    cases r
    exact .none
  | .num i, _, _, h, r => by
    cases h
    obtain ⟨t, rfl⟩ := r
    exact .int _ _
  | .text x, _, _, h, r => by
    cases h
    obtain ⟨t, rfl⟩ := r
    exact .text _ _
  | .tup ks, _, _, h, r => by
    cases h with
    | tup h1 h2 =>
      cases r
      obtain ⟨its, rv, ⟨o, ho, hc, n, hd⟩, _⟩ := I.tuple h1
      exact .tup ho hc hd (by simpa using NKs.is I ks _ its h2 rv)
theorem NKs.is (I : Inv X pins σ H s) : ∀ (ks : List NestedKey) (vs : List V) (us : List Value), NKs X.K H ks vs → Vals vs us → NestedAll s.heap ks us
  | [], _, _, h, r => by
    cases h
    cases r
    exact .nil
  | k :: ks, _, _, h, r => by
    cases h with
    | cons h1 h2 =>
      cases r with
      | cons r1 r2 => exact .cons (NK.is I k _ _ h1 r1) (NKs.is I ks _ _ h2 r2)
end
end
section
variable {K : PySem.W.Frag} {H : Hp}
mutual
theorem NK.dp : ∀ (k : NestedKey) (v : V), NK K H k v → Dp K H v k.data
  | .none, _, h => by cases h; exact .non
  | .num _, _, h => by cases h; exact .int _
  | .text _, _, h => by cases h; exact .str _
  | .tup ks, _, h => by
    cases h with
    | tup h1 h2 => exact .tup h1 (NKs.dp ks _ h2)
theorem NKs.dp : ∀ (ks : List NestedKey) (vs : List V), NKs K H ks vs → DpAll K H vs (NestedKey.datas ks)
  | [], _, h => by cases h; exact .nil
  | k :: ks, _, h => by
    cases h with
    | cons h1 h2 => exact .cons (NK.dp k _ h1) (NKs.dp ks _ h2)
end
mutual
theorem eqv_data : ∀ a b : NestedKey, PyData.eqv a.data b.data = NestedKey.beq a b
  | .none, b => by cases b <;> simp [NestedKey.data, PyData.eqv, NestedKey.beq]
  | .num i, b => by cases b <;> simp [NestedKey.data, PyData.eqv, NestedKey.beq, Bool.beq_eq_decide_eq]
  | .text x, b => by cases b <;> simp [NestedKey.data, PyData.eqv, NestedKey.beq, Bool.beq_eq_decide_eq]
  | .tup ks, b => by
    cases b with
    | tup ls => simp only [NestedKey.data, PyData.eqv, NestedKey.beq]; exact eqv_datas ks ls
    | _ => simp [NestedKey.data, PyData.eqv, NestedKey.beq]
theorem eqv_datas : ∀ a b : List NestedKey, PyData.eqvAll (NestedKey.datas a) (NestedKey.datas b) = NestedKey.beqAll a b
  | [], b => by cases b <;> simp [NestedKey.datas, PyData.eqvAll, NestedKey.beqAll]
  | k :: ks, b => by
    cases b with
    | nil => simp [NestedKey.datas, PyData.eqvAll, NestedKey.beqAll]
    | cons l ls =>
      simp only [NestedKey.datas, PyData.eqvAll, NestedKey.beqAll]
      rw [eqv_data k l, eqv_datas ks ls]
end
theorem eqv_dec (a b : NestedKey) : PyData.eqv a.data b.data = decide (a = b) := by rw [eqv_data, NestedKey.decide_eq]
end
end G6

-- G6Lb
namespace G6
open PySem PySem.Spec PyProof.Rows L2

/-! ### dicts whose keys are nested tuples -/
/-- a type of keys, as data -/
structure Enc (κ : Type) where
  f : κ → NestedKey
  inj : ∀ a b, f a = f b → a = b
  dp : ∀ a, (f a).depth ≤ 8

abbrev ZP : NestedKey × Addr × V → NestedKey × Addr × Value → Prop := fun p q => p.1 = q.1 ∧ p.2.1 = q.2.1 ∧ RelV p.2.2 q.2.2
/-- the object: its entries, the keys by their addresses -/
def NDo (P : Program) (w : World) (d : Addr) (zs : List (NestedKey × Addr × V)) : HO := .ext fun h => ∃ ys : List (NestedKey × Addr × Value), Paired ZP zs ys ∧
  ∃ o es ep, h.get? d = some o ∧ o.ExactDict ∧ o.data = .dict es ep ∧ es.toList = ys.map (entryOfKey (nestedKind P w)) ∧ (ys.map (·.1)).Nodup
theorem NDo_ok {P : Program} {w : World} {H : Hp} {h : Heap} {d : Addr} {zs : List (NestedKey × Addr × V)} {ys : List (NestedKey × Addr × Value)} (r : Paired ZP zs ys) {o : Obj} {es : Array DictEntry} {ep : Nat}
    (h1 : h.get? d = some o) (h2 : o.ExactDict) (h3 : o.data = .dict es ep) (h4 : es.toList = ys.map (entryOfKey (nestedKind P w))) (h5 : (ys.map (·.1)).Nodup) : ObjOk P w H h d (NDo P w d zs) := by
  refine ⟨⟨ys, r, o, es, ep, h1, h2, h3, h4, h5⟩, ⟨o, h1⟩, fun g1 g2 ⟨ys', r', o', es', ep', k1, k2, k3, k4, k5⟩ q => ⟨ys', r', o', es', ep', q _ k1, k2, k3, k4, k5⟩⟩
/-- the entries are these keys and values -/
def ZK {κ : Type} (K : PySem.W.Frag) (H : Hp) (E : Enc κ) (kvs : List (κ × V)) (zs : List (NestedKey × Addr × V)) : Prop := Paired (fun (p : κ × V) (q : NestedKey × Addr × V) => E.f p.1 = q.1 ∧ NK K H q.1 (.ref q.2.1) ∧ p.2 = q.2.2) kvs zs
def NDr (P : Program) (w : World) {κ : Type} (K : PySem.W.Frag) (H : Hp) (E : Enc κ) (d : Addr) (kvs : List (κ × V)) : Prop := (d == sysModules) = false ∧ kvs.length ≤ sizeLine ∧ ∃ zs, Rd H d (NDo P w d zs) ∧ ZK K H E kvs zs
def ND (P : Program) (w : World) {κ : Type} (K : PySem.W.Frag) (H : Hp) (E : Enc κ) (d : Addr) (kvs : List (κ × V)) : Prop := (d == sysModules) = false ∧ kvs.length ≤ sizeLine ∧ ∃ zs, H d = some (NDo P w d zs) ∧ ZK K H E kvs zs
section
variable {P : Program} {w : World} {κ : Type} {K : PySem.W.Frag} {H H' : Hp} {E : Enc κ} {d a : Addr} {kvs : List (κ × V)} {o : HO}
theorem ZK.tk {zs : List (NestedKey × Addr × V)} (t : Tk H H') (h : ZK K H E kvs zs) : ZK K H' E kvs zs := Paired.mapP h fun _ _ z => ⟨z.1, NK.tk t _ _ z.2.1, z.2.2⟩
theorem ZK.len {zs : List (NestedKey × Addr × V)} (h : ZK K H E kvs zs) : kvs.length = zs.length := Paired.length h
theorem ND.r (h : ND P w K H E d kvs) : NDr P w K H E d kvs := ⟨h.1, h.2.1, let ⟨zs, e, z⟩ := h.2.2; ⟨zs, .inl e, z⟩⟩
theorem ND.same (s : Same H H') (h : ND P w K H E d kvs) : ND P w K H' E d kvs := ⟨h.1, h.2.1, let ⟨zs, e, z⟩ := h.2.2; ⟨zs, s _ _ e, z.tk (Tk.same s)⟩⟩
theorem NDr.same (s : Same H H') (h : NDr P w K H E d kvs) : NDr P w K H' E d kvs := ⟨h.1, h.2.1, let ⟨zs, e, z⟩ := h.2.2; ⟨zs, e.elim (fun q => .inl (s _ _ q)) (fun ⟨o, q⟩ => .inr ⟨o, s _ _ q⟩), z.tk (Tk.same s)⟩⟩
theorem ND.upd (h : ND P w K H E d kvs) (ne : d ≠ a) (n : NoT (H a)) : ND P w K (upd H a o) E d kvs := ⟨h.1, h.2.1, let ⟨zs, e, z⟩ := h.2.2; ⟨zs, by rw [upd_ne ne]; exact e, z.tk (Tk.upd n)⟩⟩
theorem NDr.upd (h : NDr P w K H E d kvs) (ne : d ≠ a) (n : NoT (H a)) : NDr P w K (L2.upd H a o) E d kvs := ⟨h.1, h.2.1, let ⟨zs, e, z⟩ := h.2.2; ⟨zs, by unfold Rd; rw [upd_ne ne]; exact e, z.tk (Tk.upd n)⟩⟩
theorem ND.not (h : ND P w K H E d kvs) : NoT (H d) := by
  obtain ⟨_, _, zs, e, _⟩ := h
  rw [e]
  exact True.intro
theorem ND.some (h : ND P w K H E d kvs) : ∃ o, H d = some o := let ⟨_, _, _, e, _⟩ := h; ⟨_, e⟩
theorem NDr.some (h : NDr P w K H E d kvs) : ∃ o, H d = some o := by
  obtain ⟨_, _, zs, e | ⟨o, e⟩, _⟩ := h
  · exact ⟨_, e⟩
  · exact ⟨_, e⟩
theorem ND.mut (h : ND P w K H E d kvs) : Mut (H d) := by
  obtain ⟨_, _, zs, e, _⟩ := h
  rw [e]
  exact True.intro
theorem ND.empty (hs : (d == sysModules) = false) (e : H d = Option.some (NDo P w d [])) : ND P w K H E d ([] : List (κ × V)) := ⟨hs, Nat.zero_le _, [], e, .nil⟩
/-- the i-th key -/
theorem ZK.get {z : NestedKey × Addr × V} : ∀ {kvs : List (κ × V)} {zs : List (NestedKey × Addr × V)} {i : Nat}, ZK K H E kvs zs → zs[i]? = Option.some z → ∃ p, kvs[i]? = Option.some p ∧ E.f p.1 = z.1 ∧ NK K H (E.f p.1) (.ref z.2.1) ∧ p.2 = z.2.2
  | _, _, _, .nil, e => by simp at e
  | _, _, 0, .cons r _, e => by
    simp at e
    subst e
    exact ⟨_, rfl, r.1, by rw [r.1]; exact r.2.1, r.2.2⟩
  | _, _, i + 1, .cons _ t, e => by
    obtain ⟨p, a, b⟩ := ZK.get (i := i) t (by simpa using e)
    exact ⟨p, by simpa using a, b⟩
end

/-- combined: keys and values, and the entries of the model's dict -/
abbrev KN {κ : Type} (K : PySem.W.Frag) (H : Hp) (E : Enc κ) : List (κ × V) → List (NestedKey × Addr × Value) → Prop := Paired fun p q => E.f p.1 = q.1 ∧ NK K H q.1 (.ref q.2.1) ∧ RelV p.2 q.2.2
theorem kn_of {κ : Type} {K : PySem.W.Frag} {H : Hp} {E : Enc κ} : ∀ {kvs : List (κ × V)} {zs : List (NestedKey × Addr × V)} {ys : List (NestedKey × Addr × Value)}, ZK K H E kvs zs → Paired ZP zs ys → KN K H E kvs ys
  | _, _, _, .nil, .nil => .nil
  | _, _, _, .cons a t, .cons b u => .cons ⟨a.1.trans b.1, by rw [← b.1, ← b.2.1]; exact a.2.1, by rw [a.2.2]; exact b.2.2⟩ (kn_of t u)
/-- back: entries whose addresses are told -/
theorem zs_of {κ : Type} {K : PySem.W.Frag} {H : Hp} {E : Enc κ} : ∀ {kvs : List (κ × V)} {ys : List (NestedKey × Addr × Value)}, KN K H E kvs ys → ∃ zs, ZK K H E kvs zs ∧ Paired ZP zs ys
  | _, _, .nil => ⟨[], .nil, .nil⟩
  | p :: _, q :: _, .cons a t => by
    obtain ⟨zs, h1, h2⟩ := zs_of t
    exact ⟨(q.1, q.2.1, p.2) :: zs, .cons ⟨a.1, a.2.1, rfl⟩ h1, .cons ⟨rfl, rfl, a.2.2⟩ h2⟩
section
variable {κ : Type} [DecidableEq κ] {K : PySem.W.Frag} {H : Hp} {E : Enc κ}
theorem KN.val {kvs : List (κ × V)} {ys : List (NestedKey × Addr × Value)} (r : KN K H E kvs ys) (k : κ) : RelO (valV kvs k) ((atKey ys (E.f k)).map (·.2)) := by
  induction r with
  | nil => exact True.intro
  | @cons p q ps qs h t ih =>
    by_cases e : p.1 = k
    · have e1 : q.1 = E.f k := by rw [← h.1, e]
      have e2 : atKey (q :: qs) (E.f k) = some q.2 := by unfold atKey; simp [e1]
      rw [valV_pos e, e2]
      exact h.2.2
    · have e1 : ¬ q.1 = E.f k := fun z => e (E.inj _ _ (h.1.trans z))
      have e2 : atKey (q :: qs) (E.f k) = atKey qs (E.f k) := by unfold atKey; simp [e1]
      rw [valV_neg e, e2]
      exact ih
theorem KN.put {kvs : List (κ × V)} {ys : List (NestedKey × Addr × Value)} (r : KN K H E kvs ys) (k : κ) {b : Addr} {v : V} {u : Value} (hb : NK K H (E.f k) (.ref b)) (rv : RelV v u) :
    KN K H E (putK kvs k v) (storedH ys (E.f k) b u) := by
  have e : (kvs.any fun kv => decide (kv.1 = k)) = (atKey ys (E.f k)).isSome := by
    rw [valV_any, (r.val k).isSome_eq, Option.isSome_map]
  unfold putK storedH
  rw [e]
  by_cases q : (atKey ys (E.f k)).isSome = true
  · rw [if_pos q, if_pos q]
    clear q e
    induction r with
    | nil => exact .nil
    | @cons p q ps qs h t ih =>
      rw [List.map_cons, List.map_cons]
      refine .cons ?_ ih
      unfold putAt
      by_cases e : p.1 = k
      · rw [if_pos e, if_pos (by rw [← h.1, e])]
        exact ⟨h.1, h.2.1, rv⟩
      · rw [if_neg e, if_neg (fun z => e (E.inj _ _ (h.1.trans z)))]
        exact h
  · rw [if_neg q, if_neg q]
    exact Paired.snoc r ⟨rfl, hb, rv⟩
theorem KN.tk {H' : Hp} {kvs : List (κ × V)} {ys : List (NestedKey × Addr × Value)} (t : Tk H H') (r : KN K H E kvs ys) : KN K H' E kvs ys := Paired.mapP r fun _ _ z => ⟨z.1, NK.tk t _ _ z.2.1, z.2.2⟩
end
section
variable {X : Cx} {pins : List (Addr × Obj)} {σ : L2.St} {H : Hp} {s : Shared} {κ : Type} {E : Enc κ} {d : Addr} {kvs : List (κ × V)}
theorem key_is (I : Inv X pins σ H s) {k : κ} {b : Addr} (h : NK X.K H (E.f k) (.ref b)) : (nestedKind X.prog X.w).is s.heap (E.f k) b := ⟨NK.is I _ _ _ h rfl, E.dp k⟩
theorem nd_of (I : Inv X pins σ H s) (h : NDr X.prog X.w X.K H E d kvs) : ∃ ys, KN X.K H E kvs ys ∧ s.heap.DictOfH (nestedKind X.prog X.w) d ys := by
  obtain ⟨_, _, zs, e, z⟩ := h
  obtain ⟨⟨ys, r, o, es, ep, h1, h2, h3, h4, h5⟩, _, _⟩ := e.ok I.hok
  have kn := kn_of z r
  refine ⟨ys, kn, o, es, ep, h1, h2, h3, h4, fun x hx => ?_, h5⟩
  have all : ∀ {l : List (κ × V)} {m : List (NestedKey × Addr × Value)}, KN X.K H E l m → ∀ x ∈ m, (nestedKind X.prog X.w).is s.heap x.1 x.2.1 := by
    intro l m q
    induction q with
    | nil => intro x hx; exact nomatch hx
    | @cons p q ps qs hq t ih =>
      intro x hx
      rcases List.mem_cons.mp hx with e | hx
      · subst e
        rw [← hq.1]
        exact key_is I (by rw [hq.1]; exact hq.2.1)
      · exact ih x hx
  exact all kn x hx
end
/-- the room that keys ask -/
theorem nroom {A : Around} {k : Nat} {P : Program} {w : World} (hr : Room k A) : (nestedKind P w).room A.in1 := by
  have := hr.un
  show A.units + 1 + 8 < cLine
  omega
section
variable {X : Cx} {pins : List (Addr × Obj)} {σ : L2.St} {H : Hp} {s : Shared} {κ : Type} [DecidableEq κ] {E : Enc κ} {d b : Addr} {kvs : List (κ × V)} {k : κ} {A : Around} {Ex : Value → Shared → Prop}
theorem n_getItem {v : V} {Q : Value → Shared → Prop} (hu : (nestedKind X.prog X.w).room A.in1) (I : Inv X pins σ H s) (h : NDr X.prog X.w X.K H E d kvs) (hk : NK X.K H (E.f k) (.ref b)) (hv : valV kvs k = some v) (q : ∀ u s', Inv X pins σ H s' → RelV v u → Q u s') :
    wpAny (model X.prog X.w) A (getItem (.ref d) (.ref b)) Q Ex s := by
  obtain ⟨ys, r, hd⟩ := nd_of I h
  obtain ⟨u, hu1, ru⟩ := RelO.some_of (v := v) (o := (atKey ys (E.f k)).map (·.2)) (by rw [← hv]; exact r.val k)
  obtain ⟨p, hp, hp2⟩ := Option.map_eq_some_iff.mp hu1
  refine wpAny_getItem_heap hu (key_is I hk) hd hp ?_
  rw [hp2]
  exact q u _ (I.tok _) ru
theorem n_in {Q : Value → Shared → Prop} (hu : (nestedKind X.prog X.w).room A.in1) (I : Inv X pins σ H s) (h : NDr X.prog X.w X.K H E d kvs) (hk : NK X.K H (E.f k) (.ref b)) (q : ∀ s', Inv X pins σ H s' → Q (.bool (valV kvs k).isSome) s') :
    wpAny (model X.prog X.w) A (compareOp .In (.ref b) (.ref d)) Q Ex s := by
  obtain ⟨ys, r, hd⟩ := nd_of I h
  refine wpAny_in_heap hu (key_is I hk) h.1 hd ?_
  have e := (r.val k).isSome_eq
  rw [Option.isSome_map] at e
  rw [← e]
  exact q _ (I.tok _)
theorem n_notIn {Q : Value → Shared → Prop} (hu : (nestedKind X.prog X.w).room A.in1) (I : Inv X pins σ H s) (h : NDr X.prog X.w X.K H E d kvs) (hk : NK X.K H (E.f k) (.ref b)) (q : ∀ s', Inv X pins σ H s' → Q (.bool (!(valV kvs k).isSome)) s') :
    wpAny (model X.prog X.w) A (compareOp .NotIn (.ref b) (.ref d)) Q Ex s := by
  obtain ⟨ys, r, hd⟩ := nd_of I h
  refine wpAny_notIn_heap hu (key_is I hk) h.1 hd ?_
  have e := (r.val k).isSome_eq
  rw [Option.isSome_map] at e
  rw [← e]
  exact q _ (I.tok _)
/-- the object is replaced by one that holds these entries -/
theorem n_write {h' : Heap} {t' : Nat} {ys : List (NestedKey × Addr × Value)} {kvs' : List (κ × V)} (I : Inv X pins σ H s) (h : ND X.prog X.w X.K H E d kvs) (hs : Heap.SameBut d s.heap h') (kn : KN X.K H E kvs' ys) (hl : kvs'.length ≤ sizeLine) (hd : h'.DictOfH (nestedKind X.prog X.w) d ys) :
    ∃ o, Inv X pins σ (upd H d o) { s with heap := h', toks := t' } ∧ ND X.prog X.w X.K (upd H d o) E d kvs' := by
  obtain ⟨zs, hz, rz⟩ := zs_of kn
  obtain ⟨o, es, ep, h1, h2, h3, h4, _, h5⟩ := hd
  refine ⟨NDo X.prog X.w d zs, ?_, h.1, hl, zs, upd_same, hz.tk (Tk.upd h.not)⟩
  exact d_write I h.mut hs ⟨o, h1⟩ (NDo_ok rz h1 h2 h3 h4 h5)
theorem n_setItem {v : V} {u : Value} {Q : Unit → Shared → Prop} (hu : (nestedKind X.prog X.w).room A.in1) (I : Inv X pins σ H s) (h : ND X.prog X.w X.K H E d kvs) (hk : NK X.K H (E.f k) (.ref b)) (hl : kvs.length < sizeLine) (rv : RelV v u)
    (q : ∀ o s', Inv X pins σ (upd H d o) s' → ND X.prog X.w X.K (upd H d o) E d (putK kvs k v) → Q () s') : wpAny (model X.prog X.w) A (setItem (.ref d) (.ref b) u) Q Ex s := by
  obtain ⟨ys, r, hd⟩ := nd_of I h.r
  have hz : ys.length ≤ sizeLine := by rw [← Paired.length r]; exact h.2.1
  have hl' : (putK kvs k v).length ≤ sizeLine := by have := length_putK kvs k v; omega
  refine wpAny_setItem_heap (hsz := hz) hu (key_is I hk) hd fun h' hd' hs => ?_
  obtain ⟨o, I', n'⟩ := n_write (t' := s.toks + (nestedKind X.prog X.w).draws (E.f k)) I h hs (r.put k hk rv) hl' hd'
  exact q o _ I' n'
theorem n_dictSet {v : V} {u : Value} {Q : Unit → Shared → Prop} (hu : (nestedKind X.prog X.w).room A) (I : Inv X pins σ H s) (h : ND X.prog X.w X.K H E d kvs) (hk : NK X.K H (E.f k) (.ref b)) (hl : kvs.length < sizeLine) (rv : RelV v u)
    (q : ∀ o s', Inv X pins σ (upd H d o) s' → ND X.prog X.w X.K (upd H d o) E d (putK kvs k v) → Q () s') : wpAny (model X.prog X.w) A (dictSet d (.ref b) u) Q Ex s := by
  obtain ⟨ys, r, hd⟩ := nd_of I h.r
  have hz : ys.length ≤ sizeLine := by rw [← Paired.length r]; exact h.2.1
  have hl' : (putK kvs k v).length ≤ sizeLine := by have := length_putK kvs k v; omega
  refine wpAny_dictSet_heap (hsz := hz) hu (key_is I hk) hd fun h' hd' hs => ?_
  obtain ⟨o, I', n'⟩ := n_write (t' := s.toks + (nestedKind X.prog X.w).draws (E.f k)) I h hs (r.put k hk rv) hl' hd'
  exact q o _ I' n'
end
/-! ### readings and rules -/
section
variable {X : Cx} {κ : Type} [DecidableEq κ] {E : Enc κ} {o i e value : Expr} {pos pos' : Pos} {td ty tv : TE}
def tNGet (P : Program) (w : World) (K : PySem.W.Frag) (E : Enc κ) (td ty : TE) : TE := fun σ H Q => td σ H fun x H1 => ty σ H1 fun y H2 => ∃ d b kvs k v, x = .ref d ∧ y = .ref b ∧ NDr P w K H2 E d kvs ∧ NK K H2 (E.f k) (.ref b) ∧ valV kvs k = some v ∧ Q v H2
def tNIn (P : Program) (w : World) (K : PySem.W.Frag) (E : Enc κ) (ty td : TE) : TE := fun σ H Q => ty σ H fun y H1 => td σ H1 fun x H2 => ∃ d b kvs k, x = .ref d ∧ y = .ref b ∧ NDr P w K H2 E d kvs ∧ NK K H2 (E.f k) (.ref b) ∧ Q (.bl (valV kvs k).isSome) H2
def tNNotIn (P : Program) (w : World) (K : PySem.W.Frag) (E : Enc κ) (ty td : TE) : TE := fun σ H Q => ty σ H fun y H1 => td σ H1 fun x H2 => ∃ d b kvs k, x = .ref d ∧ y = .ref b ∧ NDr P w K H2 E d kvs ∧ NK K H2 (E.f k) (.ref b) ∧ Q (.bl (!(valV kvs k).isSome)) H2
def sNPut (P : Program) (w : World) (K : PySem.W.Frag) (E : Enc κ) (td ty tv : TE) : TS := fun D σ H => tv σ H fun v H1 => td σ H1 fun x H2 => ty σ H2 fun y H3 => ∃ d b kvs k, x = .ref d ∧ y = .ref b ∧ ND P w K H3 E d kvs ∧ NK K H3 (E.f k) (.ref b) ∧ kvs.length < sizeLine ∧
  ∀ ob, ND P w K (upd H3 d ob) E d (putK kvs k v) → D.nx σ (upd H3 d ob)
theorem nd_type {pins : List (Addr × Obj)} {σ : L2.St} {H : Hp} {s : Shared} {d : Addr} {kvs : List (κ × V)} (I : Inv X pins σ H s) (h : NDr X.prog X.w X.K H E d kvs) : s.TypeIs (.ref d) "dict" := by
  obtain ⟨_, _, hd⟩ := nd_of I h
  exact hd.typeIs
theorem pe_nget {n : Nat} (hr : Room n X.A) (ho : PE X o td) (hi : PE X i ty) (hs : NoSl i) : PE X (.Subscript o i pos) (tNGet X.prog X.w X.K E td ty) := by
  refine ⟨fun pins s σ H Q I h => ?_⟩
  refine subD_of PySem.F.slot_dict_getitem.lookup hs (thn (ho.run pins s σ H _ I h) fun u s1 ⟨x, H1, I1, rx, q1⟩ => thn (hi.run pins s1 σ H1 _ I1 q1) fun iv s2 ⟨y, H2, I2, ry, d, b, kvs, k, v, ex, ey, hd, hk, hv, q2⟩ => ?_)
  subst ex ey
  cases rx
  cases ry
  exact ⟨nd_type I2 hd, n_getItem (nroom hr) I2 hd hk hv fun w' s3 I3 rw' => ⟨v, H2, I3, rw', q2⟩⟩
theorem pc_nin {n : Nat} (hr : Room n X.A) (hi : PE X i ty) (ho : PE X o td) : PC X .In i o (tNIn X.prog X.w X.K E ty td) := by
  refine ⟨fun pins s σ H Q I h => ?_⟩
  refine thn (hi.run pins s σ H _ I h) fun iv s1 ⟨y, H1, I1, ry, q1⟩ => thn (ho.run pins s1 σ H1 _ I1 q1) fun u s2 ⟨x, H2, I2, rx, d, b, kvs, k, ex, ey, hd, hk, q2⟩ => ?_
  subst ex ey
  cases rx
  cases ry
  exact n_in (nroom hr) I2 hd hk fun s3 I3 => ⟨.bl (valV kvs k).isSome, H2, I3, rfl, q2⟩
theorem pc_nnotin {n : Nat} (hr : Room n X.A) (hi : PE X i ty) (ho : PE X o td) : PC X .NotIn i o (tNNotIn X.prog X.w X.K E ty td) := by
  refine ⟨fun pins s σ H Q I h => ?_⟩
  refine thn (hi.run pins s σ H _ I h) fun iv s1 ⟨y, H1, I1, ry, q1⟩ => thn (ho.run pins s1 σ H1 _ I1 q1) fun u s2 ⟨x, H2, I2, rx, d, b, kvs, k, ex, ey, hd, hk, q2⟩ => ?_
  subst ex ey
  cases rx
  cases ry
  exact n_notIn (nroom hr) I2 hd hk fun s3 I3 => ⟨.bl (!(valV kvs k).isSome), H2, I3, rfl, q2⟩
theorem ps_nput {n : Nat} (hr : Room n X.A) (ho : PE X o td) (hi : PE X i ty) (hv : PE X value tv) (hs : swapsWith value (some (.Subscript o i pos')) pos.line X.env = pure false) :
    PS X (.Assign [.Subscript o i pos'] value pos) (sNPut X.prog X.w X.K E td ty tv) := by
  refine ⟨fun pins s σ H D I h => ?_⟩
  refine wpAny_Assign_Subscript (thn (hv.run pins s σ H _ I h) fun r s1 ⟨v, H1, I1, rv, q1⟩ => thn (ho.run pins s1 σ H1 _ I1 q1) fun u s2 ⟨x, H2, I2, rx, q2⟩ => thn (hi.run pins s2 σ H2 _ I2 q2) fun iv s3 ⟨y, H3, I3, ry, d, b, kvs, k, ex, ey, hd, hk, hl, q3⟩ => ?_) hs
  subst ex ey
  cases rx
  cases ry
  exact n_setItem (nroom hr) I3 hd hk hl rv fun ob s4 I4 n4 => ⟨σ, _, I4, q3 ob n4⟩
/-- {} -/
theorem nd_fresh {P : Program} {w : World} {H : Hp} (h : Heap) : ObjOk P w H (h.push { cls := .type "dict", data := .dict #[] }) h.objs.size (NDo P w h.objs.size []) :=
  NDo_ok .nil (Heap.get?_push_size _ rfl) ⟨rfl, rfl, rfl⟩ rfl rfl List.nodup_nil
theorem big_ne {pins : List (Addr × Obj)} {σ : L2.St} {H : Hp} {s : Shared} (I : Inv X pins σ H s) : (s.heap.objs.size == sysModules) = false := beq_eq_false_iff_ne.mpr (Ne.symm (Nat.ne_of_lt I.big))
def tNNew (P : Program) (w : World) : TE := fun _ H Q => ∀ p, H p = none → (p == sysModules) = false → Q (.ref p) (upd H p (NDo P w p []))
theorem pe_nnew : PE X (.Dict [] [] pos) (tNNew X.prog X.w) := ⟨fun pins s σ H Q I h =>
  wpAny_Dict_empty ⟨.ref s.heap.objs.size, _, I.laid (a := s.heap.objs.size) (o := NDo X.prog X.w s.heap.objs.size []) (t' := s.toks) (fun _ _ q => Heap.get?_push_of_some _ q) (Nat.le_refl _) (nd_fresh s.heap), rfl, h _ (I.hok.fresh (Nat.le_refl _)) (big_ne I)⟩⟩
end
end G6

-- G6Lc
namespace G6
open PySem PySem.Spec PyProof.Rows L2

/-! ### for k in d, d locked -/
def Itn (P : Program) (w : World) (d : Addr) (o : Obj) (zs : List (NestedKey × Addr × V)) : It :=
  ⟨fun i H => H d = some (.frz o (NDo P w d zs)) ∧ i < zs.length, fun i H x H' => H' = H ∧ ∃ z, zs[i]? = some z ∧ x = .ref z.2.1, fun i H => H d = some (.frz o (NDo P w d zs)) ∧ zs.length ≤ i⟩
theorem paired_get {α β : Type} {R : α → β → Prop} : ∀ {l : List α} {m : List β} {i : Nat} {a : α}, Paired R l m → l[i]? = some a → ∃ b, m[i]? = some b ∧ R a b
  | _, _, _, _, .nil, e => by simp at e
  | _, _, 0, _, .cons r _, e => by
    simp at e
    subst e
    exact ⟨_, rfl, r⟩
  | _, _, i + 1, a, .cons _ t, e => by
    obtain ⟨b, h1, h2⟩ := paired_get (i := i) (a := a) t (by simpa using e)
    exact ⟨b, by simpa using h1, h2⟩
section
variable {X : Cx} {pins : List (Addr × Obj)} {σ : L2.St} {H : Hp} {s : Shared} {d : Addr} {o : Obj} {zs : List (NestedKey × Addr × V)}
theorem frz_nd (I : Inv X pins σ H s) (h : H d = some (.frz o (NDo X.prog X.w d zs))) : ∃ es ep, s.heap.get? d = some o ∧ o.ExactDict ∧ o.data = .dict es ep ∧ es.size = zs.length ∧ ∀ (i : Nat) z, zs[i]? = some z → ∃ en, es[i]? = some en ∧ en.key = .ref z.2.1 := by
  obtain ⟨hd, ⟨ys, r, o', es, ep, h1, h2, h3, h4, _⟩, _, _⟩ := I.hok d _ h
  rw [hd] at h1
  cases h1
  refine ⟨es, ep, hd, h2, h3, ?_, fun i z e => ?_⟩
  · rw [size_of_entries h4, Paired.length r]
  · obtain ⟨y, hy, ry⟩ := paired_get r e
    refine ⟨entryOfKey (nestedKind X.prog X.w) y, ?_, ?_⟩
    · rw [entry_at h4, hy]
      rfl
    · show Value.ref y.2.1 = .ref z.2.1
      rw [ry.2.1]
theorem turn_nd {P : Program} {w : World} {K : PySem.W.Frag} {tg : Expr} {es : Array DictEntry} {ep : Nat} (it : Addr) (hod : o.data = .dict es ep) : Turn P w K tg (Itn P w d o zs) [it] it (fun i h => h.IsKeyIter it d i zs.length ep) where
  mem := by simp
  obj := fun i h st b hb => by
    have e : b = it := by simpa using hb
    subst e
    obtain ⟨oi, e, c, dd⟩ := st
    exact ⟨oi, e, fun v z => by rw [dd] at z; cases z⟩
  keep := fun i h h' st k => st.at fun oi e => k it (by simp) oi e
  item := by
    intro X hP hw hK hc i pins s σ H E I hf st hg
    subst hP hw hK
    obtain ⟨hd, hi⟩ := hg
    obtain ⟨f0, f1, f2, f3, f4, f5⟩ := hf it (by simp)
    obtain ⟨es', ep', hgd, hx, hdt, hsz, ent⟩ := frz_nd I hd
    obtain ⟨rfl, rfl⟩ := dict_ep hod hdt
    have hz : zs[i]? = some zs[i] := List.getElem?_eq_getElem hi
    obtain ⟨en, hen, hkey⟩ := ent i _ hz
    refine next_key_item st hgd hdt hsz hen fun h' st' sb => ?_
    have I1 : Inv X pins σ H { s with heap := h' } := I.turned (t' := s.toks) (fun b ob hb e => (sb.2 b hb).trans e) f0 f1 f3 f4 f5
    obtain ⟨oi, e, c, dd⟩ := id st'
    exact ⟨en.key, rfl, go_of (s := { s with heap := h' }) e c dd (by decide) ⟨.ref zs[i].2.1, H, I1, hkey, ⟨rfl, _, hz, rfl⟩, st', fun b hb => (hf b hb).1⟩⟩
  done := by
    intro X hP hw hK hc i pins s σ H E I hf st hg
    subst hP hw hK
    obtain ⟨hd, hi⟩ := hg
    obtain ⟨f0, f1, f2, f3, f4, f5⟩ := hf it (by simp)
    obtain ⟨es', ep', hgd, hx, hdt, hsz, ent⟩ := frz_nd I hd
    obtain ⟨rfl, rfl⟩ := dict_ep hod hdt
    exact next_key_end (I.ok.hd hc) st hgd hdt hsz hi fun h' eb => ⟨rfl, I.turned (t' := s.toks) (fun b ob hb e => eb b ob hb e) f0 f1 f3 f4 f5⟩
  self := fun A i s Q E st h => wpAny_pyIter_keyiter st h
end
def iND (P : Program) (w : World) (td : TE) : TI := fun σ H R => td σ H fun x H1 => ∃ d o zs, x = .ref d ∧ (d == sysModules) = false ∧ H1 d = some (.frz o (NDo P w d zs)) ∧ R (Itn P w d o zs) H1
theorem pi_nd {X : Cx} {e tg : Expr} {td : TE} (he : PE X e td) : PI X tg e (iND X.prog X.w td) := by
  refine ⟨fun pins s σ H R I h => ?_⟩
  refine thn (he.run pins s σ H _ I h) fun u s1 ⟨x, H1, I1, rx, d, o, zs, ex, hs, hd, q⟩ => ?_
  subst ex
  obtain rfl : u = Value.ref d := rx
  obtain ⟨es, ep, hgd, hx, hdt, hsz, ent⟩ := frz_nd I1 hd
  refine iter_keys hs hgd hx hdt (pi_one (tk := s1.toks) I1 _ (turn_nd _ hdt) ⟨_, Heap.get?_push_size _ rfl, rfl, ?_⟩ q)
  rw [hsz] <;> rfl
/-- a loop over the keys of a locked dict -/
theorem for_nd {P : Program} {w : World} {d : Addr} {o : Obj} {zs : List (NestedKey × Addr × V)} {g : TG} {tb : TS} {D : Ends} {σ : L2.St} {H : Hp} (Pv : Nat → L2.St → Hp → Prop) (h0 : Pv 0 σ H) (hl : ∀ i σ H, i ≤ zs.length → Pv i σ H → H d = some (.frz o (NDo P w d zs)))
    (hs : ∀ i z σ H, zs[i]? = some z → Pv i σ H → g (.ref z.2.1) σ H fun σ2 H2 => tb { D with nx := Pv (i + 1), ct := Pv (i + 1), bk := D.nx } σ2 H2) (hd : ∀ σ H, Pv zs.length σ H → D.nx σ H) :
    ∃ W : Nat → Nat → L2.St → Hp → Prop, (∃ m, W 0 m σ H) ∧ ∀ i m σ H, W i m σ H →
      ((Itn P w d o zs).stop i H ∧ D.nx σ H) ∨ ((Itn P w d o zs).go i H ∧ ∃ N : L2.St → Hp → Prop, (∀ σ' H', N σ' H' → ∃ m', m' < m ∧ W (i + 1) m' σ' H') ∧ ∀ x H', (Itn P w d o zs).yld i H x H' → g x σ H' fun σ2 H2 => tb { D with nx := N, ct := N, bk := D.nx } σ2 H2) := by
  refine ⟨fun i m σ H => m = zs.length - i ∧ i ≤ zs.length ∧ Pv i σ H, ⟨zs.length, by simp, Nat.zero_le _, h0⟩, ?_⟩
  rintro i m σ H ⟨rfl, hi, p⟩
  have q := hl i σ H hi p
  by_cases hlt : i < zs.length
  · refine .inr ⟨⟨q, hlt⟩, Pv (i + 1), fun σ' H' p' => ⟨zs.length - (i + 1), by omega, rfl, hlt, p'⟩, fun x H' y => ?_⟩
    obtain ⟨e, z, hz, ex⟩ := y
    subst e ex
    exact hs i z σ _ hz p
  · have e : i = zs.length := by omega
    subst e
    exact .inl ⟨⟨q, Nat.le_refl _⟩, hd σ H p⟩

/-! ### enumerate(tuple) -/
theorem meets_enumT (l : Addr) (items : Array Value) (n : Nat) (dct : Option Addr) (sl : Array (Option Value)) :
    Meets (Builtin.«enumerate.__new__» ⟨[.type "enumerate", .ref l], []⟩) (fun _ R s => s.heap.get? l = some { cls := .type "tuple", dict := dct, data := .seq items n, slots := sl } ∧
      R (.ok (.ret (.ref (s.heap.push { cls := .type "tuple_iterator", data := .fields #[.ref l, .int 0 0] }).objs.size)))
        { s with heap := (s.heap.push { cls := .type "tuple_iterator", data := .fields #[.ref l, .int 0 0] }).push { cls := .type "enumerate", data := .fields #[.none, .bool false, .ref s.heap.objs.size, rawInt 0, .none, .none] } }) :=
  .of_wp fun prog w A R s h => by
    obtain ⟨hp, g, d, tk, os⟩ := s
    obtain ⟨hl, h⟩ := h
    have hsub := sub_enumerate
    have hT : Heap.IsTuple (Shared.heap ⟨hp, g, d, tk, os⟩) l items := ⟨_, hl, rfl, n, rfl⟩
    wp_walk using AutoSeq1.wpAny_loadPart' hl
    refine wpAny_stack_any fun st => wpAny_pure ?_
    split
    · rename_i c _ _ _ _ _
      cases (c == Value.type "enumerate")
      · wp_walk using AutoSeq1.wpAny_loadPart' hl, wpAny_pyIter_tuple hT
        exact ⟨_, rfl, h⟩
      · wp_walk using AutoSeq1.wpAny_loadPart' hl, wpAny_pyIter_tuple hT
        exact ⟨_, rfl, h⟩
    · wp_walk using AutoSeq1.wpAny_loadPart' hl, wpAny_pyIter_tuple hT
      exact ⟨_, rfl, h⟩
theorem call_enumT {prog : Program} {w : World} {A : Around} {E : Value → Shared → Prop} {s : Shared} {l : Addr} {items : Array Value} {Q : Value → Shared → Prop} (hL : s.heap.IsTuple l items)
    (h : ∀ h', IsEnum h' (s.heap.objs.size + 1) s.heap.objs.size 0 .none → h'.IsTupleIter s.heap.objs.size l 0 → h'.objs.size = s.heap.objs.size + 2 →
      (∀ b o, s.heap.get? b = some o → h'.get? b = some o) → Q (.ref (s.heap.objs.size + 1)) { s with heap := h' }) :
    wpAny (model prog w) A (call (.type "enumerate") [.ref l]) Q E s := by
  obtain ⟨⟨c, dct, dt, sl⟩, hl, hc, n, hd⟩ := hL
  replace hc : c = .type "tuple" := hc
  replace hd : dt = .seq items n := hd
  subst hc hd
  refine callType_new F.called_enumerate (by decide) (F.typeCall_enumerate_1 _) (F.newCall_enumerate_1 _) (fun obj => F.args_object_init_2 obj _) F.entry_enumerate_new
    (meets_enumT l items n dct sl) ⟨hl, ?_⟩
  generalize ho : ({ cls := .type "tuple_iterator", data := .fields #[.ref l, .int 0 0] } : Obj) = io
  have hfr : io.isFreed = false := by subst ho; rfl
  have hz : (s.heap.push io).objs.size = s.heap.objs.size + 1 := Heap.size_push ..
  show _ ∧ _
  rw [hz]
  generalize hq : ({ cls := .type "enumerate", data := .fields #[.none, .bool false, .ref s.heap.objs.size, rawInt 0, .none, .none] } : Obj) = eo
  have hfe : eo.isFreed = false := by subst hq; rfl
  have he : ((s.heap.push io).push eo).get? (s.heap.objs.size + 1) = some eo := by
    have z := Heap.get?_push_size (s.heap.push io) (o := eo) hfe
    rw [hz] at z
    exact z
  refine ⟨⟨eo, he, by subst hq; rfl⟩, h _ (by subst hq; exact he) ⟨io, Heap.get?_push_of_some _ (Heap.get?_push_size _ hfr), by subst ho; rfl, by subst ho; rfl⟩ (by rw [Heap.size_push, hz]) fun b o x => Heap.get?_push_of_some _ (Heap.get?_push_of_some _ x)⟩
/-- the tuple at a, each item in a new pair -/
def IteT (K : PySem.W.Frag) (a : Addr) : It :=
  ⟨fun i H => ∃ (xs : List V) (x : V), SqT K H a xs ∧ xs[i]? = some x, fun i H v H' => ∃ T x, v = .ref T ∧ H T = none ∧ H' = upd H T (.tup [.int (i : Nat), x]) ∧ ∀ xs, SqT K H a xs → xs[i]? = some x, fun i H => ∃ xs : List V, SqT K H a xs ∧ xs.length = i⟩
theorem turn_enumT {P : Program} {w : World} {K : PySem.W.Frag} {elts : List Expr} {kk : Nat} {tpos : Pos} (a e it : Addr) :
    Turn P w K (.Tuple elts kk tpos) (IteT K a) [e, it] e (fun i h => (∃ old, IsEnum h e it ((i : Nat) : Int) old) ∧ h.IsTupleIter it a i ∧ e ≠ it ∧ a ≠ it ∧ a ≠ e) where
  mem := by simp
  obj := fun i h st b hb => by
    obtain ⟨⟨old, he⟩, ⟨o, ho, hc, hd⟩, _⟩ := st
    have e' : b = e ∨ b = it := by simpa using hb
    rcases e' with z | z
    · rw [z]; exact ⟨_, he, fun v q => nomatch q⟩
    · rw [z]; exact ⟨o, ho, fun v q => by rw [hd] at q; cases q⟩
  keep := fun i h h' st k => let ⟨⟨old, he⟩, hi, hne⟩ := st; ⟨⟨old, k e (by simp) _ he⟩, hi.at fun o q => k it (by simp) o q, hne⟩
  item := by
    intro X hP hw hK hc i pins s σ H E I hf st hg
    subst hP hw hK
    obtain ⟨⟨old, he⟩, hit, hne, nai, nae⟩ := st
    obtain ⟨xs, x, hq, hx⟩ := hg
    obtain ⟨its, rv, p, hz⟩ := I.tuple hq
    obtain ⟨u, hu, ru⟩ := rv.get hx
    have hel : e < s.heap.objs.size := Heap.lt_size he
    have hil : it < s.heap.objs.size := by obtain ⟨_, q, _⟩ := hit; exact Heap.lt_size q
    have hlt : i < its.toArray.size := by
      have := (List.getElem?_eq_some_iff.mp hu).1
      simpa using this
    refine wpAny_pyNext_enum_itemD (Draws.tuple (A := X.A.in1) (I.ok.hd hc) it a nai its.toArray) he ⟨hit, p⟩ hlt hne (by simp [hne, Ne.symm nae]) fun v h' tk hv ho hit' hT hsz hk => ?_
    have ev : v = u := by
      have h1 : its.toArray[i]? = some u := by simpa using hu
      rw [h1] at hv
      exact (Option.some.inj hv).symm
    subst ev
    refine ⟨_, rfl, wpAny_letOwnedTupleGo_enum (s := { s with heap := h', toks := tk + 1 }) ho fun h'' he' sb => ?_⟩
    have hT2 : h''.get? s.heap.objs.size = some { cls := .type "tuple", data := .seq #[.int i tk, v] } := (sb.2 _ (Nat.ne_of_gt hel)).trans hT
    have new : ObjOk X.prog X.w (upd H s.heap.objs.size (.tup [.int (i : Nat), x])) h'' s.heap.objs.size (.tup [.int (i : Nat), x]) :=
      ⟨by show 2 ≤ sizeLine; decide, [.int i tk, v], .cons ⟨_, rfl⟩ (.cons ru .nil), ⟨_, hT2, rfl, _, rfl⟩⟩
    have I1 : Inv X pins σ (upd H s.heap.objs.size (.tup [.int (i : Nat), x])) { s with heap := h'', toks := tk + 1 } :=
      I.turnedNew (ch := [e, it]) (fun b ob hb q => (sb.2 b (fun z => hb (by simp [z]))).trans (hk b ob (fun z => hb (by simp [z])) (fun z => hb (by simp [z])) q)) hf (Nat.le_refl _) new
    refine ⟨.ref s.heap.objs.size, _, I1, rfl, ⟨_, x, rfl, I.hok.fresh (Nat.le_refl _), rfl, fun ys hy => by rw [I.tuple_inj hy hq]; exact hx⟩, ⟨⟨v, ?_⟩, hit'.1.at fun o q => (sb.2 it (Ne.symm hne)).trans q, hne, nai, nae⟩, fun b hb => ?_⟩
    · have e1 : ((i + 1 : Nat) : Int) = (i : Int) + 1 := by omega
      rw [e1]; exact he'
    · have hb' : b < s.heap.objs.size := by
        have e' : b = e ∨ b = it := by simpa using hb
        rcases e' with z | z
        · rw [z]; exact hel
        · rw [z]; exact hil
      rw [upd_ne (Nat.ne_of_lt hb')]
      exact (hf b hb).1
  done := by
    intro X hP hw hK hc i pins s σ H E I hf st hg
    subst hP hw hK
    obtain ⟨⟨old, he⟩, hit, hne, nai, nae⟩ := st
    obtain ⟨xs, hq, hx⟩ := hg
    obtain ⟨its, rv, p, hz⟩ := I.tuple hq
    obtain ⟨f0, f1, f2, f3, f4, f5⟩ := hf it (by simp)
    have hl : its.toArray.size = i := by
      have := rv.length
      simp
      omega
    have hst : s.heap.IsTupleIter it a its.toArray.size ∧ s.heap.IsTuple a its.toArray := by rw [hl]; exact ⟨hit, p⟩
    exact wpAny_pyNext_enum_endD (Draws.tuple (prog := X.prog) (w := X.w) (A := X.A.in1) (I.ok.hd hc) it a nai its.toArray) he hst fun h' eb => ⟨rfl, I.turned (t' := s.toks) (fun b o hb q => eb b o hb q) f0 f1 f3 f4 f5⟩
  self := fun A i s Q E st h => let ⟨⟨_, he⟩, _⟩ := st; wpAny_pyIter_enum he h
/-- enumerate of a list or of a tuple -/
def iEnumA (K : PySem.W.Frag) (ta : TA) : TI := fun σ H R => ta σ H fun vs H1 => ∃ a xs, vs = [.ref a] ∧ ((SqL K H1 a xs ∧ R (Ite K a) H1) ∨ (SqT K H1 a xs ∧ R (IteT K a) H1))
theorem pi_enumA {X : Cx} {e : Expr} {ta : TA} {p pos tpos : Pos} {elts : List Expr} {kk : Nat} (hg : Gl X "enumerate") (hm : X.mg "enumerate" = none) (ha : PA X [e] ta) (hs : starEach [e] X.env = [(false, eval e X.env)] := by rfl) :
    PI X (.Tuple elts kk tpos) (.Call (.Name "enumerate" p) [e] [] pos) (iEnumA X.K ta) := by
  refine ⟨fun pins s σ H R I h => ?_⟩
  refine Call_ (ld_blt I hg hm boot_enumerate (PyProof.Rows.callWith_type1 (thn (ha.run pos pins s σ H _ I h) fun us s1 ⟨vs, H1, I1, r1, q1⟩ => ?_) hs rfl))
  obtain ⟨a, xs, ex, q⟩ := q1
  subst ex
  cases r1 with
  | cons r rr =>
    cases rr
    cases r
    have fin : ∀ (h' : Heap), (∀ b o, s1.heap.get? b = some o → h'.get? b = some o) → h'.objs.size = s1.heap.objs.size + 2 → ∀ b ∈ [s1.heap.objs.size + 1, s1.heap.objs.size], FpOk X pins H1 b := fun h' hk hsz b hb => by
      have e' : b = s1.heap.objs.size + 1 ∨ b = s1.heap.objs.size := by simpa using hb
      have hle : s1.heap.objs.size ≤ b := by
        rcases e' with z | z
        · omega
        · omega
      exact I1.fpOk hle (I1.hok.fresh hle)
    rcases q with ⟨hq, q⟩ | ⟨hq, q⟩
    · obtain ⟨its, rv, p', hz⟩ := I1.list hq
      refine call_enumerate_list p'.isList fun h' he hit hsz hk => wpAny_pyIter_enum he ?_
      have I2 : Inv X pins σ H1 { s1 with heap := h' } := I1.kept (t' := s1.toks) hk
      exact ⟨s1.heap.objs.size + 1, [s1.heap.objs.size + 1, s1.heap.objs.size], _, _, H1, rfl, I2, turn_enum a (s1.heap.objs.size + 1) s1.heap.objs.size, ⟨⟨.none, he⟩, hit, Nat.succ_ne_self _⟩, fin h' hk hsz, q⟩
    · obtain ⟨its, rv, p', hz⟩ := I1.tuple hq
      have hal : a < s1.heap.objs.size := p'.lt
      refine call_enumT p' fun h' he hit hsz hk => wpAny_pyIter_enum he ?_
      have I2 : Inv X pins σ H1 { s1 with heap := h' } := I1.kept (t' := s1.toks) hk
      exact ⟨s1.heap.objs.size + 1, [s1.heap.objs.size + 1, s1.heap.objs.size], _, _, H1, rfl, I2, turn_enumT a (s1.heap.objs.size + 1) s1.heap.objs.size, ⟨⟨.none, he⟩, hit, Nat.succ_ne_self _, Nat.ne_of_lt hal, Nat.ne_of_lt (Nat.lt_succ_of_lt hal)⟩, fin h' hk hsz, q⟩
end G6

-- G6Ld
namespace G6
open PySem PySem.Spec PyProof.Rows L2

/-! ### sorted(x) of anything that can be collected -/
section
variable {prog : Program} {w : World} {A : Around} {E : Value → Shared → Prop} {s : Shared}
theorem sorted_from {v : Value} {vs : List Value} {ds : List PyData} {Q : Value → Shared → Prop} (hL : vs.length ≤ sizeLine)
    (hc : ∀ (R : List Value → Shared → Prop) (E' : Value → Shared → Prop), (∀ h' tk, (∀ b o, s.heap.get? b = some o → h'.get? b = some o) → R vs { s with heap := h', toks := tk }) → wpAny (model prog w) A.in1 (collect v) R E' s)
    (hr : PySem.W.EachIs (fun v d => ∃ as, Reads s.heap v d as) vs ds) (hal : PySem.W.AllAlike ds) (hk : PySem.W.Sortable ds) (hu : ∀ d, d ∈ ds → A.units + 2 + d.depth < cLine)
    (h : ∀ (h1 : Heap) (tk : Nat), (∀ b o, s.heap.get? b = some o → h1.get? b = some o) → ∀ (h2 : Heap) (e : Nat) (hp : Heap), (∀ b o, h1.get? b = some o → h2.get? b = some o) → (∀ b o, s.heap.get? b = some o → hp.get? b = some o) →
      h2.get? h1.objs.size = some (seqObj "list" (PySem.W.sortVals (PySem.W.dataKind hp ds) false vs vs).toArray e) → Q (.ref h1.objs.size) { s with heap := h2, toks := tk }) :
    wpAny (model prog w) A (call (.builtin "sorted") [v]) Q E s := by
  refine Calls.call_function_entry PyProof.Rows.kind_sorted PyProof.Rows.plain_sorted PyProof.Rows.entry_sorted (PyProof.Rows.args_sorted1 _) ?_
  unfold Builtin.«sorted»
  refine wpAny_bind (m := checkCount "sorted" 1 1 _) (wpAny_pure ?_)
  refine wpAny_bind (hc _ _ fun h' tk hkp => ?_)
  refine wpAny_bind (wpAny_newList ?_ hL)
  have hoL : (h'.push (seqObj "list" vs.toArray 0)).get? h'.objs.size = some (seqObj "list" vs.toArray 0) := Heap.get?_push_size _ rfl
  show wpAny _ _ _ _ _ { s with heap := h'.push (seqObj "list" vs.toArray 0), toks := tk }
  -- the heap in which the sort compares
  have old : ∀ b o, s.heap.get? b = some o → (PySem.W.sortingHeap (h'.push (seqObj "list" vs.toArray 0)) h'.objs.size vs).get? b = some o := fun b o e => by
    have e1 := hkp b o e
    exact PySem.W.sortingHeap_old (Nat.ne_of_lt (Heap.lt_size e1)) (Heap.get?_push_of_some _ e1)
  have S : PySem.W.SortsAt prog w A.in1.in1 { s with heap := PySem.W.sortingHeap (h'.push (seqObj "list" vs.toArray 0)) h'.objs.size vs, toks := tk } (PySem.W.dataKind (PySem.W.sortingHeap (h'.push (seqObj "list" vs.toArray 0)) h'.objs.size vs) ds) vs :=
    PySem.W.SortsAt.data (s := { s with heap := PySem.W.sortingHeap (h'.push (seqObj "list" vs.toArray 0)) h'.objs.size vs, toks := tk }) (hr.mono fun _ _ ⟨as, r⟩ => ⟨as, PyProof.Rows.Reads.keeps old r⟩) hal hk hu
  refine wpAny_bind (wpAny_holding (wpAny_call_entry PyProof.Rows.slot_list_sort ⟨_, hoL, rfl⟩ PyProof.Rows.entry_list_sort
    (PySem.W.list_sort_vals (s := { s with heap := h'.push (seqObj "list" vs.toArray 0), toks := tk }) hoL S hL ⟨_, rfl, ?_⟩) (PyProof.Rows.args_list_sort _)))
  obtain ⟨e', he'⟩ := PyProof.Rows.sortedHeap_at (vs := vs) (out := (PySem.W.sortVals (PySem.W.dataKind (PySem.W.sortingHeap (h'.push (seqObj "list" vs.toArray 0)) h'.objs.size vs) ds) false vs vs).toArray) hoL
  refine wpAny_pure ⟨_, rfl, h h' tk hkp _ e' _ (fun b u e => ?_) old he'⟩
  have hb : b < h'.objs.size := Heap.lt_size e
  rw [PyProof.Rows.sortedHeap_old (Nat.ne_of_lt hb) (by rw [size_push']; exact Nat.lt_succ_of_lt hb)]
  exact Heap.get?_push_of_some _ e
end

/-! ### data alike -/
/-- alike data, none of it None at the top, tuples not empty -/
def Alk (ds : List NestedKey) : Prop := PySem.W.AllAlike (ds.map NestedKey.data) ∧ PySem.W.Sortable (ds.map NestedKey.data) ∧ ∀ d ∈ ds, d.data.depth ≤ 60
/-- what can be collected -/
def Src (P : Program) (w : World) (K : PySem.W.Frag) (H : Hp) (a : Addr) (xs : List V) : Prop :=
  SqL K H a xs ∨ SqT K H a xs ∨ ((a == sysModules) = false ∧ ∃ zs, Rd H a (NDo P w a zs) ∧ xs = zs.map fun z => V.ref z.2.1) ∨ (∃ kvs, Rd H a (.dK kvs) ∧ xs = kvs.map fun kv => kV kv.1)
theorem zs_keys {zs : List (NestedKey × Addr × V)} {ys : List (NestedKey × Addr × Value)} (r : Paired ZP zs ys) : (zs.map fun z => V.ref z.2.1) = ys.map fun y => V.ref y.2.1 := by
  induction r with
  | nil => rfl
  | @cons p q ps qs h t ih => rw [List.map_cons, List.map_cons, ih, h.2.1]
theorem vals_refs : ∀ ys : List (NestedKey × Addr × Value), Vals (ys.map fun y => V.ref y.2.1) (ys.map fun y => Value.ref y.2.1)
  | [] => .nil
  | _ :: ys => .cons rfl (vals_refs ys)
theorem vals_of_get : ∀ {xs : List V} {us : List Value}, us.length = xs.length → (∀ (j : Nat) (u : Value), us[j]? = some u → ∃ x, xs[j]? = some x ∧ RelV x u) → Vals xs us
  | [], [], _, _ => .nil
  | x :: xs, u :: us, hl, h => by
    obtain ⟨y, e1, r⟩ := h 0 u rfl
    have e2 : x = y := by simpa using e1
    subst e2
    refine .cons r (vals_of_get (by simpa using hl) fun j v e => ?_)
    obtain ⟨y, a, b⟩ := h (j + 1) v (by simpa using e)
    exact ⟨y, by simpa using a, b⟩
  | [], _ :: _, hl, _ => by simp at hl
  | _ :: _, [], hl, _ => by simp at hl
section
variable {X : Cx} {pins : List (Addr × Obj)} {σ : L2.St} {H : Hp} {s : Shared}
/-- collecting: the values stand for xs, all that stood stands -/
theorem src_collect (I : Inv X pins σ H s) (hh : X.A.handled = none) {a : Addr} {xs : List V} (h : Src X.prog X.w X.K H a xs) (hz : xs.length ≤ sizeLine) : ∃ vs, Vals xs vs ∧
    ∀ (A : Around) (R : List Value → Shared → Prop) (E' : Value → Shared → Prop), A.handled = none → (∀ h' tk, (∀ b o, s.heap.get? b = some o → h'.get? b = some o) → R vs { s with heap := h', toks := tk }) → wpAny (model X.prog X.w) A (collect (.ref a)) R E' s := by
  rcases h with hq | hq | ⟨lo, zs, hq, ex⟩ | ⟨kvs, hq, ex⟩
  · obtain ⟨its, rv, ⟨o, n, ho, hc, hd, hdt⟩, _⟩ := I.list hq
    refine ⟨its, rv, fun A R E' _ hR => wpAny_collect_seq a (.inl rfl) ho hc hdt (fun h' hk => ?_) (by rw [List.size_toArray, ← rv.length]; exact hz)⟩
    exact hR h' s.toks hk
  · obtain ⟨its, rv, ⟨o, ho, hc, n, hdt⟩, _⟩ := I.tuple hq
    refine ⟨its, rv, fun A R E' _ hR => wpAny_collect_seq a (.inr rfl) ho hc hdt (fun h' hk => ?_) (by rw [List.size_toArray, ← rv.length]; exact hz)⟩
    exact hR h' s.toks hk
  · obtain ⟨⟨ys, r, o, es, ep, h1, h2, h3, h4, h5⟩, _, _⟩ := hq.ok I.hok
    have hs : es.size = ys.length := size_of_entries h4
    have hl : es.size = xs.length := by rw [hs, ex, List.length_map, Paired.length r]
    refine ⟨ys.map fun y => Value.ref y.2.1, by rw [ex, zs_keys r]; exact vals_refs ys, fun A R E' hA hR => ?_⟩
    refine PySem.W.kdu_collect (KdlSrc.rawDict (d := a) (es := es) (ep := ep) lo) hA ⟨o, h1, h2, h3⟩ (by rw [hl]; exact hz) fun h' tk acc hk hacc => ?_
    have e : acc.toList = ys.map fun y => Value.ref y.2.1 := by
      refine List.ext_getElem? fun j => ?_
      rw [Array.getElem?_toList, List.getElem?_map]
      by_cases hj : j < acc.size
      · obtain ⟨hi, ev⟩ := hacc.2 j acc[j] (Array.getElem?_eq_getElem hj)
        rw [Array.getElem?_eq_getElem hj, ev]
        have hy : j < ys.length := by omega
        rw [List.getElem?_eq_getElem hy]
        have e2 := entry_at h4 j
        rw [Array.getElem?_eq_getElem hi, List.getElem?_eq_getElem hy] at e2
        have e3 := Option.some.inj (show some es[j] = some (entryOfKey (nestedKind X.prog X.w) ys[j]) from e2)
        rw [e3]
        rfl
      · have h0 : acc.size = es.size := hacc.1
        rw [Array.getElem?_eq_none (by omega), List.getElem?_eq_none (by omega)]
        rfl
    rw [e]
    exact hR h' tk hk
  · obtain ⟨z, lo, ys, rel, dd⟩ := dk_rd I.hok hq
    obtain ⟨es, ep, hr, hs, he⟩ := dd.raw
    have hl : es.size = xs.length := by rw [hs, ex, List.length_map, ← rel.length]
    refine ⟨es.toList.map (·.key), ?_, fun A R E' hA hR => ?_⟩
    · refine vals_of_get (by rw [List.length_map, Array.length_toList]; exact hl) fun j u e => ?_
      rw [List.getElem?_map, Array.getElem?_toList] at e
      by_cases hj : j < es.size
      · rw [Array.getElem?_eq_getElem hj] at e
        have e1 : es[j].key = u := Option.some.inj e
        have hy : j < ys.length := by omega
        have hkv : j < kvs.length := by rw [rel.length]; exact hy
        obtain ⟨b, hb, rb⟩ := paired_get rel (List.getElem?_eq_getElem hkv)
        obtain ⟨h1, _⟩ := he j hj b.1 b.2 (by rw [hb])
        refine ⟨kV kvs[j].1, by rw [ex, List.getElem?_map, List.getElem?_eq_getElem hkv]; rfl, ?_⟩
        rw [rb.1, ← e1]
        rcases keyIs_shape (show keyIs b.1 es[j].key = true from h1) with ⟨i, t, ek, ev⟩ | ⟨x, t, ek, ev⟩
        · rw [ek, ev]
          exact ⟨t, rfl⟩
        · rw [ek, ev]
          exact ⟨t, rfl⟩
      · rw [Array.getElem?_eq_none (by omega)] at e
        cases e
    · refine PySem.W.kdu_collect (KdlSrc.rawDict (d := a) (es := es) (ep := ep) lo) hA hr (by rw [hl]; exact hz) fun h' tk acc hk hacc => ?_
      have e : acc.toList = es.toList.map (·.key) := by
        refine List.ext_getElem? fun j => ?_
        rw [Array.getElem?_toList, List.getElem?_map, Array.getElem?_toList]
        by_cases hj : j < acc.size
        · obtain ⟨hi, ev⟩ := hacc.2 j acc[j] (Array.getElem?_eq_getElem hj)
          rw [Array.getElem?_eq_getElem hj, ev, Array.getElem?_eq_getElem hi]
          rfl
        · have h0 : acc.size = es.size := hacc.1
          rw [Array.getElem?_eq_none (by omega), Array.getElem?_eq_none (by omega)]
          rfl
      rw [e]
      exact hR h' tk hk
end
/-- sorted: some arrangement, in order -/
def rSortN (P : Program) (w : World) (K : PySem.W.Frag) : List V → Hp → VK → Prop := fun vs H Q => ∃ (a : Addr) (xs : List V) (ds : List NestedKey), vs = [.ref a] ∧ Src P w K H a xs ∧ NKs K H ds xs ∧ Alk ds ∧ xs.length ≤ sizeLine ∧
  ∀ p, H p = none → Q (.ref p) (upd H p (.lst (((ds.zip xs).mergeSort (PySem.W.dataLe false fun b => b.1.data)).map (·.2))))
theorem each_zip {R : V → Value → Prop} : ∀ {ds : List NestedKey} {xs : List V} {vs : List Value}, ds.length = xs.length → Paired R xs vs → PySem.W.EachIs (fun v b => R b.2 v) vs (ds.zip xs)
  | [], [], _, _, .nil => .nil
  | d :: ds, x :: xs, _, hl, .cons r t => .cons r (each_zip (by simpa using hl) t)
theorem vals_each {β : Type} (f : β → V) : ∀ {vs : List Value} {bs : List β}, PySem.W.EachIs (fun v b => RelV (f b) v) vs bs → Vals (bs.map f) vs
  | _, _, .nil => .nil
  | _, _, .cons r t => .cons r (vals_each f t)
theorem zip_fst : ∀ {ds : List NestedKey} {xs : List V}, ds.length = xs.length → (ds.zip xs).map (fun b => b.1.data) = ds.map NestedKey.data
  | [], [], _ => rfl
  | d :: ds, x :: xs, hl => by
    rw [List.zip_cons_cons, List.map_cons, List.map_cons, zip_fst (by simpa using hl)]
theorem each_reads {X : Cx} {pins : List (Addr × Obj)} {σ : L2.St} {H : Hp} {s : Shared} (I : Inv X pins σ H s) : ∀ {ds : List NestedKey} {xs : List V} {vs : List Value}, NKs X.K H ds xs → Vals xs vs → PySem.W.EachIs (fun v d => ∃ as, Reads s.heap v d as) vs (ds.map NestedKey.data)
  | [], _, _, h, r => by
    cases h
    cases r
    exact .nil
  | d :: ds, _, _, h, r => by
    cases h with
    | cons h1 h2 =>
      cases r with
      | cons r1 r2 => exact .cons (Dp.reads I _ _ _ (NK.dp _ _ h1) r1) (each_reads I h2 r2)
theorem cr_sortN {X : Cx} {n : Nat} (hr : Room n X.A) (hc : X.calm = true) : CallR X (.builtin "sorted") (rSortN X.prog X.w X.K) := by
  intro pins s σ H vs us Q I r h
  obtain ⟨a, xs, ds, rfl, hs, hn, hal, hz, q⟩ := h
  obtain ⟨u, rfl, ru⟩ := vals1 r
  obtain rfl : u = Value.ref a := ru
  obtain ⟨vs, rv, hcol⟩ := src_collect I (I.ok.hd hc) hs hz
  have hl : ds.length = xs.length := hn.length.symm
  have hun := hr.un
  refine sorted_from (ds := ds.map NestedKey.data) (by rw [← rv.length]; exact hz) (fun R E' k => hcol _ R E' (show X.A.in1.handled = none from I.ok.hd hc) k) (each_reads I hn rv) hal.1 hal.2.1 (fun d hd => ?_) fun h1 tk k1 h2 e hp k2 k3 he => ?_
  · obtain ⟨b, hb, rfl⟩ := List.mem_map.mp hd
    have := hal.2.2 b hb
    omega
  · have I1 : Inv X pins σ H { s with heap := h1, toks := tk } := I.kept k1
    have hzip : (ds.zip xs).map (fun b => b.1.data) = ds.map NestedKey.data := zip_fst hl
    have E1 : PySem.W.EachIs (fun v (b : NestedKey × V) => RelV b.2 v) vs (ds.zip xs) := each_zip hl rv
    have E2 : PySem.W.EachIs (fun v (b : NestedKey × V) => ∃ as, Reads hp v b.1.data as) vs (ds.zip xs) := by
      have z := (each_reads I hn rv).mono fun _ _ ⟨as, r⟩ => (⟨as, PyProof.Rows.Reads.keeps k3 r⟩ : ∃ as, Reads hp _ _ as)
      rw [← hzip] at z
      exact PySem.W.each_of_map (fun b : NestedKey × V => b.1.data) z
    have E3 := PySem.W.sortVals_data (h' := hp) (enc := fun b : NestedKey × V => b.1.data) false E1 E2 (by rw [hzip]; exact hal.1)
    rw [hzip] at E3
    have hv := vals_each (fun b : NestedKey × V => b.2) E3
    refine ⟨.ref h1.objs.size, _, I1.laid (t' := tk) k2 (Nat.le_refl _) (show ObjOk X.prog X.w _ _ _ (.lst _) from ⟨?_, _, e, hv, he⟩), rfl, q _ (I1.hok.fresh (Nat.le_refl _))⟩
    rw [List.length_map, List.length_mergeSort, List.length_zip]
    omega
end G6

-- G6Le
namespace G6
open PySem PySem.Spec PyProof.Rows L2

/-! ### {k: v} -/
theorem dict_pairs_at {prog : Program} {w : World} {A : Around} {E : Value → Shared → Prop} {s : Shared} {env : Env} {keys : List (Option Expr)} {values : List Expr} {pos : Pos} {pairs : List (Sem Value × Sem Value)} {Q : Value → Shared → Prop} (hu : (nestedKind prog w).room A)
    (hshape : (evalEachOpt keys env).zip ((evalEach values env).map fun v => do let x ← v; standAt pos; pure x) = pairs.map fun p => (some p.1, p.2)) (h0 : pairs ≠ []) (hlen : pairs.length ≤ 15)
    (h : wpAny (model prog w) A (evalPairs pairs) (fun vs s1 => ∃ ps, CarriesH (nestedKind prog w) s1.heap vs ps ∧ s1.heap.DictOfH (nestedKind prog w) s.heap.objs.size [] ∧
      ∀ h' tk, h'.DictOfH (nestedKind prog w) s.heap.objs.size (storedAllH [] ps) → Heap.SameBut s.heap.objs.size s1.heap h' → Q (.ref s.heap.objs.size) { s1 with heap := h', toks := tk }) E
      { s with heap := s.heap.push { cls := .type "dict", data := .dict #[] } }) :
    wpAny (model prog w) A (eval (.Dict keys values pos) env) Q E s := by
  rw [arm_eval_Dict, hshape, dictDisplay_pairs pairs h0 (by omega)]
  refine wpAny_bind (wpAny_standAt (wpAny_bind (wpAny_subDictH (knd := nestedKind prog w) (Q := fun d s' => wpAny (model prog w) A (pure (Value.ref d)) Q E s') hu hlen ?_)))
  refine wpAny_mono h (fun vs s1 h1 => ?_) fun _ _ e => e
  obtain ⟨ps, hc, hm, hq⟩ := h1
  exact ⟨ps, hc, hm, fun h' tk a b => wpAny_pure (hq h' tk a b)⟩
section
variable {X : Cx} {κ : Type} [DecidableEq κ] {E : Enc κ} {pos : Pos}
def tNDisp (P : Program) (w : World) (K : PySem.W.Frag) (E : Enc κ) (tk tv : TE) : TE := fun σ H Q => ∀ p, H p = none → (p == sysModules) = false → tk σ (upd H p (NDo P w p [])) fun y H1 => tv σ H1 fun v H2 => H2 p = some (NDo P w p []) ∧ ∃ b k, y = .ref b ∧ NK K H2 (E.f k) (.ref b) ∧
  ∀ o, ND P w K (upd H2 p o) E p [(k, v)] → Q (.ref p) (upd H2 p o)
theorem pe_ndisp {n : Nat} {k v : Expr} {tk tv : TE} (hr : Room n X.A) (hk : PE X k tk) (hv : PE X v tv) : PE X (.Dict [some k] [v] pos) (tNDisp X.prog X.w X.K E tk tv) := by
  refine ⟨fun pins s σ H Q I q => ?_⟩
  have hn := I.hok.fresh (Nat.le_refl s.heap.objs.size)
  have I1 := I.laid (a := s.heap.objs.size) (o := NDo X.prog X.w s.heap.objs.size []) (h' := s.heap.push { cls := .type "dict", data := .dict #[] }) (t' := s.toks) (fun _ _ q => Heap.get?_push_of_some _ q) (Nat.le_refl _) (nd_fresh s.heap)
  have hroom : (nestedKind X.prog X.w).room X.A := by
    have := hr.un
    show X.A.units + 8 < cLine
    omega
  refine dict_pairs_at hroom (zip_pairTrees [some k] [v] X.env pos rfl rfl) (by intro e; cases e) (by show 1 ≤ 15; decide) ?_
  refine pairTrees_cons_walk (thn (hk.run pins _ σ _ _ I1 (q _ hn (big_ne I))) fun u s1 ⟨y, H1, I2, ry, q1⟩ => thn (hv.run pins s1 σ H1 _ I2 q1) fun w2 s2 ⟨z, H2, I3, rz, hD, b, kk, ey, hb, q2⟩ => pairTrees_nil_walk ?_)
  subst ey
  cases ry
  have nd0 : ND X.prog X.w X.K H2 E s.heap.objs.size [] := ND.empty (big_ne I) hD
  obtain ⟨ys, kn, hd⟩ := nd_of I3 nd0.r
  cases kn
  refine ⟨[(E.f kk, b, w2)], ⟨rfl, rfl, key_is I3 hb, True.intro⟩, hd, fun h' tk hd' hs => ?_⟩
  have kn1 : KN X.K H2 E [(kk, z)] [(E.f kk, b, w2)] := .cons ⟨rfl, hb, rz⟩ .nil
  obtain ⟨o, I4, n4⟩ := n_write (t' := tk) I3 nd0 hs kn1 (by show 1 ≤ sizeLine; decide) (show h'.DictOfH (nestedKind X.prog X.w) s.heap.objs.size [(E.f kk, b, w2)] from hd')
  exact ⟨.ref s.heap.objs.size, _, I4, rfl, q2 o n4⟩
end

/-! ### d.update(e) -/
section
variable {X : Cx} {κ : Type} [DecidableEq κ] {E : Enc κ}
def mergeN (kvs more : List (κ × V)) : List (κ × V) := more.foldl (fun acc kv => putK acc kv.1 kv.2) kvs
theorem KN.merge {K : PySem.W.Frag} {H : Hp} : ∀ {more : List (κ × V)} {rs : List (NestedKey × Addr × Value)} {kvs : List (κ × V)} {ys : List (NestedKey × Addr × Value)}, KN K H E more rs → KN K H E kvs ys → KN K H E (mergeN kvs more) (storedAllH ys rs)
  | _, _, _, _, .nil, q => q
  | p :: _, r :: _, _, _, .cons a t, q => by
    have e : r.1 = E.f p.1 := a.1.symm
    have z := KN.merge t (q.put p.1 (b := r.2.1) (by rw [← e]; exact a.2.1) a.2.2)
    show KN K H E (mergeN (putK _ p.1 p.2) _) (storedAllH (storedH _ r.1 r.2.1 r.2.2) _)
    rw [e]
    exact z
theorem length_mergeN : ∀ (more kvs : List (κ × V)), (mergeN kvs more).length ≤ kvs.length + more.length
  | [], kvs => Nat.le_refl _
  | p :: r, kvs => by
    have h1 := length_mergeN r (putK kvs p.1 p.2)
    have h2 := length_putK kvs p.1 p.2
    show (mergeN (putK kvs p.1 p.2) r).length ≤ kvs.length + (r.length + 1)
    omega
def rNUpd (P : Program) (w : World) (K : PySem.W.Frag) (E : Enc κ) (wd : World) : V → V → Hp → VK → Prop := fun x y H Q => ∃ d e kvs more, x = .ref d ∧ y = .ref e ∧ d ≠ e ∧ ND P w K H E d kvs ∧ NDr P w K H E e more ∧ kvs.length + more.length ≤ sizeLine ∧
  (kvs ≠ [] ∨ (more.map fun p => (E.f p.1).hash wd).Nodup) ∧ ∀ o, ND P w K (upd H d o) E d (mergeN kvs more) → Q .non (upd H d o)
theorem kn_types {pins : List (Addr × Obj)} {σ : L2.St} {H : Hp} {s : Shared} (I : Inv X pins σ H s) : ∀ {kvs : List (κ × V)} {ys : List (NestedKey × Addr × Value)}, KN X.K H E kvs ys → ∀ y ∈ ys, s.TypeIs (.ref y.2.1) "tuple"
  | _, _, .nil, y, hy => nomatch hy
  | p :: _, q :: _, .cons a t, y, hy => by
    rcases List.mem_cons.mp hy with e | hy
    · subst e
      have z := (NK.is I _ _ _ a.2.1 rfl : NestedIs s.heap y.1 (.ref y.2.1))
      generalize y.1 = k at z
      cases z with
      | tup h1 h2 _ _ => exact ⟨_, h1, h2⟩
    · exact kn_types I t y hy
theorem kn_hash {K : PySem.W.Frag} {H : Hp} (P : Program) (w : World) : ∀ {kvs : List (κ × V)} {ys : List (NestedKey × Addr × Value)}, KN K H E kvs ys → (ys.map fun y => (nestedKind P w).hash y.1) = kvs.map fun p => (E.f p.1).hash w
  | _, _, .nil => rfl
  | p :: _, q :: _, .cons a t => by
    rw [List.map_cons, List.map_cons, kn_hash P w t, ← a.1]
    rfl
/-- a method of a dict with nested keys -/
def tNM (P : Program) (w : World) (K : PySem.W.Frag) (E : Enc κ) (r : V → List V → Hp → VK → Prop) (to : TE) (t : TA) : TE := fun σ H Q => to σ H fun x H1 => (∃ d kvs, x = .ref d ∧ NDr P w K H1 E d kvs) ∧ t σ H1 fun xs H2 => r x xs H2 Q
theorem pe_nm {o e : Expr} {es : List Expr} {name : Str} {id : String} {apos cpos : Pos} {to : TE} {t : TA} {r : V → List V → Hp → VK → Prop} (slot : Slot "dict" name id) (hty : typeOf (.builtin id) = pure (.type "method_descriptor")) (hm : MtR X id r) (ho : PE X o to) (ha : PA X (e :: es) t)
    (hbase : attributeBase o name X.env (eval o X.env) = eval o X.env := by rfl)
    (hfew : ((backTo cpos (starEach (e :: es) X.env)).all (fun x => !x.1) && (backToKw cpos (keywordEach [] X.env)).all (fun x => x.1.isSome)
      && decide ((e :: es).length + ([] : List Keyword).length + (if ([] : List Keyword).isEmpty then 0 else 1) < 30)) = true := by rfl)
    (hline : (apos.endLine == cpos.line) = true := by rfl) (hs : starEach (e :: es) X.env = (false, eval e X.env) :: starEach es X.env := by rfl) (hplain : (backTo cpos (starEach es X.env)).any (·.1) = false := by rfl) :
    PE X (.Call (.Attribute o name apos) (e :: es) [] cpos) (tNM X.prog X.w X.K E r to t) := by
  refine ⟨fun pins s σ H Q I h => ?_⟩
  refine wpAny_Call_method_late hbase hfew hline rfl (thn (ho.run pins s σ H _ I h) fun v s1 ⟨x, H1, I1, r1, ⟨d, kvs, ex, hd⟩, q1⟩ => ?_)
  subst ex
  cases r1
  obtain ⟨ys, kn, hdd⟩ := nd_of I1 hd
  refine ⟨"dict", id, PySem.F.plainAttrs_dict, slot, hty, hdd.typeIs, fun a ea => ?_, ?_⟩
  · cases ea
    obtain ⟨ob, es, ep, h1, h2, _⟩ := hdd
    exact ⟨ob, h1, h2.2.1⟩
  · have hA := ha.run cpos pins s1 σ H1 _ I1 q1
    rw [hs] at hA ⊢
    refine Calls.callWith_builtin (by show (false || (backTo cpos (starEach es X.env)).any (·.1)) = false; rw [hplain] <;> rfl) (Calls.evalArgs_plain ?_)
    exact thn hA fun us s2 ⟨vs, H2, I2, r2, q2⟩ => hm pins s2 σ H2 (.ref d) vs (.ref d) us Q I2 rfl r2 q2
theorem mt_nupd {n : Nat} (hr : Room n X.A) : MtR X "dict.update" (fun x xs H Q => ∃ y, xs = [y] ∧ rNUpd X.prog X.w X.K E X.w x y H Q) := by
  intro pins s σ H x xs v us Q I rx rxs h
  obtain ⟨y, rfl, d, e, kvs, more, rfl, rfl, hde, hd, he, hz, hap, q⟩ := h
  cases rx
  cases rxs with
  | cons ry rt =>
    cases rt
    cases ry
    obtain ⟨ys, kn, hdd⟩ := nd_of I hd.r
    obtain ⟨rs, km, hee⟩ := nd_of I he
    have hlen : ys.length + rs.length ≤ sizeLine := by rw [← Paired.length kn, ← Paired.length km]; exact hz
    refine call_update_dictH (nroom hr) hde he.1 hdd hee ?_ hlen fun h' hd' _ hs => ?_
    · rcases hap with z | z
      · refine .inl fun e0 => z ?_
        subst e0
        cases kn
        rfl
      · exact .inr ⟨kn_types I km, by rw [kn_hash X.prog X.w km]; exact z⟩
    · obtain ⟨o, I4, n4⟩ := n_write (t' := s.toks) I hd hs (km.merge kn) (Nat.le_trans (length_mergeN more kvs) hz) hd'
      exact ⟨.non, _, I4, rfl, q o n4⟩
/-- len(d) -/
theorem call_lenN {n : Nat} (hr : Room n X.A) : CallR X (.builtin "len") (fun xs H Q => ∃ d kvs, xs = [.ref d] ∧ NDr X.prog X.w X.K H E d kvs ∧ Q (.int (kvs.length : Nat)) H) := by
  intro pins s σ H xs us Q I r h
  obtain ⟨d, kvs, rfl, hd, q⟩ := h
  obtain ⟨u, rfl, ru⟩ := vals1 r
  cases ru
  obtain ⟨ys, kn, hdd⟩ := nd_of I hd
  have hk : s.heap.DictKeyed (nestedKind X.prog X.w) d (pairsH ys) := ⟨ys, hdd, rfl⟩
  have hl : (pairsH ys).length = kvs.length := by rw [pairsH_length, Paired.length kn]
  have hz := hd.2.1
  rw [sizeLine_eq] at hz
  refine PyProof.Rows.call_len_slot (n := ((pairsH ys).length : Nat)) hk.typeIs PySem.F.slot_dict_len (fun Q' hq => len_keyed hd.1 hk hq) (by omega) (by omega) ?_
  rw [hl]
  exact ⟨.int (kvs.length : Nat), H, I.tok _, ⟨_, rfl⟩, q⟩
end
end G6

-- G6Lf
namespace G6
open PySem PySem.Spec PyProof.Rows L2

/-! ### data without texts -/
mutual
def intK : NestedKey → Bool
  | .none => true
  | .num _ => true
  | .text _ => false
  | .tup ks => intKs ks
def intKs : List NestedKey → Bool
  | [] => true
  | k :: ks => intK k && intKs ks
end
mutual
theorem lay_int : ∀ k : NestedKey, intK k = true → k.data.canLay0 = true
  | .none, _ => by simp [NestedKey.data, PyData.canLay0]
  | .num _, _ => by simp [NestedKey.data, PyData.canLay0]
  | .text _, h => by simp [intK] at h
  | .tup ks, h => by
    simp only [NestedKey.data, PyData.canLay0]
    exact lay_ints ks (by simpa [intK] using h)
theorem lay_ints : ∀ ks : List NestedKey, intKs ks = true → PyData.canLayAll0 (NestedKey.datas ks) = true
  | [], _ => by simp [NestedKey.datas, PyData.canLayAll0]
  | k :: ks, h => by
    simp only [intKs, Bool.and_eq_true] at h
    simp only [NestedKey.datas, PyData.canLayAll0]
    rw [lay_int k h.1, lay_ints ks h.2]
    rfl
end
mutual
theorem depth_data : ∀ k : NestedKey, k.data.depth = k.depth
  | .none => by simp [NestedKey.data, PyData.depth, NestedKey.depth]
  | .num _ => by simp [NestedKey.data, PyData.depth, NestedKey.depth]
  | .text _ => by simp [NestedKey.data, PyData.depth, NestedKey.depth]
  | .tup ks => by
    have := depth_datas ks
    simp only [NestedKey.data, PyData.depth, NestedKey.depth]
    omega
theorem depth_datas : ∀ ks : List NestedKey, PyData.depthAll (NestedKey.datas ks) = NestedKey.depthAll ks
  | [] => by simp [NestedKey.datas, PyData.depthAll, NestedKey.depthAll]
  | k :: ks => by
    have h1 := depth_data k
    have h2 := depth_datas ks
    simp only [NestedKey.datas, PyData.depthAll, NestedKey.depthAll]
    rw [h1, h2]
end
theorem datas_map : ∀ ks : List NestedKey, NestedKey.datas ks = ks.map NestedKey.data
  | [] => by simp [NestedKey.datas]
  | k :: ks => by simp [NestedKey.datas, datas_map ks]
section
variable {X : Cx}
/-- x in (a tuple or list of data without texts) -/
def rInN (K : PySem.W.Frag) : R2 := fun x y H Q => ∃ (k : NestedKey) (ks : List NestedKey) (a : Addr) (vs : List V), NK K H k x ∧ y = .ref a ∧ (SqT K H a vs ∨ SqL K H a vs) ∧ NKs K H ks vs ∧ intK k = true ∧ intKs ks = true ∧ k.depth ≤ 60 ∧ Q (.bl (decide (k ∈ ks))) H
theorem any_dec (k : NestedKey) : ∀ ks : List NestedKey, ((NestedKey.datas ks).any fun y => PyData.eqv y k.data) = decide (k ∈ ks)
  | [] => by simp [NestedKey.datas]
  | l :: ks => by
    simp only [NestedKey.datas, List.any_cons]
    rw [any_dec k ks, eqv_dec]
    by_cases e : l = k
    · subst e
      simp
    · have e2 : ¬ k = l := fun z => e z.symm
      simp [e, e2]
theorem op_inN {n : Nat} (hr : Room n X.A) : OpR X (compareOp .In) (rInN X.K) := by
  intro pins s σ H x y v u Q I rx ry h
  obtain ⟨k, ks, a, vs, hk, rfl, hq, hn, hi, his, hd, q⟩ := h
  cases ry
  have hun := hr.un
  obtain ⟨as, r1⟩ := Dp.reads I _ _ _ (NK.dp _ _ hk) rx
  have hdep : X.A.units + 1 + min (PyData.depthAll (NestedKey.datas ks)) k.data.depth < cLine := by
    rw [depth_data]
    omega
  rcases hq with hq | hq
  · obtain ⟨bs, r2⟩ := Dp.reads I (.tuple (NestedKey.datas ks)) (.ref a) (.ref a) (.tup hq (NKs.dp _ _ hn)) rfl
    refine SeqAt.in_tuple_reads r2 r1 (lay_ints _ his) (lay_int _ hi) hdep ?_
    rw [any_dec]
    exact ⟨.bl _, H, I, rfl, q⟩
  · obtain ⟨bs, r2⟩ := Dp.reads I (.list (NestedKey.datas ks)) (.ref a) (.ref a) (.lst hq (NKs.dp _ _ hn)) rfl
    refine SeqAt.in_list_reads r2 r1 (lay_ints _ his) (lay_int _ hi) hdep ?_
    rw [any_dec]
    exact ⟨.bl _, H, I, rfl, q⟩
/-- == and != of data without texts -/
def rEqN (K : PySem.W.Frag) (neg : Bool) : R2 := fun x y H Q => ∃ (k l : NestedKey), NK K H k x ∧ NK K H l y ∧ intK k = true ∧ intK l = true ∧ k.depth ≤ 60 ∧ l.depth ≤ 60 ∧ Q (.bl (if neg then !decide (k = l) else decide (k = l))) H
theorem shaped_int {k : NestedKey} (h : intK k = true) (hd : k.depth ≤ 60) : SeqAt.shaped k.data = true := by
  show (k.data.canLay0 && decide (k.data.depth ≤ 64)) = true
  rw [lay_int k h, depth_data, decide_eq_true (by omega)]
  rfl
theorem op_eqN {n : Nat} (hr : Room n X.A) : OpR X (compareOp .Eq) (rEqN X.K false) := by
  intro pins s σ H x y v u Q I rx ry h
  obtain ⟨k, l, hk, hl, i1, i2, d1, d2, q⟩ := h
  have hun := hr.un
  refine op_eqD (by omega) pins s σ H x y v u Q I rx ry ⟨k.data, l.data, NK.dp _ _ hk, NK.dp _ _ hl, shaped_int i1 d1, shaped_int i2 d2, ?_⟩
  rw [eqv_dec]
  exact q
theorem op_neN {n : Nat} (hr : Room n X.A) : OpR X (compareOp .NotEq) (rEqN X.K true) := by
  intro pins s σ H x y v u Q I rx ry h
  obtain ⟨k, l, hk, hl, i1, i2, d1, d2, q⟩ := h
  have hun := hr.un
  refine op_neD (by omega) pins s σ H x y v u Q I rx ry ⟨k.data, l.data, NK.dp _ _ hk, NK.dp _ _ hl, shaped_int i1 d1, shaped_int i2 d2, ?_⟩
  rw [eqv_dec]
  exact q

/-! ### max of a tuple of ints -/
theorem ints_ann : ∀ ns : List Int, NestedKey.datas (ns.map .num) = ns.map PyData.int
  | [] => by simp [NestedKey.datas]
  | n :: ns => by simp [NestedKey.datas, NestedKey.data, ints_ann ns]
theorem cr_maxT {n : Nat} (hr : Room n X.A) (hc : X.calm = true) : CallR X (.builtin "max") (fun xs H Q => ∃ (a : Addr) (m : Int) (ns : List Int), xs = [.ref a] ∧ SqT X.K H a ((m :: ns).map V.int) ∧ Q (.int (ns.foldl max m)) H) := by
  intro pins s σ H xs us Q I r h
  obtain ⟨a, m, ns, rfl, hq, q⟩ := h
  obtain ⟨u, rfl, ru⟩ := vals1 r
  obtain rfl : u = Value.ref a := ru
  obtain ⟨its, rv, ht, hz⟩ := I.tuple hq
  have hun := hr.un
  obtain ⟨as, ra⟩ := Dp.readsAll I (NestedKey.datas ((m :: ns).map .num)) _ _ (NKs.dp _ _ (NKs.ints (K := X.K) (H := H) (m :: ns))) rv
  rw [ints_ann] at ra
  have hdep : PyData.depthAll ((m :: ns).map PyData.int) = 0 := PySem.W.depth_ints _
  refine PySem.W.max_tuple_data (x := .int m) (xs := ns.map PyData.int) (I.ok.hd hc) ht (by simpa using ra) ⟨fun x hx y hy => ?_, fun x hx => ?_⟩ (by
    have e : PyData.depthAll (PyData.int m :: ns.map PyData.int) = 0 := hdep
    rw [e]
    omega) fun i v h' tk bs hv rd hk => ?_
  · obtain ⟨i, _, rfl⟩ := List.mem_map.mp (show x ∈ (m :: ns).map PyData.int from hx)
    obtain ⟨j, _, rfl⟩ := List.mem_map.mp (show y ∈ (m :: ns).map PyData.int from hy)
    simp [PySem.W.alike]
  · obtain ⟨i, _, rfl⟩ := List.mem_map.mp (show x ∈ (m :: ns).map PyData.int from hx)
    intro e
    cases e
  · rw [PySem.W.maxD_ints] at rd
    cases rd with
    | int _ t => exact ⟨.int _, H, I.kept hk, ⟨_, rfl⟩, q⟩

/-! ### set(tuple of ints) -/
theorem cr_setI (hc : X.calm = true) : CallR X (.type "set") (fun xs H Q => ∃ (a : Addr) (ns : List Int), xs = [.ref a] ∧ SqT X.K H a (ns.map V.int) ∧ ns.length ≤ 1000 ∧
    ∀ p c, H p = none → c ≤ ns.length → Q (.ref p) (upd H p (SetO X.w p (fun j => decide (j ∈ ns)) c))) := by
  intro pins s σ H xs us Q I r h
  obtain ⟨a, ns, rfl, hq, hz, q⟩ := h
  obtain ⟨u, rfl, ru⟩ := vals1 r
  obtain rfl : u = Value.ref a := ru
  obtain ⟨its, rv, ht, _⟩ := I.tuple hq
  refine call_set_tupI ns (I.ok.hd hc) ht (by simpa using rv.ints) (by unfold scanBound; omega) fun h' tk c R hcl hk => ?_
  exact ⟨.ref s.heap.objs.size, _, I.laid (t' := tk) hk (Nat.le_refl _) (setO_new R), rfl, q _ c (I.hok.fresh (Nat.le_refl _)) hcl⟩
end
end G6

-- G6Lg
namespace G6
open PySem PySem.Spec PyProof.Rows L2

/-! ### {k: v for target in iter}, the keys nested tuples -/
section
variable {X : Cx} {κ : Type} [DecidableEq κ] {E : Enc κ}
/-- what a turn leaves: one more entry -/
def tNC (P : Program) (w : World) (K : PySem.W.Frag) (E : Enc κ) (wi : TI) (g : TG) (tk tv : TE) (vs : List Nat) : TE := fun σ H Q => wi σ H fun J H1 => ∀ D, H1 D = none → (D == sysModules) = false → ∃ W : Nat → Nat → Hp → Prop, (∃ m, W 0 m (upd H1 D (NDo P w D []))) ∧
  ∀ i m H, W i m H → (J.stop i H ∧ Q (.ref D) H) ∨ (J.go i H ∧ ∃ Nx : Hp → Prop, (∀ H', Nx H' → ∃ m', m' < m ∧ W (i + 1) m' H') ∧
    ∀ x H', J.yld i H x H' → g x (wipe σ vs) H' fun σ2 H2 => wipe σ2 vs = wipe σ vs ∧ tk σ2 H2 fun y H4 => tv σ2 H4 fun z H5 =>
      ∃ b kvs k, y = .ref b ∧ ND P w K H5 E D kvs ∧ NK K H5 (E.f k) (.ref b) ∧ kvs.length < sizeLine ∧ ∀ o, ND P w K (upd H5 D o) E D (putK kvs k z) → Nx (upd H5 D o))
abbrev CT (X : Cx) (scope : Scope) (p : Cx → Prop) : Prop := ∀ (s : Shared) (H : Hp) (C : Addr) (cl : List (Str × Addr)) (fp : List Addr), p (X.blk s H scope (compEnvC scope cl C X.env) fp)
theorem nc_core {pins : List (Addr × Obj)} {s : Shared} {σ : L2.St} {H : Hp} {Q : VK} {kx vx tg iter : Expr} {scope : Scope} {own : List (Str × Nat)} {pos pos' : Pos} {wi : TI} {g : TG} {tk tv : TE} {use : Option (Value → Sem Unit)} {Qf : Value → Shared → Prop} {n0 : Nat}
    (hr : Room n0 X.A) (hc : X.calm = true) (hN : X.N.Nodup) (I : Inv X pins σ H s) (hi : PI X tg iter wi) (ok : BlkOk X.N X.env.scope scope own)
    (hg : CT X scope fun Y => PG Y tg g) (hk : CT X scope fun Y => PE Y kx tk) (he : CT X scope fun Y => PE Y vx tv) (hs : ∀ x, foldedSetIterable iter X.env x = pure x)
    (h : tNC X.prog X.w X.K E wi g tk tv (own.map (·.2)) σ H Q)
    (hRR : ∀ D C s' m H', Inv X pins σ H' s' → Q (.ref D) H' → s'.heap.Ns C m → FpOk X pins H' C → compPost (model X.prog X.w) X.A X.xe use Qf (.ref D) C (.ok .next) s') :
    wpAny (model X.prog X.w) X.A (comprehension (.DictComp kx vx [⟨tg, iter, [], 0⟩] scope pos) scope X.env pos' newDict false (eval iter X.env) use) Qf X.xe s := by
  have hroom : (nestedKind X.prog X.w).room X.A := by
    have := hr.un
    show X.A.units + 8 < cLine
    omega
  have hfree : ∀ y ∈ scope.names, y.2 = .free → ∃ c, X.env.cells.lookup y.1 = some c := fun y hy e =>
    I.ok.has _ ((ok.free y hy e).elim (fun k => .inl k) fun k => .inr k)
  refine wpAny_comprehension_free (use := use) rfl hs (closure_ok hfree) ok.kind (fun y hy e => by rw [ok.uniq y hy, e]) (thn (hi.run pins s σ H _ I h) fun xv s1 hx => thn hx fun itv s2 h2 => ?_)
  obtain ⟨it, fp, tn, J, H2, e, I2, T, st2, f2, q⟩ := h2
  subst e
  refine wpAny_newObj_type (newEnv_comp ?_)
  have hbig := big_ne I2
  generalize hD : s2.heap.objs.size = D at hbig
  have hDn : H2 D = none := I2.hok.fresh (Nat.le_of_eq hD)
  obtain ⟨W, ⟨m0, w0⟩, turn⟩ := q D hDn hbig
  generalize hs3 : ({ s2 with heap := s2.heap.push { cls := .type "dict", data := .dict #[] } } : Shared) = s3
  have I3 : Inv X pins σ (upd H2 D (NDo X.prog X.w D [])) s3 := by
    rw [← hs3]
    refine I2.laid (t' := s2.toks) (fun b o e => Heap.get?_push_of_some _ e) (Nat.le_of_eq hD) ?_
    rw [← hD]
    exact nd_fresh s2.heap
  have h3 : s3.heap = s2.heap.push { cls := .type "dict", data := .dict #[] } := by rw [← hs3]
  have f3 : ∀ b ∈ fp, FpOk X pins (upd H2 D (NDo X.prog X.w D [])) b ∧ b < s3.heap.objs.size := fun b hb => by
    obtain ⟨o, e, _⟩ := T.obj _ _ st2 b hb
    have hlt : b < s2.heap.objs.size := Heap.lt_size e
    refine ⟨⟨?_, (f2 b hb).2⟩, by rw [h3, Heap.size_push]; exact Nat.lt_succ_of_lt hlt⟩
    rw [upd_ne (by rw [← hD]; exact Nat.ne_of_lt hlt)]
    exact (f2 b hb).1
  have st3 : tn 0 s3.heap := T.keep _ _ _ st2 fun b _ o e => by rw [h3]; exact Heap.get?_push_of_some _ e
  have I4 := block_start I3 ok hN f3
  have pg := hg s3 (upd H2 D (NDo X.prog X.w D [])) s3.heap.objs.size (cellsFrom (s3.heap.objs.size + 1) scope.names (cloFrom X.env.cells scope.names [])) fp
  have pk := hk s3 (upd H2 D (NDo X.prog X.w D [])) s3.heap.objs.size (cellsFrom (s3.heap.objs.size + 1) scope.names (cloFrom X.env.cells scope.names [])) fp
  have pe := he s3 (upd H2 D (NDo X.prog X.w D [])) s3.heap.objs.size (cellsFrom (s3.heap.objs.size + 1) scope.names (cloFrom X.env.cells scope.names [])) fp
  show codeAny _ _ (.compStart (.DictComp kx vx [⟨tg, iter, [], 0⟩] scope pos) 0 (.ref it) (.ref D) (compEnvC scope (cellsFrom (s3.heap.objs.size + 1) scope.names (cloFrom X.env.cells scope.names [])) s3.heap.objs.size X.env)) (compPost (model X.prog X.w) X.A X.xe use Qf (.ref D) s3.heap.objs.size) { s3 with heap := pushCells (s3.heap.push { cls := .type "dict", data := .dict #[] }) scope.names }
  have nfp : ∀ b ∈ fp, (upd H2 D (NDo X.prog X.w D [])) b = none := fun b hb => (f3 b hb).1.1
  generalize hce : compEnvC scope (cellsFrom (s3.heap.objs.size + 1) scope.names (cloFrom X.env.cells scope.names [])) s3.heap.objs.size X.env = ce at I4 pg pk pe ⊢
  have cL : ce.locals = s3.heap.objs.size := by subst hce; rfl
  generalize hH3 : upd H2 D (NDo X.prog X.w D []) = H3 at I3 I4 pg pk pe w0 nfp f3
  generalize hs4 : ({ s3 with heap := pushCells (s3.heap.push { cls := .type "dict", data := .dict #[] }) scope.names } : Shared) = s4 at I4 ⊢
  have st4 : tn 0 s4.heap := T.keep _ _ _ st3 fun b _ o e => by rw [← hs4]; exact pushCells_keeps _ _ _ _ (Heap.get?_push_of_some _ e)
  have stat : ∀ {σ' : L2.St} {H' : Hp} {s' : Shared}, Inv (X.blk s3 H3 scope ce fp) [] σ' H' s' → (∀ b ∈ fp, H' b = none) → ∀ b ∈ fp, FpOk (X.blk s3 H3 scope ce fp) [] H' b := fun {σ' H' s'} I' hn b hb =>
    ⟨hn b hb, (I'.ok.exf b hb).1, I'.ok.exfs b hb, .inl hb, fun x c e => (I'.ok.exf b hb).2 x c e, fun p hp => absurd (show p ∈ ([] : List (Addr × Obj)) ++ [] from hp) (by simp)⟩
  have loop : codeAny (model X.prog X.w) X.A (.compLoop (.DictComp kx vx [⟨tg, iter, [], 0⟩] scope pos) 0 (.ref it) (.ref D) ce) (compPost (model X.prog X.w) X.A X.xe use Qf (.ref D) s3.heap.objs.size) s4 := by
    refine compLoop_anyD (fun n s' => ∃ i H', Inv (X.blk s3 H3 scope ce fp) [] (wipe σ (own.map (·.2))) H' s' ∧ tn i s'.heap ∧ (∀ b ∈ fp, H' b = none) ∧ W i n H') ?_ m0 ⟨0, H3, I4, st4, nfp, w0⟩
    rintro n s5 ⟨i, H5, I5, st5, n5, w5⟩
    rcases turn i n H5 w5 with ⟨stop, qq⟩ | ⟨go, Nx, hNx, step⟩
    · refine thnF (T.done (X.blk s3 H3 scope ce fp) rfl rfl rfl hc i [] s5 _ H5 (fun _ _ => False) I5 (stat I5 n5) st5 stop) fun r s6 ⟨hr, I6⟩ => ?_
      subst hr
      have I7 : Inv X pins σ H5 s6 := I3.call' (ch := fp) I6.os I6.base I6.hok I6.bare fun b hb => ⟨(f3 b hb).1.2.2.2.1, (f3 b hb).1.2.1, (f3 b hb).1.2.2.2.2.1, (f3 b hb).1.2.2.2.2.2⟩
      have nC : H5 s3.heap.objs.size = none := by
        have z : H5 ce.locals = none := I6.free
        rw [cL] at z
        exact z
      obtain ⟨m, hn, _⟩ := I6.loc
      have hn : s6.heap.Ns ce.locals m := hn
      rw [cL] at hn
      exact hRR D s3.heap.objs.size s6 m H5 I7 qq hn (I3.fpOk (Nat.le_refl _) nC)
    · refine thnF (T.item (X.blk s3 H3 scope ce fp) rfl rfl rfl hc i [] s5 _ H5 (fun _ _ => False) I5 (stat I5 n5) st5 go) fun r s6 ⟨u, hr, h6⟩ => ?_
      subst hr
      refine thnF h6 fun _ s7 ⟨x, H7, I7, r7, y7, st7, n7⟩ => ?_
      refine thnF (pg.run _ s7 _ H7 x u _ (I7.pinned (stat I7 n7) (T.obj _ _ st7)) r7 (step x H7 y7)) fun _ s8 ⟨σ8, H8, I8, hw8, q8⟩ => ?_
      show wpAny _ _ (forIn ([] : List Expr) true _) _ _ _
      rw [List.forIn_nil]
      refine wpAny_pure ?_
      simp only [if_true]
      refine thnF (pk.run _ s8 σ8 H8 _ I8 q8) fun z s10 ⟨yk, H10, I10, r10, q10⟩ => ?_
      refine thnF (pe.run _ s10 σ8 H10 _ I10 q10) fun z2 s11 ⟨yv, H11, I11, r11, b, kvs, k, ek, hD11, hb, hz11, nx⟩ => ?_
      subst ek
      cases r10
      refine n_dictSet (X := X.blk s3 H3 scope ce fp) hroom I11 hD11 hb hz11 r11 fun o s12 I12 n12 => ?_
      obtain ⟨m', hm, w'⟩ := hNx _ (nx o n12)
      have pin' : ∀ b ∈ fp, ∀ o', s7.heap.get? b = some o' → s12.heap.get? b = some o' ∧ (upd H11 D o) b = none := fun b hb o' e =>
        let z := I12.pin (b, o') (List.mem_append_right _ (List.mem_append_right _ (mem_pinsAt hb e)))
        ⟨z.1, z.2.1⟩
      have hl : (wipe σ (own.map (·.2))).length = σ8.length := by rw [← hw8, wipe_length]
      refine ⟨m', hm, i + 1, _, (I12.unpinned (pins := [])).weak hl (fun j v e => ?_), T.keep _ _ _ st7 fun b hb o' e => (pin' b hb o' e).1, fun b hb => ?_, w'⟩
      · rw [← hw8] at e
        exact (wipe_some e).1
      · obtain ⟨o', e, _⟩ := T.obj _ _ st7 b hb
        exact (pin' b hb o' e).2
  exact codeAny_compStart_dict loop (T.self X.A 0 _ _ _ st4 loop)
theorem pe_nc {kx vx tg iter : Expr} {scope : Scope} {own : List (Str × Nat)} {pos : Pos} {wi : TI} {g : TG} {tk tv : TE} {n0 : Nat} (hr : Room n0 X.A) (hc : X.calm = true) (hN : X.N.Nodup) (hi : PI X tg iter wi) (ok : BlkOk X.N X.env.scope scope own)
    (hg : CT X scope fun Y => PG Y tg g) (hk : CT X scope fun Y => PE Y kx tk) (he : CT X scope fun Y => PE Y vx tv) (hs : ∀ x, foldedSetIterable iter X.env x = pure x := by intro _; rfl) :
    PE X (.DictComp kx vx [⟨tg, iter, [], 0⟩] scope pos) (tNC X.prog X.w X.K E wi g tk tv (own.map (·.2))) := by
  refine ⟨fun pins s σ H Q I h => ?_⟩
  rw [arm_eval_DictComp]
  refine nc_core hr hc hN I hi ok hg hk he hs h fun D C s' m H' I' q hn f => ⟨m, hn, fun h'' sb => ?_⟩
  obtain ⟨f0, f1, f2, f3, f4, f5⟩ := f
  exact ⟨.ref D, H', I'.turned (t' := s'.toks) (fun b o hb e => (sb.2 b hb).trans e) f0 f1 f3 f4 f5, rfl, q⟩
end
end G6

-- G6Cn
namespace G6
open PySem PySem.Spec PyProof.Rows L2
/-- what a walk knows of the written part -/
structure Cn (K : PySem.W.Frag) (mg : Str → Option Value) : Prop where
  d : He.SaysD fa fn K
  ex : exF K = true
  mgo : ∀ x, (He.Fa.glo x).ok K = true → mg x = some (.ref (He.ga K x))
  mgf : ∀ x, (He.Fa.free x).ok K = true → mg x = none
  mgi : ∀ x i, (He.Fa.int x i).ok K = true → ∃ t, mg x = some (.int i t)
  mgs : ∀ x z, (He.Fa.str x z).ok K = true → ∃ t, mg x = some (.str z t)
theorem Cn.mk' {w : World} {K : PySem.W.Frag} {h0 h : Heap} {mg : Str → Option Value} (X : K.In h) (G : h.Ns mainGlobals mg) (c : He.SaysX fa fn [] [] exF w h0 K) : Cn K mg :=
  ⟨c.t.d, c.more, fun _ e => He.glo_ok X G e, fun _ e => He.free_ok X G e, fun _ _ e => He.int_ok X G e, fun _ _ e => He.str_ok X G e⟩
section
variable {P : Program} {w : World} {K : PySem.W.Frag} {mg : Str → Option Value} {base : Heap}
theorem Cn.g_is_integer (c : Cn K mg) : mg "is_integer" = some (.ref (He.ga K "is_integer")) := c.mgo _ (c.d.fact 0)
theorem Cn.d_is_integer (c : Cn K mg) : ∃ fd, FnP K "is_integer" s_is_integer (He.ga K "is_integer") fd := c.d.def_ 2 (d := mkD "is_integer" s_is_integer)
theorem Cn.g_is_within (c : Cn K mg) : mg "is_within" = some (.ref (He.ga K "is_within")) := c.mgo _ (c.d.fact 1)
theorem Cn.d_is_within (c : Cn K mg) : ∃ fd, FnP K "is_within" s_is_within (He.ga K "is_within") fd := c.d.def_ 3 (d := mkD "is_within" s_is_within)
theorem Cn.g_is_string_of (c : Cn K mg) : mg "is_string_of" = some (.ref (He.ga K "is_string_of")) := c.mgo _ (c.d.fact 2)
theorem Cn.d_is_string_of (c : Cn K mg) : ∃ fd, FnP K "is_string_of" s_is_string_of (He.ga K "is_string_of") fd := c.d.def_ 4 (d := mkD "is_string_of" s_is_string_of)
theorem Cn.g_is_word (c : Cn K mg) : mg "is_word" = some (.ref (He.ga K "is_word")) := c.mgo _ (c.d.fact 3)
theorem Cn.d_is_word (c : Cn K mg) : ∃ fd, FnP K "is_word" s_is_word (He.ga K "is_word") fd := c.d.def_ 5 (d := mkD "is_word" s_is_word)
theorem Cn.g_are_nexts (c : Cn K mg) : mg "are_nexts" = some (.ref (He.ga K "are_nexts")) := c.mgo _ (c.d.fact 4)
theorem Cn.d_are_nexts (c : Cn K mg) : ∃ fd, FnP K "are_nexts" s_are_nexts (He.ga K "are_nexts") fd := c.d.def_ 6 (d := mkD "are_nexts" s_are_nexts)
theorem Cn.g_is_say (c : Cn K mg) : mg "is_say" = some (.ref (He.ga K "is_say")) := c.mgo _ (c.d.fact 5)
theorem Cn.d_is_say (c : Cn K mg) : ∃ fd, FnP K "is_say" s_is_say (He.ga K "is_say") fd := c.d.def_ 7 (d := mkD "is_say" s_is_say)
theorem Cn.g_is_item (c : Cn K mg) : mg "is_item" = some (.ref (He.ga K "is_item")) := c.mgo _ (c.d.fact 6)
theorem Cn.d_is_item (c : Cn K mg) : ∃ fd, FnP K "is_item" s_is_item (He.ga K "is_item") fd := c.d.def_ 8 (d := mkD "is_item" s_is_item)
theorem Cn.g_with_row (c : Cn K mg) : mg "with_row" = some (.ref (He.ga K "with_row")) := c.mgo _ (c.d.fact 7)
theorem Cn.d_with_row (c : Cn K mg) : ∃ fd, FnP K "with_row" s_with_row (He.ga K "with_row") fd := c.d.def_ 9 (d := mkD "with_row" s_with_row)
theorem Cn.g_steps_of (c : Cn K mg) : mg "steps_of" = some (.ref (He.ga K "steps_of")) := c.mgo _ (c.d.fact 8)
theorem Cn.d_steps_of (c : Cn K mg) : ∃ fd, FnP K "steps_of" s_steps_of (He.ga K "steps_of") fd := c.d.def_ 10 (d := mkD "steps_of" s_steps_of)
theorem Cn.g_all_steps (c : Cn K mg) : mg "all_steps" = some (.ref (He.ga K "all_steps")) := c.mgo _ (c.d.fact 9)
theorem Cn.d_all_steps (c : Cn K mg) : ∃ fd, FnP K "all_steps" s_all_steps (He.ga K "all_steps") fd := c.d.def_ 11 (d := mkD "all_steps" s_all_steps)
theorem Cn.g_idle_ring (c : Cn K mg) : mg "idle_ring" = some (.ref (He.ga K "idle_ring")) := c.mgo _ (c.d.fact 10)
theorem Cn.d_idle_ring (c : Cn K mg) : ∃ fd, FnP K "idle_ring" s_idle_ring (He.ga K "idle_ring") fd := c.d.def_ 12 (d := mkD "idle_ring" s_idle_ring)
theorem Cn.g_event_of (c : Cn K mg) : mg "event_of" = some (.ref (He.ga K "event_of")) := c.mgo _ (c.d.fact 11)
theorem Cn.d_event_of (c : Cn K mg) : ∃ fd, FnP K "event_of" s_event_of (He.ga K "event_of") fd := c.d.def_ 13 (d := mkD "event_of" s_event_of)
theorem Cn.g_lines_of (c : Cn K mg) : mg "lines_of" = some (.ref (He.ga K "lines_of")) := c.mgo _ (c.d.fact 12)
theorem Cn.d_lines_of (c : Cn K mg) : ∃ fd, FnP K "lines_of" s_lines_of (He.ga K "lines_of") fd := c.d.def_ 14 (d := mkD "lines_of" s_lines_of)
theorem Cn.g_turned (c : Cn K mg) : mg "turned" = some (.ref (He.ga K "turned")) := c.mgo _ (c.d.fact 13)
theorem Cn.d_turned (c : Cn K mg) : ∃ fd, FnP K "turned" s_turned (He.ga K "turned") fd := c.d.def_ 15 (d := mkD "turned" s_turned)
theorem Cn.g_finished (c : Cn K mg) : mg "finished" = some (.ref (He.ga K "finished")) := c.mgo _ (c.d.fact 14)
theorem Cn.d_finished (c : Cn K mg) : ∃ fd, FnP K "finished" s_finished (He.ga K "finished") fd := c.d.def_ 16 (d := mkD "finished" s_finished)
theorem Cn.g_lots_of (c : Cn K mg) : mg "lots_of" = some (.ref (He.ga K "lots_of")) := c.mgo _ (c.d.fact 15)
theorem Cn.d_lots_of (c : Cn K mg) : ∃ fd, FnP K "lots_of" s_lots_of (He.ga K "lots_of") fd := c.d.def_ 17 (d := mkD "lots_of" s_lots_of)
theorem Cn.g_rows_in (c : Cn K mg) : mg "rows_in" = some (.ref (He.ga K "rows_in")) := c.mgo _ (c.d.fact 16)
theorem Cn.d_rows_in (c : Cn K mg) : ∃ fd, FnP K "rows_in" s_rows_in (He.ga K "rows_in") fd := c.d.def_ 18 (d := mkD "rows_in" s_rows_in)
theorem Cn.g_kept_pieces (c : Cn K mg) : mg "kept_pieces" = some (.ref (He.ga K "kept_pieces")) := c.mgo _ (c.d.fact 17)
theorem Cn.d_kept_pieces (c : Cn K mg) : ∃ fd, FnP K "kept_pieces" s_kept_pieces (He.ga K "kept_pieces") fd := c.d.def_ 19 (d := mkD "kept_pieces" s_kept_pieces)
theorem Cn.g_pairs_among (c : Cn K mg) : mg "pairs_among" = some (.ref (He.ga K "pairs_among")) := c.mgo _ (c.d.fact 18)
theorem Cn.d_pairs_among (c : Cn K mg) : ∃ fd, FnP K "pairs_among" s_pairs_among (He.ga K "pairs_among") fd := c.d.def_ 20 (d := mkD "pairs_among" s_pairs_among)
theorem Cn.g_web (c : Cn K mg) : mg "web" = some (.ref (He.ga K "web")) := c.mgo _ (c.d.fact 19)
theorem Cn.d_web (c : Cn K mg) : ∃ fd, FnP K "web" s_web (He.ga K "web") fd := c.d.def_ 21 (d := mkD "web" s_web)
theorem Cn.g_dealt_on (c : Cn K mg) : mg "dealt_on" = some (.ref (He.ga K "dealt_on")) := c.mgo _ (c.d.fact 20)
theorem Cn.d_dealt_on (c : Cn K mg) : ∃ fd, FnP K "dealt_on" s_dealt_on (He.ga K "dealt_on") fd := c.d.def_ 22 (d := mkD "dealt_on" s_dealt_on)
theorem Cn.g_hues (c : Cn K mg) : mg "hues" = some (.ref (He.ga K "hues")) := c.mgo _ (c.d.fact 21)
theorem Cn.d_hues (c : Cn K mg) : ∃ fd, FnP K "hues" s_hues (He.ga K "hues") fd := c.d.def_ 23 (d := mkD "hues" s_hues)
theorem Cn.g_fewest_hands (c : Cn K mg) : mg "fewest_hands" = some (.ref (He.ga K "fewest_hands")) := c.mgo _ (c.d.fact 22)
theorem Cn.d_fewest_hands (c : Cn K mg) : ∃ fd, FnP K "fewest_hands" s_fewest_hands (He.ga K "fewest_hands") fd := c.d.def_ 24 (d := mkD "fewest_hands" s_fewest_hands)
theorem Cn.g_way_across (c : Cn K mg) : mg "way_across" = some (.ref (He.ga K "way_across")) := c.mgo _ (c.d.fact 23)
theorem Cn.d_way_across (c : Cn K mg) : ∃ fd, FnP K "way_across" s_way_across (He.ga K "way_across") fd := c.d.def_ 25 (d := mkD "way_across" s_way_across)
theorem Cn.g_way_back (c : Cn K mg) : mg "way_back" = some (.ref (He.ga K "way_back")) := c.mgo _ (c.d.fact 24)
theorem Cn.d_way_back (c : Cn K mg) : ∃ fd, FnP K "way_back" s_way_back (He.ga K "way_back") fd := c.d.def_ 26 (d := mkD "way_back" s_way_back)
theorem Cn.g_is_across (c : Cn K mg) : mg "is_across" = some (.ref (He.ga K "is_across")) := c.mgo _ (c.d.fact 25)
theorem Cn.d_is_across (c : Cn K mg) : ∃ fd, FnP K "is_across" s_is_across (He.ga K "is_across") fd := c.d.def_ 27 (d := mkD "is_across" s_is_across)
theorem Cn.g_crosses (c : Cn K mg) : mg "crosses" = some (.ref (He.ga K "crosses")) := c.mgo _ (c.d.fact 26)
theorem Cn.d_crosses (c : Cn K mg) : ∃ fd, FnP K "crosses" s_crosses (He.ga K "crosses") fd := c.d.def_ 28 (d := mkD "crosses" s_crosses)
theorem Cn.g_fewest_once (c : Cn K mg) : mg "fewest_once" = some (.ref (He.ga K "fewest_once")) := c.mgo _ (c.d.fact 27)
theorem Cn.d_fewest_once (c : Cn K mg) : ∃ fd, FnP K "fewest_once" s_fewest_once (He.ga K "fewest_once") fd := c.d.def_ 29 (d := mkD "fewest_once" s_fewest_once)
theorem Cn.g_least_once (c : Cn K mg) : mg "least_once" = some (.ref (He.ga K "least_once")) := c.mgo _ (c.d.fact 28)
theorem Cn.d_least_once (c : Cn K mg) : ∃ fd, FnP K "least_once" s_least_once (He.ga K "least_once") fd := c.d.def_ 30 (d := mkD "least_once" s_least_once)
theorem Cn.g_law_pot (c : Cn K mg) : mg "_law_pot" = some (.ref (He.ga K "_law_pot")) := c.mgo _ (c.d.fact 29)
theorem Cn.d_law_pot (c : Cn K mg) : ∃ fd, FnP K "_law_pot" s_law_pot (He.ga K "_law_pot") fd := c.d.def_ 31 (d := mkD "_law_pot" s_law_pot)
theorem Cn.g_law_draw (c : Cn K mg) : mg "_law_draw" = some (.ref (He.ga K "_law_draw")) := c.mgo _ (c.d.fact 30)
theorem Cn.d_law_draw (c : Cn K mg) : ∃ fd, FnP K "_law_draw" s_law_draw (He.ga K "_law_draw") fd := c.d.def_ 32 (d := mkD "_law_draw" s_law_draw)
theorem Cn.g_law_mixed (c : Cn K mg) : mg "_law_mixed" = some (.ref (He.ga K "_law_mixed")) := c.mgo _ (c.d.fact 31)
theorem Cn.d_law_mixed (c : Cn K mg) : ∃ fd, FnP K "_law_mixed" s_law_mixed (He.ga K "_law_mixed") fd := c.d.def_ 33 (d := mkD "_law_mixed" s_law_mixed)
theorem Cn.g_law_drawn_table (c : Cn K mg) : mg "_law_drawn_table" = some (.ref (He.ga K "_law_drawn_table")) := c.mgo _ (c.d.fact 32)
theorem Cn.d_law_drawn_table (c : Cn K mg) : ∃ fd, FnP K "_law_drawn_table" s_law_drawn_table (He.ga K "_law_drawn_table") fd := c.d.def_ 34 (d := mkD "_law_drawn_table" s_law_drawn_table)
theorem Cn.g_law_steps (c : Cn K mg) : mg "_law_steps" = some (.ref (He.ga K "_law_steps")) := c.mgo _ (c.d.fact 33)
theorem Cn.d_law_steps (c : Cn K mg) : ∃ fd, FnP K "_law_steps" s_law_steps (He.ga K "_law_steps") fd := c.d.def_ 35 (d := mkD "_law_steps" s_law_steps)
theorem Cn.g_law_phases (c : Cn K mg) : mg "_law_phases" = some (.ref (He.ga K "_law_phases")) := c.mgo _ (c.d.fact 34)
theorem Cn.d_law_phases (c : Cn K mg) : ∃ fd, FnP K "_law_phases" s_law_phases (He.ga K "_law_phases") fd := c.d.def_ 36 (d := mkD "_law_phases" s_law_phases)
theorem Cn.g_law_is_idle (c : Cn K mg) : mg "_law_is_idle" = some (.ref (He.ga K "_law_is_idle")) := c.mgo _ (c.d.fact 35)
theorem Cn.d_law_is_idle (c : Cn K mg) : ∃ fd, FnP K "_law_is_idle" s_law_is_idle (He.ga K "_law_is_idle") fd := c.d.def_ 37 (d := mkD "_law_is_idle" s_law_is_idle)
theorem Cn.g_law_renamed (c : Cn K mg) : mg "_law_renamed" = some (.ref (He.ga K "_law_renamed")) := c.mgo _ (c.d.fact 36)
theorem Cn.d_law_renamed (c : Cn K mg) : ∃ fd, FnP K "_law_renamed" s_law_renamed (He.ga K "_law_renamed") fd := c.d.def_ 38 (d := mkD "_law_renamed" s_law_renamed)
theorem Cn.g_law_spec (c : Cn K mg) : mg "_law_spec" = some (.ref (He.ga K "_law_spec")) := c.mgo _ (c.d.fact 37)
theorem Cn.d_law_spec (c : Cn K mg) : ∃ fd, FnP K "_law_spec" s_law_spec (He.ga K "_law_spec") fd := c.d.def_ 39 (d := mkD "_law_spec" s_law_spec)
theorem Cn.g_law_is_int (c : Cn K mg) : mg "_law_is_int" = some (.ref (He.ga K "_law_is_int")) := c.mgo _ (c.d.fact 38)
theorem Cn.d_law_is_int (c : Cn K mg) : ∃ fd, FnP K "_law_is_int" s_law_is_int (He.ga K "_law_is_int") fd := c.d.def_ 40 (d := mkD "_law_is_int" s_law_is_int)
theorem Cn.g_law_way_across (c : Cn K mg) : mg "_law_way_across" = some (.ref (He.ga K "_law_way_across")) := c.mgo _ (c.d.fact 39)
theorem Cn.d_law_way_across (c : Cn K mg) : ∃ fd, FnP K "_law_way_across" s_law_way_across (He.ga K "_law_way_across") fd := c.d.def_ 41 (d := mkD "_law_way_across" s_law_way_across)
theorem Cn.g_law_crosses (c : Cn K mg) : mg "_law_crosses" = some (.ref (He.ga K "_law_crosses")) := c.mgo _ (c.d.fact 40)
theorem Cn.d_law_crosses (c : Cn K mg) : ∃ fd, FnP K "_law_crosses" s_law_crosses (He.ga K "_law_crosses") fd := c.d.def_ 42 (d := mkD "_law_crosses" s_law_crosses)
theorem Cn.g_law_is_apart (c : Cn K mg) : mg "_law_is_apart" = some (.ref (He.ga K "_law_is_apart")) := c.mgo _ (c.d.fact 41)
theorem Cn.d_law_is_apart (c : Cn K mg) : ∃ fd, FnP K "_law_is_apart" s_law_is_apart (He.ga K "_law_is_apart") fd := c.d.def_ 43 (d := mkD "_law_is_apart" s_law_is_apart)
theorem Cn.g_law_ring_spec (c : Cn K mg) : mg "_law_ring_spec" = some (.ref (He.ga K "_law_ring_spec")) := c.mgo _ (c.d.fact 42)
theorem Cn.d_law_ring_spec (c : Cn K mg) : ∃ fd, FnP K "_law_ring_spec" s_law_ring_spec (He.ga K "_law_ring_spec") fd := c.d.def_ 44 (d := mkD "_law_ring_spec" s_law_ring_spec)
theorem Cn.g_law_dealings (c : Cn K mg) : mg "_law_dealings" = some (.ref (He.ga K "_law_dealings")) := c.mgo _ (c.d.fact 43)
theorem Cn.d_law_dealings (c : Cn K mg) : ∃ fd, FnP K "_law_dealings" s_law_dealings (He.ga K "_law_dealings") fd := c.d.def_ 45 (d := mkD "_law_dealings" s_law_dealings)
theorem Cn.g_law (c : Cn K mg) : mg "law" = some (.ref (He.ga K "law")) := c.mgo _ (c.d.fact 44)
theorem Cn.d_law (c : Cn K mg) : ∃ fd, FnP K "law" s_law (He.ga K "law") fd := c.d.def_ 46 (d := mkD "law" s_law)
theorem Cn.z_isinstance (c : Cn K mg) : mg "isinstance" = none := c.mgf _ (c.d.fact 45)
theorem Cn.z_int (c : Cn K mg) : mg "int" = none := c.mgf _ (c.d.fact 46)
theorem Cn.z_bool (c : Cn K mg) : mg "bool" = none := c.mgf _ (c.d.fact 47)
theorem Cn.z_str (c : Cn K mg) : mg "str" = none := c.mgf _ (c.d.fact 48)
theorem Cn.z_tuple (c : Cn K mg) : mg "tuple" = none := c.mgf _ (c.d.fact 49)
theorem Cn.z_len (c : Cn K mg) : mg "len" = none := c.mgf _ (c.d.fact 50)
theorem Cn.z_all (c : Cn K mg) : mg "all" = none := c.mgf _ (c.d.fact 51)
theorem Cn.z_any (c : Cn K mg) : mg "any" = none := c.mgf _ (c.d.fact 52)
theorem Cn.z_sorted (c : Cn K mg) : mg "sorted" = none := c.mgf _ (c.d.fact 53)
theorem Cn.z_list (c : Cn K mg) : mg "list" = none := c.mgf _ (c.d.fact 54)
theorem Cn.z_range (c : Cn K mg) : mg "range" = none := c.mgf _ (c.d.fact 55)
theorem Cn.z_max (c : Cn K mg) : mg "max" = none := c.mgf _ (c.d.fact 56)
theorem Cn.z_min (c : Cn K mg) : mg "min" = none := c.mgf _ (c.d.fact 57)
theorem Cn.z_sum (c : Cn K mg) : mg "sum" = none := c.mgf _ (c.d.fact 58)
theorem Cn.z_abs (c : Cn K mg) : mg "abs" = none := c.mgf _ (c.d.fact 59)
theorem Cn.z_set (c : Cn K mg) : mg "set" = none := c.mgf _ (c.d.fact 60)
theorem Cn.z_enumerate (c : Cn K mg) : mg "enumerate" = none := c.mgf _ (c.d.fact 61)
theorem Cn.gPlan (c : Cn K mg) : mg "Plan" = some (.ref (He.ga K "Plan")) := c.mgo _ (c.d.fact 62)
theorem Cn.cPlan (c : Cn K mg) : Cls K (He.ga K "Plan") := He.cls_ok (c.d.fact 63)
theorem Cn.mkPlan (c : Cn K mg) : Mk K (He.ga K "Plan") (He.ma K (He.ga K "Plan") "__init__") := He.mkr_ok (c.d.fact 64)
theorem Cn.mKeep (c : Cn K mg) : Meth K (He.ga K "Plan") "keep" (He.ma K (He.ga K "Plan") "keep") := He.meth_ok (c.d.fact 65)
theorem Cn.nRows (c : Cn K mg) : NoAttr K (He.ga K "Plan") "rows" := He.noat_ok (c.d.fact 66)
theorem Cn.nLetters (c : Cn K mg) : NoAttr K (He.ga K "Plan") "letters" := He.noat_ok (c.d.fact 67)
theorem Cn.nTable (c : Cn K mg) : NoAttr K (He.ga K "Plan") "table" := He.noat_ok (c.d.fact 68)
theorem Cn.nKept (c : Cn K mg) : NoAttr K (He.ga K "Plan") "kept_phases" := He.noat_ok (c.d.fact 69)
theorem Cn.gFirst (c : Cn K mg) : mg "FIRST_PHASE" = some (.ref (He.ga K "FIRST_PHASE")) := c.mgo _ (c.d.fact 70)
theorem Cn.iRows (c : Cn K mg) : ∃ t, mg "MOST_ROWS" = some (.int 6 t) := c.mgi _ _ (c.d.fact 71)
theorem Cn.iStandings (c : Cn K mg) : ∃ t, mg "MOST_STANDINGS" = some (.int 30 t) := c.mgi _ _ (c.d.fact 72)
theorem Cn.sLetters (c : Cn K mg) : ∃ t, mg "LETTERS" = some (.str "abc" t) := c.mgs _ _ (c.d.fact 73)
theorem Cn.sSmall (c : Cn K mg) : ∃ t, mg "SMALL" = some (.str "abcdefghijklmnopqrstuvwxyz" t) := c.mgs _ _ (c.d.fact 74)
theorem Cn.sEnd (c : Cn K mg) : ∃ t, mg "END" = some (.str "end" t) := c.mgs _ _ (c.d.fact 75)
theorem Cn.dInit (c : Cn K mg) : ∃ fd, FnQ K "__init__" "Plan.__init__" s_init (He.ma K (He.ga K "Plan") "__init__") fd := c.d.def_ 0 (d := mkM "__init__" "Plan.__init__" s_init)
theorem Cn.dKeep (c : Cn K mg) : ∃ fd, FnQ K "keep" "Plan.keep" s_keep (He.ma K (He.ga K "Plan") "keep") fd := c.d.def_ 1 (d := mkM "keep" "Plan.keep" s_keep)
theorem Cn.first (c : Cn K mg) (H : Hp) : NK K H (.tup [.num 0, .tup []]) (.ref (He.ga K "FIRST_PHASE")) := by
  obtain ⟨h1, h2⟩ := He.ba c.ex
  exact .tup (tupAt_ok h1 H) (.cons (.num 0) (.cons (.tup (tupAt_ok h2 H) .nil) .nil))
/-- THE RULE of a def of the module: its body as a term of rules, the term's reading -/
theorem cal_of {st : Stmt} {x : Str} {N ps : List Str} {k : Nat} {sp : Sp} (g : mg x = some (.ref (He.ga K x))) (F : ∃ fd, FnP K x st (He.ga K x) fd) (S : FnScope N ps (defScope st))
    (hb : ∀ (kV doc pm : Value) (an : Option Addr) (cdv ct : Value) (us : List Value), us.length = ps.length → bindArgs (PySem.W.fnOf x x (defArgs st) (defBody st) (defScope st) .none kV doc pm an cdv ct) ⟨us, []⟩ = pure (ps.zip us))
    (len : ∀ vs H Q E, sp vs H Q E → vs.length = ps.length)
    (hbody : ∀ (cdv : Value) (A : Around) (outer : List Env) (s : Shared) (H : Hp) (vs : List V) (Q : VK) (E : XK), Room k (A.deeper (envOfC x (defScope st) s.heap.objs.size (He.ga K x) cdv)) → sp vs H Q E →
      ∃ t, PSs (cxOf CX0 P w K mg base N x (defScope st) (He.ga K x) cdv A outer s H E).nox (defBody st) t ∧ t { nx := fun _ H' => Q .non H', rt := Q } (start N vs) H) : C8.Cal P w K mg base (k + 1) x sp [] := by
  obtain ⟨fd, F⟩ := F
  refine ⟨He.ga K x, fd, ps, [], F.ok S len fun cdv A outer s H vs Q E hr h => ?_, g, F.kp, F.bindsN hb, .nil⟩
  obtain ⟨t, h1, h2⟩ := hbody cdv A outer s H vs Q E hr h
  exact ⟨t, h1.nox, h2⟩
/-! ### isinstance -/
theorem isi_int {H : Hp} {n : Int} {T : String} {b : Bool} {Q : VK} (h : kitB "int" T = some b) (q : Q (.bl b) H) : rIsi K [.int n, .ty T] H Q := ⟨_, _, _, _, b, rfl, .ty T, .base (.int n), kit_ty h, q⟩
theorem isi_str {H : Hp} {z : Str} {T : String} {b : Bool} {Q : VK} (h : kitB "str" T = some b) (q : Q (.bl b) H) : rIsi K [.str z, .ty T] H Q := ⟨_, _, _, _, b, rfl, .ty T, .base (.str z), kit_ty h, q⟩
theorem tyx_tup {H : Hp} {a : Addr} {xs : List V} (h : SqT K H a xs) : TyX K H (.ref a) (.type "tuple") := by
  rcases h with (h | ⟨o, h⟩) | ⟨o, its, n, h, hc, _⟩
  · exact .base (.tup h)
  · exact .fTuple h
  · exact .kTuple h hc
theorem isi_tup {H : Hp} {a : Addr} {xs : List V} {T : String} {b : Bool} {Q : VK} (hs : SqT K H a xs) (h : kitB "tuple" T = some b) (q : Q (.bl b) H) : rIsi K [.ref a, .ty T] H Q := ⟨_, _, _, _, b, rfl, .ty T, tyx_tup hs, kit_ty h, q⟩
end
end G6

-- G6Lh
namespace G6
open PySem PySem.Spec PyProof.Rows L2

/-! ### the rules with the written part named (a comprehension's block has another context) -/
section
variable {X : Cx} {a b e o l : Expr} {es : List Expr} {ta tb te to ty td tv tk tl : TE} {t : TA} {pos apos cpos p pos' p2 : Pos} {f : Str}
theorem kixT (K : PySem.W.Frag) (ha : PE X a ta) (hb : PE X b tb) (hK : X.K = K := by rfl) (hs : PlainIx b := by exact fun _ _ => rfl) : PE X (.Subscript a b pos) (tOp (rIxT K) ta tb) := by
  subst hK
  exact pe_ix ix_tup ha hb hs
theorem kixL (K : PySem.W.Frag) (ha : PE X a ta) (hb : PE X b tb) (hK : X.K = K := by rfl) (hs : PlainIx b := by exact fun _ _ => rfl) : PE X (.Subscript a b pos) (tOp (rIxL K) ta tb) := by
  subst hK
  exact pe_ix ix_list ha hb hs
theorem kixS (ha : PE X a ta) (hb : PE X b tb) (hs : PlainIx b := by exact fun _ _ => rfl) : PE X (.Subscript a b pos) (tOp rIxS ta tb) := pe_ix ix_str ha hb hs
theorem kfld (K : PySem.W.Frag) (he : PE X e ta) (hK : X.K = K := by rfl) (hb : attributeBase e f X.env (eval e X.env) = eval e X.env := by rfl) : PE X (.Attribute e f pos) (tFld K ta f) := by
  subst hK
  exact pe_fld he hb
theorem kpg_tup (K : PySem.W.Frag) {n : Nat} {k : Nat} {tg : TGs} (h : PGs X es tg) (hK : X.K = K := by rfl) (hc : X.calm = true := by rfl) (hn : (assignEach es X.env).length = n := by rfl) (hst : (assignEach es X.env).findIdx? (·.1) = none := by rfl) : PG X (.Tuple es k pos) (gTup K n tg) := by
  subst hK
  exact pg_tup hc h hn hst
theorem kpi_list (K : PySem.W.Frag) {tg : Expr} (hl : PE X l tl) (hK : X.K = K := by rfl) : PI X tg l (iList K tl) := by
  subst hK
  exact pi_list hl
theorem kpi_tup (K : PySem.W.Frag) {tg : Expr} (hl : PE X l tl) (hK : X.K = K := by rfl) : PI X tg l (iTup K tl) := by
  subst hK
  exact pi_tup hl
/-- a list or a tuple -/
def rLenA (K : PySem.W.Frag) : List V → Hp → VK → Prop := fun xs H Q => ∃ p ys, xs = [.ref p] ∧ (SqL K H p ys ∨ SqT K H p ys) ∧ Q (.int ys.length) H
theorem kc_len (K : PySem.W.Frag) (hK : X.K = K := by rfl) : CallR X (.builtin "len") (rLenA K) := by
  subst hK
  exact call_len_seq
def rLstOf (K : PySem.W.Frag) : List V → Hp → VK → Prop := fun xs H Q => ∃ p ys, xs = [.ref p] ∧ (SqL K H p ys ∨ SqT K H p ys) ∧ ∀ l, H l = none → Q (.ref l) (upd H l (.lst ys))
theorem kc_list (K : PySem.W.Frag) (hK : X.K = K := by rfl) : CallR X (.type "list") (rLstOf K) := by
  subst hK
  exact call_list_of
/-- tuple(a list) -/
def rTupOf (K : PySem.W.Frag) : List V → Hp → VK → Prop := fun xs H Q => ∃ p ys, xs = [.ref p] ∧ SqL K H p ys ∧ ∀ l, H l = none → Q (.ref l) (upd H l (.tup ys))
theorem kc_tuple (K : PySem.W.Frag) (hK : X.K = K := by rfl) : CallR X (.type "tuple") (rTupOf K) := by
  subst hK
  intro pins s σ H xs us Q I r h
  obtain ⟨p, ys, e, hq, q⟩ := h
  exact call_tuple_of pins s σ H xs us Q I r ⟨p, ys, e, .inl ⟨hq, q⟩⟩
theorem kc_isi (K : PySem.W.Frag) (hK : X.K = K := by rfl) : CallR X (.builtin "isinstance") (rIsi K) := by
  subst hK
  exact call_isi
theorem kc_all (K : PySem.W.Frag) (hK : X.K = K := by rfl) (hc : X.calm = true := by rfl) : CallR X (.builtin "all") (rAll K) := by
  subst hK
  exact cr_all hc
theorem kc_any (K : PySem.W.Frag) (hK : X.K = K := by rfl) (hc : X.calm = true := by rfl) : CallR X (.builtin "any") (rAny K) := by
  subst hK
  exact cr_any hc
theorem kc_sum (K : PySem.W.Frag) (hK : X.K = K := by rfl) (hc : X.calm = true := by rfl) : CallR X (.builtin "sum") (rSum K) := by
  subst hK
  exact cr_sum hc
theorem kc_min (K : PySem.W.Frag) (hK : X.K = K := by rfl) (hc : X.calm = true := by rfl) : CallR X (.builtin "min") (rMin K) := by
  subst hK
  exact cr_min hc
def rMaxT (K : PySem.W.Frag) : List V → Hp → VK → Prop := fun xs H Q => ∃ (a : Addr) (m : Int) (ns : List Int), xs = [.ref a] ∧ SqT K H a ((m :: ns).map V.int) ∧ Q (.int (ns.foldl max m)) H
theorem kc_maxT (K : PySem.W.Frag) {n : Nat} (hr : Room n X.A) (hK : X.K = K := by rfl) (hc : X.calm = true := by rfl) : CallR X (.builtin "max") (rMaxT K) := by
  subst hK
  exact cr_maxT hr hc
def rMin2 : List V → Hp → VK → Prop := fun xs H Q => ∃ i j, xs = [.int i, .int j] ∧ Q (.int (if j < i then j else i)) H
theorem kc_min2 (hc : X.calm = true := by rfl) : CallR X (.builtin "min") rMin2 := call_min2 hc
def rSetI (K : PySem.W.Frag) (w : World) : List V → Hp → VK → Prop := fun xs H Q => ∃ (a : Addr) (ns : List Int), xs = [.ref a] ∧ SqT K H a (ns.map V.int) ∧ ns.length ≤ 1000 ∧
    ∀ p c, H p = none → c ≤ ns.length → Q (.ref p) (upd H p (SetO w p (fun j => decide (j ∈ ns)) c))
theorem kc_set (K : PySem.W.Frag) (w : World) (hK : X.K = K := by rfl) (hw : X.w = w := by rfl) (hc : X.calm = true := by rfl) : CallR X (.type "set") (rSetI K w) := by
  subst hK hw
  exact cr_setI hc
theorem kc_sortedSet (w : World) (hw : X.w = w := by rfl) (hc : X.calm = true := by rfl) : CallR X (.builtin "sorted") (rSortedSet w) := by
  subst hw
  exact cr_sortedSet hc
theorem kc_sorted (P : Program) (w : World) (K : PySem.W.Frag) {n : Nat} (hr : Room n X.A) (hP : X.prog = P := by rfl) (hw : X.w = w := by rfl) (hK : X.K = K := by rfl) (hc : X.calm = true := by rfl) : CallR X (.builtin "sorted") (rSortN P w K) := by
  subst hP hw hK
  exact cr_sortN hr hc
def rAbs : List V → Hp → VK → Prop := fun xs H Q => ∃ i, xs = [.int i] ∧ Q (.int (if i < 0 then -i else i)) H
theorem kc_abs : CallR X (.builtin "abs") rAbs := call_abs
def rInt1 : List V → Hp → VK → Prop := fun xs H Q => (∃ i, xs = [.int i] ∧ Q (.int i) H) ∨ ∃ k, xs = [.bl k] ∧ Q (.int (if k then 1 else 0)) H
theorem kc_int : CallR X (.type "int") rInt1 := call_int1
def rLenS1 : List V → Hp → VK → Prop := fun xs H Q => ∃ z, xs = [.str z] ∧ z.length ≤ sizeLine ∧ Q (.int z.length) H
theorem kc_lenS : CallR X (.builtin "len") rLenS1 := call_len_str
def rLenD (P : Program) (w : World) (K : PySem.W.Frag) {κ : Type} (E : Enc κ) : List V → Hp → VK → Prop := fun xs H Q => ∃ d kvs, xs = [.ref d] ∧ NDr P w K H E d kvs ∧ Q (.int (kvs.length : Nat)) H
theorem kc_lenD (P : Program) (w : World) (K : PySem.W.Frag) {κ : Type} [DecidableEq κ] (E : Enc κ) {n : Nat} (hr : Room n X.A) (hP : X.prog = P := by rfl) (hw : X.w = w := by rfl) (hK : X.K = K := by rfl) : CallR X (.builtin "len") (rLenD P w K E) := by
  subst hP hw hK
  exact call_lenN hr
theorem kpop (K : PySem.W.Frag) (ho : PE X o to) (hK : X.K = K := by rfl) (hbase : attributeBase o "pop" X.env (eval o X.env) = eval o X.env := by rfl) (hline : (apos.endLine == cpos.line) = true := by rfl) : PE X (.Call (.Attribute o "pop" apos) [] [] cpos) (tBM0 K "list" rPop to) := by
  subst hK
  exact pe_bm0 PySem.F.plainAttrs_list PySem.F.slot_list_pop PySem.F.type_list_pop mt_pop ho hbase hline
theorem kcat (K : PySem.W.Frag) (hK : X.K = K := by rfl) : OpR X (binaryOp .Add) (rCatA K) := by
  subst hK
  exact op_catA
theorem kslL (K : PySem.W.Frag) (hK : X.K = K := by rfl) : SlR X (rSlL K) := by
  subst hK
  exact sl_list
theorem kslT (K : PySem.W.Frag) (hK : X.K = K := by rfl) : SlR X (rSlA K) := by
  subst hK
  exact sl_tupA
/-- a slice of a list or of a tuple -/
theorem kslA (K : PySem.W.Frag) (hK : X.K = K := by rfl) : SlR X (fun x lo hi H Q => rSlL K x lo hi H Q ∨ rSlA K x lo hi H Q) := SlR.or (kslL K hK) (kslT K hK)
theorem krev (K : PySem.W.Frag) {k : Nat} {p1 p2 p3 : Pos} (he : PE X e te) (hK : X.K = K := by rfl) : PE X (.Subscript e (.Slice none none (some (.UnaryOp .USub (.Constant (.int 1) k p1) p2)) p3) pos) (tRevL K te) := by
  subst hK
  exact pe_revL he
theorem kop_in (K : PySem.W.Frag) {n : Nat} (hr : Room n X.A) (hK : X.K = K := by rfl) : OpR X (compareOp .In) (rInN K) := by
  subst hK
  exact op_inN hr
theorem kop_inS (K : PySem.W.Frag) (hK : X.K = K := by rfl) : OpR X (compareOp .In) (rIn K false) := by
  subst hK
  exact op_in_seq
theorem kop_notinS (K : PySem.W.Frag) (hK : X.K = K := by rfl) : OpR X (compareOp .NotIn) (rIn K true) := by
  subst hK
  exact op_notIn_seq
theorem kop_eq (K : PySem.W.Frag) {n : Nat} (hr : Room n X.A) (hK : X.K = K := by rfl) : OpR X (compareOp .Eq) (rEqN K false) := by
  subst hK
  exact op_eqN hr
theorem kop_ne (K : PySem.W.Frag) {n : Nat} (hr : Room n X.A) (hK : X.K = K := by rfl) : OpR X (compareOp .NotEq) (rEqN K true) := by
  subst hK
  exact op_neN hr
theorem kop_eqD (K : PySem.W.Frag) {n : Nat} (hr : Room n X.A) (hK : X.K = K := by rfl) : OpR X (compareOp .Eq) (rEqD K) := by
  subst hK
  have := hr.un
  exact op_eqD (by omega)
theorem kps_fld (K : PySem.W.Frag) {value : Expr} (ha : PE X o ta) (hv : PE X value tv) (hK : X.K = K := by rfl) (hs : swapsWith value (some (.Attribute o f pos')) pos.line X.env = pure false := by rfl) : PS X (.Assign [.Attribute o f pos'] value pos) (sFld K ta tv f) := by
  subst hK
  exact ps_fld ha hv hs
variable {κ : Type} [DecidableEq κ] {n : Nat}
theorem knget (P : Program) (w : World) (K : PySem.W.Frag) (E : Enc κ) (hr : Room n X.A) (ho : PE X o td) (hi : PE X b ty) (hP : X.prog = P := by rfl) (hw : X.w = w := by rfl) (hK : X.K = K := by rfl) (hs : NoSl b := by exact fun _ _ => rfl) : PE X (.Subscript o b pos) (tNGet P w K E td ty) := by
  subst hP hw hK
  exact pe_nget hr ho hi hs
theorem knin (P : Program) (w : World) (K : PySem.W.Frag) (E : Enc κ) (hr : Room n X.A) (hi : PE X b ty) (ho : PE X o td) (hP : X.prog = P := by rfl) (hw : X.w = w := by rfl) (hK : X.K = K := by rfl) : PC X .In b o (tNIn P w K E ty td) := by
  subst hP hw hK
  exact pc_nin hr hi ho
theorem knnotin (P : Program) (w : World) (K : PySem.W.Frag) (E : Enc κ) (hr : Room n X.A) (hi : PE X b ty) (ho : PE X o td) (hP : X.prog = P := by rfl) (hw : X.w = w := by rfl) (hK : X.K = K := by rfl) : PC X .NotIn b o (tNNotIn P w K E ty td) := by
  subst hP hw hK
  exact pc_nnotin hr hi ho
theorem knput (P : Program) (w : World) (K : PySem.W.Frag) (E : Enc κ) {value : Expr} (hr : Room n X.A) (ho : PE X o td) (hi : PE X b ty) (hv : PE X value tv) (hP : X.prog = P := by rfl) (hw : X.w = w := by rfl) (hK : X.K = K := by rfl)
    (hs : swapsWith value (some (.Subscript o b pos')) pos.line X.env = pure false := by rfl) : PS X (.Assign [.Subscript o b pos'] value pos) (sNPut P w K E td ty tv) := by
  subst hP hw hK
  exact ps_nput hr ho hi hv hs
theorem knnew (P : Program) (w : World) (hP : X.prog = P := by rfl) (hw : X.w = w := by rfl) : PE X (.Dict [] [] pos) (tNNew P w) := by
  subst hP hw
  exact pe_nnew
theorem kndisp (P : Program) (w : World) (K : PySem.W.Frag) (E : Enc κ) {k v : Expr} (hr : Room n X.A) (hk : PE X k tk) (hv : PE X v tv) (hP : X.prog = P := by rfl) (hw : X.w = w := by rfl) (hK : X.K = K := by rfl) : PE X (.Dict [some k] [v] pos) (tNDisp P w K E tk tv) := by
  subst hP hw hK
  exact pe_ndisp hr hk hv
theorem kpi_nd (P : Program) (w : World) {tg : Expr} (he : PE X e td) (hP : X.prog = P := by rfl) (hw : X.w = w := by rfl) : PI X tg e (iND P w td) := by
  subst hP hw
  exact pi_nd he
theorem knc (P : Program) (w : World) (K : PySem.W.Frag) (E : Enc κ) {kx vx tg iter : Expr} {scope : Scope} {own : List (Str × Nat)} {wi : TI} {g : TG} (hr : Room n X.A) (hN : X.N.Nodup) (hi : PI X tg iter wi) (ok : BlkOk X.N X.env.scope scope own)
    (hg : CT X scope fun Y => PG Y tg g) (hk : CT X scope fun Y => PE Y kx tk) (he : CT X scope fun Y => PE Y vx tv) (hP : X.prog = P := by rfl) (hw : X.w = w := by rfl) (hK : X.K = K := by rfl) (hc : X.calm = true := by rfl) (hs : ∀ x, foldedSetIterable iter X.env x = pure x := by intro _; rfl) :
    PE X (.DictComp kx vx [⟨tg, iter, [], 0⟩] scope pos) (tNC P w K E wi g tk tv (own.map (·.2))) := by
  subst hP hw hK
  exact pe_nc hr hc hN hi ok hg hk he hs
theorem kupd (P : Program) (w : World) (K : PySem.W.Frag) (E : Enc κ) (hr : Room n X.A) (ho : PE X o to) (ha : PA X [e] t) (hP : X.prog = P := by rfl) (hw : X.w = w := by rfl) (hK : X.K = K := by rfl)
    (hbase : attributeBase o "update" X.env (eval o X.env) = eval o X.env := by rfl)
    (hfew : ((backTo cpos (starEach [e] X.env)).all (fun x => !x.1) && (backToKw cpos (keywordEach [] X.env)).all (fun x => x.1.isSome)
      && decide ([e].length + ([] : List Keyword).length + (if ([] : List Keyword).isEmpty then 0 else 1) < 30)) = true := by rfl)
    (hline : (apos.endLine == cpos.line) = true := by rfl) (hs : starEach [e] X.env = (false, eval e X.env) :: starEach [] X.env := by rfl) (hplain : (backTo cpos (starEach [] X.env)).any (·.1) = false := by rfl) :
    PE X (.Call (.Attribute o "update" apos) [e] [] cpos) (tNM P w K E (fun x xs H Q => ∃ y, xs = [y] ∧ rNUpd P w K E w x y H Q) to t) := by
  subst hP hw hK
  exact pe_nm PySem.F.slot_dict_update PySem.F.type_dict_update (mt_nupd hr) ho ha hbase hfew hline hs hplain
/-- a list's method of one argument -/
theorem kbm (K : PySem.W.Frag) {name : Str} {id : String} {r : V → List V → Hp → VK → Prop} (slot : Slot "list" name id) (hty : typeOf (.builtin id) = pure (.type "method_descriptor")) (hm : MtR X id r) (ho : PE X o to) (ha : PA X [e] t) (hK : X.K = K := by rfl)
    (hbase : attributeBase o name X.env (eval o X.env) = eval o X.env := by rfl)
    (hfew : ((backTo cpos (starEach [e] X.env)).all (fun x => !x.1) && (backToKw cpos (keywordEach [] X.env)).all (fun x => x.1.isSome)
      && decide ([e].length + ([] : List Keyword).length + (if ([] : List Keyword).isEmpty then 0 else 1) < 30)) = true := by rfl)
    (hline : (apos.endLine == cpos.line) = true := by rfl) (hs : starEach [e] X.env = (false, eval e X.env) :: starEach [] X.env := by rfl) (hplain : (backTo cpos (starEach [] X.env)).any (·.1) = false := by rfl) :
    PE X (.Call (.Attribute o name apos) [e] [] cpos) (tBM K "list" r to t) := by
  subst hK
  exact pe_bm PySem.F.plainAttrs_list slot hty hm ho ha hbase hfew hline hs hplain
end
end G6

-- G6Ma
namespace G6
open PySem PySem.Spec PyProof.Rows L2

/-! ### tables, phases, steps -/
inductive Item where
  | look (r : Nat) (ns : List Nat)
  | say (w n : Nat)
  | stop
deriving DecidableEq
abbrev Ph := Nat × List Nat
inductive Sg where
  | one
  | lt (k : Nat)
  | fin
deriving DecidableEq
def asc (l : List Nat) : List Nat := l.mergeSort fun a b => decide (a ≤ b)
def wr (e : List Nat) (r : Nat) : List Nat := asc (e ++ [r])
def stepsI (L : Nat) (e : List Nat) : Item → List (Sg × Ph)
  | .look r ns => if r ∈ e then [(.one, (ns.getD L 0, e))] else (List.range L).map (fun k => (Sg.lt k, (ns.getD k 0, e))) ++ [(.fin, (ns.getD L 0, wr e r))]
  | .say _ n => [(.one, (n, e))]
  | .stop => []
def itemAt (t : List Item) (m : Nat) : Item := t.getD m .stop
def steps (L : Nat) (t : List Item) (p : Ph) : List (Sg × Ph) := stepsI L p.2 (itemAt t p.1)
def ItemOk (R L n : Nat) : Item → Prop
  | .look r ns => r < R ∧ ns.length = L + 1 ∧ ∀ x ∈ ns, x < n
  | .say w m => w < 3 ∧ m < n
  | .stop => True
structure WF (R L : Nat) (t : List Item) : Prop where
  r1 : 1 ≤ R
  r6 : R ≤ 6
  l1 : 1 ≤ L
  l2 : L ≤ 2
  n1 : 1 ≤ t.length
  n16 : t.length ≤ 16
  ok : ∀ x ∈ t, ItemOk R L t.length x
def PhOk (R n : Nat) (p : Ph) : Prop := p.1 < n ∧ p.2.Pairwise (· < ·) ∧ ∀ x ∈ p.2, x < R
inductive Rch (L : Nat) (t : List Item) : Ph → Prop where
  | start : Rch L t (0, [])
  | step {p : Ph} {x : Sg × Ph} : Rch L t p → x ∈ steps L t p → Rch L t x.2

/-! ### as data -/
def num (n : Nat) : NestedKey := .num (n : Int)
def nums (l : List Nat) : NestedKey := .tup (l.map num)
def phK (p : Ph) : NestedKey := .tup [num p.1, nums p.2]
def letterS (k : Nat) : Str := ([("a" : Str), "b", "c"]).getD k "a"
def sgK : Sg → NestedKey
  | .one => .none
  | .lt k => .text (letterS k)
  | .fin => .text "end"
def stepK (x : Sg × Ph) : NestedKey := .tup [sgK x.1, phK x.2]
def wordS (w : Nat) : Str := ([("x" : Str), "yes", "words"]).getD w "x"
def itemK : Item → NestedKey
  | .look r ns => .tup [.text "look", num r, nums ns]
  | .say w n => .tup [.text "say", .text (wordS w), num n]
  | .stop => .tup [.text "stop"]
def tabK (t : List Item) : NestedKey := .tup (t.map itemK)
def pairK (p : Nat × Nat) : NestedKey := .tup [num p.1, num p.2]
def nodeK (p : Ph × Nat) : NestedKey := .tup [phK p.1, num p.2]
theorem num_inj {a b : Nat} (h : num a = num b) : a = b := by
  unfold num at h
  injection h with h
  exact Int.ofNat.inj h
theorem map_num_inj : ∀ {a b : List Nat}, a.map num = b.map num → a = b
  | [], [], _ => rfl
  | [], _ :: _, h => by simp at h
  | _ :: _, [], h => by simp at h
  | x :: a, y :: b, h => by
    simp only [List.map_cons, List.cons.injEq] at h
    rw [num_inj h.1, map_num_inj h.2]
theorem nums_inj {a b : List Nat} (h : nums a = nums b) : a = b := by
  unfold nums at h
  injection h with h
  exact map_num_inj h
theorem phK_inj (a b : Ph) (h : phK a = phK b) : a = b := by
  unfold phK at h
  injection h with h
  simp only [List.cons.injEq, and_true] at h
  exact Prod.ext (num_inj h.1) (nums_inj h.2)
theorem pairK_inj (a b : Nat × Nat) (h : pairK a = pairK b) : a = b := by
  unfold pairK at h
  injection h with h
  simp only [List.cons.injEq, and_true] at h
  exact Prod.ext (num_inj h.1) (num_inj h.2)
theorem nodeK_inj (a b : Ph × Nat) (h : nodeK a = nodeK b) : a = b := by
  unfold nodeK at h
  injection h with h
  simp only [List.cons.injEq, and_true] at h
  exact Prod.ext (phK_inj _ _ h.1) (num_inj h.2)
theorem depths_num : ∀ l : List Nat, NestedKey.depthAll (l.map num) ≤ 1
  | [] => by decide
  | x :: l => by
    have := depths_num l
    simp only [List.map_cons, NestedKey.depthAll]
    show max _ _ ≤ 1
    refine Nat.max_le.mpr ⟨?_, this⟩
    show NestedKey.depth (.num x) ≤ 1
    simp [NestedKey.depth]
theorem depth_ph (p : Ph) : (phK p).depth ≤ 3 := by
  have := depths_num p.2
  unfold phK nums num
  simp only [NestedKey.depth, NestedKey.depthAll]
  show _ ≤ 3
  unfold num at this
  omega
def EP : Enc Ph := ⟨phK, phK_inj, fun p => Nat.le_trans (depth_ph p) (by decide)⟩
def EN : Enc (Ph × Nat) := ⟨nodeK, nodeK_inj, fun p => by
  have := depth_ph p.1
  unfold nodeK num
  simp only [NestedKey.depth, NestedKey.depthAll]
  omega⟩
def EQ : Enc (Nat × Nat) := ⟨pairK, pairK_inj, fun p => by
  unfold pairK num
  simp only [NestedKey.depth, NestedKey.depthAll]
  omega⟩
end G6

-- G6Li
namespace G6
open PySem PySem.Spec PyProof.Rows L2
section
variable {K : PySem.W.Frag} {H H' : Hp}
def vI (l : List Nat) : List V := l.map fun n : Nat => V.int (n : Int)
theorem vI_nks : ∀ (l : List Nat), NKs K H (l.map num) (vI l)
  | [] => .nil
  | x :: l => .cons (.num _) (vI_nks l)
theorem nks_vI : ∀ {l : List Nat} {vs : List V}, NKs K H (l.map num) vs → vs = vI l
  | [], _, h => by cases h; rfl
  | x :: l, _, h => by
    cases h with
    | cons h1 h2 =>
      cases h1
      rw [nks_vI h2]
      rfl
theorem vI_int (l : List Nat) : vI l = (l.map (fun n : Nat => (n : Int))).map V.int := by
  unfold vI
  rw [List.map_map]
  rfl
theorem vI_len (l : List Nat) : (vI l).length = l.length := List.length_map _
theorem nks_zip_all {ds : List NestedKey} {xs : List V} (h : NKs K H ds xs) : ∀ p ∈ ds.zip xs, NK K H p.1 p.2 := by
  induction ds generalizing xs with
  | nil => intro p hp; simp at hp
  | cons d ds ih =>
    cases h with
    | cons h1 h2 =>
      intro p hp
      simp only [List.zip_cons_cons, List.mem_cons] at hp
      rcases hp with rfl | hp
      · exact h1
      · exact ih h2 p hp
theorem nks_of_all : ∀ (l : List (NestedKey × V)), (∀ p ∈ l, NK K H p.1 p.2) → NKs K H (l.map (·.1)) (l.map (·.2))
  | [], _ => .nil
  | p :: l, h => .cons (h p (List.mem_cons_self)) (nks_of_all l fun q hq => h q (List.mem_cons_of_mem _ hq))
theorem zip_fst' : ∀ {ds : List NestedKey} {xs : List V}, xs.length = ds.length → (ds.zip xs).map (·.1) = ds
  | [], _, _ => by simp
  | d :: ds, [], h => by simp at h
  | d :: ds, x :: xs, h => by simp [zip_fst' (ds := ds) (xs := xs) (by simpa using h)]
theorem sortN_out {ds : List NestedKey} {xs : List V} (h : NKs K H ds xs) (le : NestedKey × V → NestedKey × V → Bool) : ∃ es, es.Perm ds ∧ NKs K H es (((ds.zip xs).mergeSort le).map (·.2)) := by
  refine ⟨((ds.zip xs).mergeSort le).map (·.1), ?_, nks_of_all _ fun p hp => nks_zip_all h p ((List.mergeSort_perm _ _).mem_iff.mp hp)⟩
  have := (List.mergeSort_perm (ds.zip xs) le).map (·.1)
  rwa [zip_fst' h.length] at this
theorem sort_vI (l : List Nat) : ((((l.map num).zip (vI l)).mergeSort (PySem.W.dataLe false fun b => b.1.data)).map (·.2)) = vI (asc l) := by
  have e : (l.map num).zip (vI l) = l.map fun n => (num n, V.int (n : Int)) := by
    unfold vI
    rw [List.zip_map']
  rw [e]
  unfold asc
  have : (l.map fun n : Nat => (num n, V.int (n : Int))).mergeSort (PySem.W.dataLe false fun b => b.1.data) = (l.mergeSort fun a b => decide (a ≤ b)).map fun n => (num n, V.int (n : Int)) := by
    rw [List.map_mergeSort (r := fun a b => decide (a ≤ b)) (s := PySem.W.dataLe false fun b => b.1.data)]
    intro a _ b _
    have q := PySem.W.dataLe_int (fun n : Nat => (n : Int))
    have q' := congrFun (congrFun q a) b
    have : decide (a ≤ b) = decide ((a : Int) ≤ (b : Int)) := by simp
    rw [this, ← q']
    rfl
  rw [this, List.map_map]
  rfl
theorem asc_perm (l : List Nat) : (asc l).Perm l := List.mergeSort_perm _ _
theorem asc_le (l : List Nat) : (asc l).Pairwise (· ≤ ·) := by
  have := List.pairwise_mergeSort (le := fun a b : Nat => decide (a ≤ b)) (by intro a b c; simp; omega) (by intro a b; simp; omega) l
  exact this.imp fun h => by simpa using h
theorem asc_lt {l : List Nat} (h : l.Nodup) : (asc l).Pairwise (· < ·) := by
  have n : (asc l).Nodup := (asc_perm l).nodup_iff.mpr h
  refine ((asc_le l).and n).imp ?_
  intro a b ⟨h1, h2⟩
  omega
theorem wr_ok {R : Nat} {e : List Nat} {r : Nat} (h : e.Pairwise (· < ·)) (hb : ∀ x ∈ e, x < R) (hr : r < R) (n : r ∉ e) : (wr e r).Pairwise (· < ·) ∧ ∀ x ∈ wr e r, x < R := by
  refine ⟨asc_lt ?_, fun x hx => ?_⟩
  · rw [List.nodup_append]
    refine ⟨h.imp (fun h => Nat.ne_of_lt h), by simp, ?_⟩
    intro a ha b hb
    simp at hb
    subst hb
    intro e
    subst e
    exact n ha
  · have := (asc_perm (e ++ [r])).mem_iff.mp hx
    simp at this
    rcases this with h | rfl
    · exact hb x h
    · exact hr
/-! ### data alike -/
theorem alike_nums : ∀ a b : List Nat, PySem.W.alikeAll (NestedKey.datas (a.map num)) (NestedKey.datas (b.map num)) = true
  | [], _ => by simp [NestedKey.datas, PySem.W.alikeAll]
  | _ :: _, [] => by simp [NestedKey.datas, PySem.W.alikeAll]
  | x :: a, y :: b => by
    simp only [List.map_cons, NestedKey.datas, PySem.W.alikeAll]
    rw [alike_nums a b]
    rfl
theorem alike_ph (p q : Ph) : PySem.W.alike (phK p).data (phK q).data = true := by
  unfold phK nums
  simp only [NestedKey.data, NestedKey.datas, PySem.W.alike, PySem.W.alikeAll, alike_nums, Bool.and_true]
  rfl
theorem alike_phs : ∀ a b : List Ph, PySem.W.alikeAll (NestedKey.datas (a.map phK)) (NestedKey.datas (b.map phK)) = true
  | [], _ => by simp [NestedKey.datas, PySem.W.alikeAll]
  | _ :: _, [] => by simp [NestedKey.datas, PySem.W.alikeAll]
  | x :: a, y :: b => by
    simp only [List.map_cons, NestedKey.datas, PySem.W.alikeAll]
    rw [alike_phs a b, alike_ph]
    rfl
theorem alike_pair (p q : Nat × Nat) : PySem.W.alike (pairK p).data (pairK q).data = true := by
  unfold pairK num
  simp [NestedKey.data, NestedKey.datas, PySem.W.alike, PySem.W.alikeAll]
def pieceK (p : List Ph × List Nat) : NestedKey := .tup [.tup (p.1.map phK), nums p.2]
theorem alike_piece (p q : List Ph × List Nat) : PySem.W.alike (pieceK p).data (pieceK q).data = true := by
  unfold pieceK nums
  simp only [NestedKey.data, NestedKey.datas, PySem.W.alike, PySem.W.alikeAll, alike_nums, alike_phs, Bool.and_true]
theorem tup_data (x : NestedKey) (r : List NestedKey) : ∃ y s, (NestedKey.tup (x :: r)).data = .tuple (y :: s) := ⟨x.data, NestedKey.datas r, by simp only [NestedKey.data, NestedKey.datas]⟩
theorem depth_nums (l : List Nat) : (nums l).depth ≤ 2 := by
  have := depths_num l
  unfold nums
  simp only [NestedKey.depth]
  omega
theorem depth_phs : ∀ l : List Ph, NestedKey.depthAll (l.map phK) ≤ 3
  | [] => by decide
  | x :: l => by
    have := depth_phs l
    have h := depth_ph x
    simp only [List.map_cons, NestedKey.depthAll]
    omega
theorem depth_piece (p : List Ph × List Nat) : (pieceK p).depth ≤ 5 := by
  have h1 := depth_phs p.1
  have h2 := depth_nums p.2
  unfold pieceK
  simp only [NestedKey.depth, NestedKey.depthAll]
  omega
theorem alk_of {α : Type} (f : α → NestedKey) (l : List α) (hl : ∀ a b, PySem.W.alike (f a).data (f b).data = true) (ht : ∀ a, ∃ y s, (f a).data = .tuple (y :: s)) (hd : ∀ a, (f a).depth ≤ 8) : Alk (l.map f) := by
  refine ⟨?_, .inl ?_, ?_⟩
  · intro d hd' d' hd''
    simp only [List.map_map, List.mem_map, Function.comp] at hd' hd''
    obtain ⟨a, _, rfl⟩ := hd'
    obtain ⟨b, _, rfl⟩ := hd''
    exact hl a b
  · intro d hd'
    simp only [List.map_map, List.mem_map, Function.comp] at hd'
    obtain ⟨a, _, rfl⟩ := hd'
    exact ht a
  · intro d hd'
    simp only [List.mem_map] at hd'
    obtain ⟨a, _, rfl⟩ := hd'
    rw [depth_data]
    have := hd a
    omega
theorem alk_ph (l : List Ph) : Alk (l.map phK) := alk_of phK l alike_ph (fun a => tup_data _ _) EP.dp
theorem alk_pair (l : List (Nat × Nat)) : Alk (l.map pairK) := alk_of pairK l alike_pair (fun a => tup_data _ _) EQ.dp
theorem alk_piece (l : List (List Ph × List Nat)) : Alk (l.map pieceK) := alk_of pieceK l alike_piece (fun a => tup_data _ _) fun a => Nat.le_trans (depth_piece a) (by decide)
theorem alk_num (l : List Nat) : Alk (l.map num) := by
  refine ⟨?_, .inr ?_, ?_⟩
  · intro d hd' d' hd''
    simp only [List.map_map, List.mem_map, Function.comp] at hd' hd''
    obtain ⟨a, _, rfl⟩ := hd'
    obtain ⟨b, _, rfl⟩ := hd''
    simp [num, NestedKey.data, PySem.W.alike]
  · intro d hd'
    simp only [List.map_map, List.mem_map, Function.comp] at hd'
    obtain ⟨a, _, rfl⟩ := hd'
    simp [num, NestedKey.data]
  · intro d hd'
    simp only [List.mem_map] at hd'
    obtain ⟨a, _, rfl⟩ := hd'
    rw [depth_data]
    simp [num, NestedKey.depth]
end
end G6

-- G6F_Aa
namespace G6
open PySem PySem.Spec PyProof.Rows L2
section
variable {P : Program} {w : World} {K : PySem.W.Frag} {mg : Str → Option Value} {base : Heap}
abbrev N_is_integer : List Str := ["thing"]
theorem sc_is_integer : FnScope N_is_integer ["thing"] (defScope s_is_integer) := ⟨rfl, rfl, rfl, by decide +kernel, rfl, by decide +kernel, by decide +kernel⟩
def sp_is_integer : Sp := fun vs H Q _ => ∃ i, vs = [.int i] ∧ Q (.bl true) H
theorem f_is_integer (c : Cn K mg) : C8.Cal P w K mg base 1 "is_integer" sp_is_integer [] := by
  refine cal_of (N := N_is_integer) c.g_is_integer c.d_is_integer sc_is_integer (fun _ _ _ _ _ _ us hl => match us, hl with | [_], _ => rfl) (fun vs H Q E h => ?len) (fun cdv A outer s H vs Q E hr h => ?_)
  case len => obtain ⟨i, rfl, _⟩ := h; rfl
  obtain ⟨i, rfl, q⟩ := h
  refine ⟨_, (pss_one (ps_ret (pe_and (pe_callB (r := rIsi K) (kc_isi K) (by rfl) c.z_isinstance (by decide +kernel) (pa_cons (pv 0) (pa_cons (pe_bltn (v := .ty "int") (by rfl) c.z_int (by decide +kernel) rfl) pa_nil))) (pe_one (pe_not (pe_callB (r := rIsi K) (kc_isi K) (by rfl) c.z_isinstance (by decide +kernel) (pa_cons (pv 0) (pa_cons (pe_bltn (v := .ty "bool") (by rfl) c.z_bool (by decide +kernel) rfl) pa_nil)))))))), ?_⟩
  exact ⟨_, rfl, _, _, _, _, true, rfl, .ty _, .base (.int i), kit_ty (by decide +kernel), true, rfl, iteT ⟨_, rfl, _, _, _, _, false, rfl, .ty _, .base (.int i), kit_ty (by decide +kernel), false, rfl, q⟩⟩
abbrev N_is_within : List Str := ["thing", "least", "most"]
theorem sc_is_within : FnScope N_is_within ["thing", "least", "most"] (defScope s_is_within) := ⟨rfl, rfl, rfl, by decide +kernel, rfl, by decide +kernel, by decide +kernel⟩
def sp_is_within : Sp := fun vs H Q _ => ∃ i a b : Int, vs = [.int i, .int a, .int b] ∧ a ≤ i ∧ i ≤ b ∧ Q (.bl true) H
theorem f_is_within (c : Cn K mg) : C8.Cal P w K mg base 2 "is_within" sp_is_within [] := by
  have h_is_integer := f_is_integer (P := P) (w := w) (base := base) c
  refine cal_of (N := N_is_within) c.g_is_within c.d_is_within sc_is_within (fun _ _ _ _ _ _ us hl => match us, hl with | [_, _, _], _ => rfl) (fun vs H Q E h => ?len) (fun cdv A outer s H vs Q E hr h => ?_)
  case len => obtain ⟨i, a, b, rfl, _⟩ := h; rfl
  obtain ⟨i, a, b, rfl, h1, h2, q⟩ := h
  refine ⟨_, (pss_one (ps_ret (pe_and (C8.pe_c h_is_integer hr (by decide) (by rfl) (pa_cons (pv 0) pa_nil)) (pe_one (pe_chain op_le op_le (pv 1) (pv 0) (pv 2)))))), ?_⟩
  refine ⟨_, rfl, i, rfl, true, rfl, iteT ⟨_, rfl, _, rfl, _, _, rfl, rfl, true, congrArg V.bl (decide_eq_true h1), iteT ⟨_, rfl, _, _, rfl, rfl, ?_⟩⟩⟩
  show Q (.bl (decide _)) _
  rw [decide_eq_true h2]
  exact q
abbrev N_is_string_of : List Str := ["thing", "signs", "sign"]
theorem sc_is_string_of : FnScope N_is_string_of ["thing", "signs"] (defScope s_is_string_of) := ⟨rfl, rfl, rfl, by decide +kernel, rfl, by decide +kernel, by decide +kernel⟩
def sp_is_string_of : Sp := fun vs H Q _ => ∃ x z : Str, vs = [.str x, .str z] ∧ (∀ c ∈ x.cps.toList, c ∈ z.cps.toList) ∧ Q (.bl true) H
theorem f_is_string_of (c : Cn K mg) : C8.Cal P w K mg base 1 "is_string_of" sp_is_string_of [] := by
  refine cal_of (N := N_is_string_of) c.g_is_string_of c.d_is_string_of sc_is_string_of (fun _ _ _ _ _ _ us hl => match us, hl with | [_, _], _ => rfl) (fun vs H Q E h => ?len) (fun cdv A outer s H vs Q E hr h => ?_)
  case len => obtain ⟨x, z, rfl, _⟩ := h; rfl
  obtain ⟨x, z, rfl, hc, q⟩ := h
  refine ⟨_, (pss_cons (ps_if (pt_not (pt_val (pe_callB (r := rIsi K) (kc_isi K) (by rfl) c.z_isinstance (by decide +kernel) (pa_cons (pv 0) (pa_cons (pe_bltn (v := .ty "str") (by rfl) c.z_str (by decide +kernel) rfl) pa_nil))))) (pss_one (ps_ret pe_bl)) pss_nil)
      (pss_cons (ps_for PassesOwn.never rfl (pi_str (pv 0)) (pg_name (i := 2) sc_is_string_of.nd rfl (Or.inl rfl)) (pss_one (ps_if (pt_cmpR op_notInS (pv 2) (pv 1) (by rfl)) (pss_one (ps_ret pe_bl)) pss_nil)))
      (pss_one (ps_ret pe_bl)))), ?_⟩
  refine ⟨_, rfl, _, _, _, _, true, rfl, .ty _, .base (.str x), kit_ty (by decide +kernel), true, rfl, ?_⟩
  refine iteF ⟨_, rfl, _, rfl, ?_⟩
  refine for_it walk_str (fun i σ H' => H' = H ∧ σ[0]? = some (some (.str x)) ∧ σ[1]? = some (some (.str z)) ∧ σ.length = 3) ⟨rfl, rfl, rfl, rfl⟩ (fun _ _ _ _ _ => True.intro) ?_ ?_
  · intro i v σ H1 H2 hi ⟨e, h0, h1, hl⟩ ⟨e2, cc, hc1, ev⟩
    subst e e2 ev
    refine ⟨_, List.getElem?_set_self (by omega), _, by rw [List.getElem?_set_ne (by decide)]; exact h1, cc, z, rfl, rfl, false, ?_, ?_⟩
    · have : cc ∈ z.cps.toList := hc cc (by
        obtain ⟨h, e⟩ := Array.getElem?_eq_some_iff.mp hc1
        rw [← e]
        simp)
      rw [decide_eq_true this]
      rfl
    · exact iteF ⟨rfl, by rw [List.getElem?_set_ne (by decide)]; exact h0, by rw [List.getElem?_set_ne (by decide)]; exact h1, by rw [List.length_set]; exact hl⟩
  · intro σ H1 ⟨e, _⟩
    subst e
    exact q
abbrev N_is_word : List Str := ["thing"]
theorem sc_is_word : FnScope N_is_word ["thing"] (defScope s_is_word) := ⟨rfl, rfl, rfl, by decide +kernel, rfl, by decide +kernel, by decide +kernel⟩
def sp_is_word : Sp := fun vs H Q _ => ∃ n, n < 3 ∧ vs = [.str (wordS n)] ∧ Q (.bl true) H
theorem f_is_word (c : Cn K mg) : C8.Cal P w K mg base 2 "is_word" sp_is_word [] := by
  have h_is_string_of := f_is_string_of (P := P) (w := w) (base := base) c
  refine cal_of (N := N_is_word) c.g_is_word c.d_is_word sc_is_word (fun _ _ _ _ _ _ us hl => match us, hl with | [_], _ => rfl) (fun vs H Q E h => ?len) (fun cdv A outer s H vs Q E hr h => ?_)
  case len => obtain ⟨n, hn, rfl, _⟩ := h; rfl
  obtain ⟨n, hn, rfl, q⟩ := h
  refine ⟨_, (pss_one (ps_ret (pe_and (C8.pe_c h_is_string_of hr (by decide) (by rfl) (pa_cons (pv 0) (pa_cons (pe_glob (v := .str "abcdefghijklmnopqrstuvwxyz") (by rfl) c.sSmall.choose_spec ⟨_, rfl⟩) pa_nil))) (pe_one (pe_chain op_le op_le pe_int (pe_callB (r := rLenS1) kc_lenS (by rfl) c.z_len (by decide +kernel) (pa_cons (pv 0) pa_nil)) pe_int))))), ?_⟩
  have hz : (wordS n).length ≤ 8 ∧ 1 ≤ (wordS n).length ∧ ∀ c ∈ (wordS n).cps.toList, c ∈ ("abcdefghijklmnopqrstuvwxyz" : Str).cps.toList := by
    match n, hn with
    | 0, _ => decide +kernel
    | 1, _ => decide +kernel
    | 2, _ => decide +kernel
  refine ⟨_, rfl, _, _, rfl, hz.2.2, true, rfl, iteT ⟨_, rfl, _, rfl, Nat.le_trans hz.1 (by decide), _, _, rfl, rfl, true, ?_, iteT ⟨_, _, rfl, rfl, ?_⟩⟩⟩
  · exact congrArg V.bl (decide_eq_true (by have := hz.2.1; omega))
  · show Q (.bl (decide _)) _
    rw [decide_eq_true (by have := hz.1; omega)]
    exact q
end
end G6

-- G6Lj
namespace G6
open PySem PySem.Spec PyProof.Rows L2
/-! ### name = {.. for ..} -/
section
variable {X : Cx} {κ : Type} [DecidableEq κ]
theorem sw_trueD {kx vx : Expr} {gs : List Comprehension} {scope : Scope} {pos py : Pos} {y : Str} {l : Nat} {env : Env} (hk : env.scope.kind = .function) (hy : env.scope.names.lookup y = some .local) (hl : (py.line == pos.line) = true)
    (ha : (scope.names.any fun (n, k) => n == y && (k == .local || k == .cell)) = false) : swapsWith (.DictComp kx vx gs scope pos) (some (.Name y py)) l env = pure true := by
  have ky : env.kindOf y = some .local := hy
  have hb : env.blockKind = .function := by unfold Env.blockKind; rw [hk]; rfl
  unfold swapsWith
  simp only [hb, ky, ha, Expr.pos, hl]
  rfl
theorem ps_setNc {E : Enc κ} {i n0 : Nat} {y : Str} {py : Pos} {kx vx tg iter : Expr} {scope : Scope} {own : List (Str × Nat)} {pos spos : Pos} {wi : TI} {g : TG} {tk tv : TE} (hr : Room n0 X.A) (hc : X.calm = true) (hN : X.N.Nodup) (hy : X.N[i]? = some y) (hyl : X.env.scope.names.lookup y = some .local)
    (hsw : swapsWith (.DictComp kx vx [⟨tg, iter, [], 0⟩] scope pos) (some (.Name y py)) spos.line X.env = pure true) (hi : PI X tg iter wi) (ok : BlkOk X.N X.env.scope scope own)
    (hg : CT X scope fun Y => PG Y tg g) (hk : CT X scope fun Y => PE Y kx tk) (he : CT X scope fun Y => PE Y vx tv) (hs : ∀ x, foldedSetIterable iter X.env x = pure x := by intro _; rfl) :
    PS X (.Assign [.Name y py] (.DictComp kx vx [⟨tg, iter, [], 0⟩] scope pos) spos) (tAsg (tNC X.prog X.w X.K E wi g tk tv (own.map (·.2))) (gName i)) := by
  refine ⟨fun pins s σ H D I h => ?_⟩
  rw [exec_Assign_Name_used _ _ _ _ hsw]
  refine wpAny_bind (wpAny_standAt (wpAny_bind ?_))
  show wpAny _ X.A (do let _ ← comprehension (.DictComp kx vx [⟨tg, iter, [], 0⟩] scope pos) scope X.env (firstIterPos [⟨tg, iter, [], 0⟩] pos) newDict false (eval iter X.env) (some (assign (.Name y py) X.env))) _ _ s
  have h : tNC X.prog X.w X.K E wi g tk tv (own.map (·.2)) σ H (fun x H1 => gName i x σ H1 D.nx) := h
  refine wpAny_bind (thn (nc_core (Qf := fun _ s' => SP X pins D .next s') hr hc hN I hi ok hg hk he hs h fun L C s' m H' I' q hn f => ?_) fun _ s' hq => wpAny_pure (wpAny_pure hq))
  show wpAny _ _ (assign (.Name y py) X.env (.ref L)) _ _ _
  refine wpAny_assign_Name (store_ok2 (v := V.ref L) I' hN hy (.inl hyl) rfl (fun s2 I2 ⟨a, sb, ha⟩ => ?_) (.inr hyl))
  obtain ⟨f0, f1, f2, f3, f4, f5⟩ := f
  have haC : C ≠ a := by
    rcases ha with z | z
    · rw [z]; exact f1
    · exact fun e => f4 y a z e.symm
  refine ⟨m, hn.sameBut sb haC, fun h3 sb3 => ?_⟩
  exact ⟨_, H', I2.turned (t' := s2.toks) (fun b o hb e => (sb3.2 b hb).trans e) f0 f1 f3 f4 f5, q⟩
theorem knsetc (P : Program) (w : World) (K : PySem.W.Frag) (E : Enc κ) {i n0 : Nat} {y : Str} {py : Pos} {kx vx tg iter : Expr} {scope : Scope} {own : List (Str × Nat)} {pos spos : Pos} {wi : TI} {g : TG} {tk tv : TE} (hr : Room n0 X.A) (hN : X.N.Nodup) (hy : X.N[i]? = some y) (hyl : X.env.scope.names.lookup y = some .local)
    (hsw : swapsWith (.DictComp kx vx [⟨tg, iter, [], 0⟩] scope pos) (some (.Name y py)) spos.line X.env = pure true) (hi : PI X tg iter wi) (ok : BlkOk X.N X.env.scope scope own)
    (hg : CT X scope fun Y => PG Y tg g) (hk : CT X scope fun Y => PE Y kx tk) (he : CT X scope fun Y => PE Y vx tv) (hP : X.prog = P := by rfl) (hw : X.w = w := by rfl) (hK : X.K = K := by rfl) (hc : X.calm = true := by rfl) (hs : ∀ x, foldedSetIterable iter X.env x = pure x := by intro _; rfl) :
    PS X (.Assign [.Name y py] (.DictComp kx vx [⟨tg, iter, [], 0⟩] scope pos) spos) (tAsg (tNC P w K E wi g tk tv (own.map (·.2))) (gName i)) := by
  subst hP hw hK
  exact ps_setNc hr hc hN hy hyl hsw hi ok hg hk he hs
end
/-! ### locks -/
section
variable {P : Program} {w : World} {κ : Type} {K : PySem.W.Frag} {H H' : Hp} {E : Enc κ} {d a : Addr} {kvs : List (κ × V)}
theorem Same.unlock {u : HO} {od : Obj} (hd : H d = some u) (s : Same (L2.upd H d (.frz od u)) H') : Same H (L2.upd H' d u) := fun b o e => by
  by_cases h : b = d
  · subst h
    rw [upd_same]
    rw [hd] at e
    exact e
  · rw [upd_ne h]
    exact s b o (by rw [upd_ne h]; exact e)
theorem Tk.lock {u : HO} {od : Obj} (hd : H d = some u) (n : NoT (some u)) : Tk H (L2.upd H d (.frz od u)) := Tk.upd (by rw [hd]; exact n)
theorem Tk.unlock {u : HO} {od : Obj} (s : Same (L2.upd H d (.frz od u)) H') (n : NoT (some u)) : Tk H' (L2.upd H' d u) := by
  refine Tk.upd ?_
  rw [s d _ upd_same]
  cases u <;> first | exact n | exact True.intro
theorem NDr.lock {zs : List (NestedKey × Addr × V)} {od : Obj} (h : (d == sysModules) = false) (hl : kvs.length ≤ sizeLine) (hd : H d = Option.some (NDo P w d zs)) (z : ZK K H E kvs zs) : NDr P w K (L2.upd H d (.frz od (NDo P w d zs))) E d kvs :=
  ⟨h, hl, zs, .inr ⟨od, upd_same⟩, z.tk (Tk.lock hd True.intro)⟩
theorem same_of_ne (s : Same H H') {b : Addr} {o : HO} (h : H b = some o) : H' b = some o := s b o h
end
/-! ### comprehensions that only add -/
section
variable {J : It} {n : Nat} {G : Hp → Prop} {Y : Nat → Hp → V → Hp → Prop}
theorem range_filter_succ (keep : Nat → Bool) (i : Nat) : (List.range (i + 1)).filter keep = (List.range i).filter keep ++ if keep i = true then [i] else [] := by
  rw [List.range_succ, List.filter_append]
  by_cases h : keep i = true <;> simp [h]
theorem Paired.snoc' {α β : Type} {R : α → β → Prop} {l : List α} {m : List β} {a : α} {b : β} (h : Paired R l m) (r : R a b) : Paired R (l ++ [a]) (m ++ [b]) := by
  induction h with
  | nil => exact .cons r .nil
  | cons q t ih => exact .cons q ih
theorem lc_all (w : Walk J n G Y) {g : TG} {tt : TT} {te : TE} {vs : List Nat} {σ : L2.St} {H1 : Hp} {D : Addr} {Qd : Hp → Prop} (R : Nat → V → Hp → Prop) (keep : Nat → Bool) (hD : H1 D = none) (hz : n ≤ sizeLine)
    (hG : ∀ H, Same H1 H → G H) (hY : ∀ i H x H', Y i H x H' → Same H H')
    (hRs : ∀ i y H H', Same H H' → R i y H → R i y H') (hRu : ∀ i y H acc acc', H D = some (.lst acc) → R i y H → R i y (upd H D (.lst acc')))
    (hs : ∀ i x H H', i < n → Same H1 H → (∃ acc, H D = some (.lst acc)) → Y i H x H' → ∀ (Qy : V → Hp → Prop) (Qn : Hp → Prop), (keep i = true → ∀ y H4, Same H' H4 → R i y H4 → Qy y H4) → (keep i = false → ∀ H3, Same H' H3 → Qn H3) →
      g x (wipe σ vs) H' fun σ2 H2 => wipe σ2 vs = wipe σ vs ∧ tt σ2 H2 fun b H3 => if b = true then te σ2 H3 Qy else Qn H3)
    (hd : ∀ H ys, Same H1 H → H D = some (.lst ys) → Paired (fun i y => R i y H) ((List.range n).filter keep) ys → Qd H) :
    ∃ W : Nat → Nat → Hp → Prop, (∃ m, W 0 m (upd H1 D (.lst []))) ∧ ∀ i m H, W i m H →
      (J.stop i H ∧ Qd H) ∨ (J.go i H ∧ ∃ Nx : Hp → Prop, (∀ H', Nx H' → ∃ m', m' < m ∧ W (i + 1) m' H') ∧ ∀ x H', J.yld i H x H' → g x (wipe σ vs) H' fun σ2 H2 => wipe σ2 vs = wipe σ vs ∧ tt σ2 H2 fun b H3 =>
        if b = true then te σ2 H3 fun y H4 => ∃ acc, H4 D = some (.lst acc) ∧ acc.length < sizeLine ∧ Nx (upd H4 D (.lst (acc ++ [y]))) else Nx H3) := by
  refine lc_it w (fun i H => Same H1 H ∧ ∃ ys, H D = some (.lst ys) ∧ Paired (fun j y => R j y H) ((List.range i).filter keep) ys) ⟨same_new hD, [], upd_same, .nil⟩ (fun i H _ h => hG H h.1) ?_ ?_
  · intro i x H H' hi ⟨sm, ys, hys, hp⟩ hy
    have s1 := hY _ _ _ _ hy
    refine hs i x H H' hi sm ⟨ys, hys⟩ hy _ _ ?_ ?_
    · intro hk y H4 s4 r
      have sA : Same H H4 := s1.trans s4
      refine ⟨ys, sA _ _ hys, ?_, ?_, ys ++ [y], upd_same, ?_⟩
      · rw [← Paired.length hp]
        have := List.length_filter_le keep (List.range i)
        rw [List.length_range] at this
        omega
      · exact Same.mut (Same.trans sm sA) hD
      · rw [range_filter_succ, if_pos hk]
        refine Paired.snoc' (Paired.mapP hp fun j z q => hRu _ _ _ _ _ (sA _ _ hys) (hRs _ _ _ _ sA q)) (hRu _ _ _ _ _ (sA _ _ hys) r)
    · intro hk H3 s3
      have sA : Same H H3 := s1.trans s3
      refine ⟨sm.trans sA, ys, sA _ _ hys, ?_⟩
      rw [range_filter_succ, if_neg (by rw [hk]; decide), List.append_nil]
      exact Paired.mapP hp fun j z q => hRs _ _ _ _ sA q
  · intro H ⟨sm, ys, hys, hp⟩
    exact hd H ys sm hys hp
theorem filter_true (n : Nat) : (List.range n).filter (fun _ => true) = List.range n := by simp
theorem lc_map (w : Walk J n G Y) {g : TG} {te : TE} {vs : List Nat} {σ : L2.St} {H1 : Hp} {D : Addr} {Qd : Hp → Prop} (R : Nat → V → Hp → Prop) (hD : H1 D = none) (hz : n ≤ sizeLine)
    (hG : ∀ H, Same H1 H → G H) (hY : ∀ i H x H', Y i H x H' → Same H H')
    (hRs : ∀ i y H H', Same H H' → R i y H → R i y H') (hRu : ∀ i y H acc acc', H D = some (.lst acc) → R i y H → R i y (upd H D (.lst acc')))
    (hs : ∀ i x H H', i < n → Same H1 H → (∃ acc, H D = some (.lst acc)) → Y i H x H' → ∀ (Qy : V → Hp → Prop), (∀ y H4, Same H' H4 → R i y H4 → Qy y H4) →
      g x (wipe σ vs) H' fun σ2 H2 => wipe σ2 vs = wipe σ vs ∧ te σ2 H2 Qy)
    (mono : ∀ x σ H (Q Q' : L2.St → Hp → Prop), (∀ σ2 H2, Q σ2 H2 → Q' σ2 H2) → g x σ H Q → g x σ H Q')
    (hd : ∀ H ys, Same H1 H → H D = some (.lst ys) → Paired (fun i y => R i y H) (List.range n) ys → Qd H) :
    ∃ W : Nat → Nat → Hp → Prop, (∃ m, W 0 m (upd H1 D (.lst []))) ∧ ∀ i m H, W i m H →
      (J.stop i H ∧ Qd H) ∨ (J.go i H ∧ ∃ Nx : Hp → Prop, (∀ H', Nx H' → ∃ m', m' < m ∧ W (i + 1) m' H') ∧ ∀ x H', J.yld i H x H' → g x (wipe σ vs) H' fun σ2 H2 => wipe σ2 vs = wipe σ vs ∧ tYes σ2 H2 fun b H3 =>
        if b = true then te σ2 H3 fun y H4 => ∃ acc, H4 D = some (.lst acc) ∧ acc.length < sizeLine ∧ Nx (upd H4 D (.lst (acc ++ [y]))) else Nx H3) := by
  refine lc_all w R (fun _ => true) hD hz hG hY hRs hRu ?_ (fun H ys s h p => hd H ys s h (by rwa [filter_true] at p))
  intro i x H H' hi sm ha hy Qy Qn h1 _
  refine mono _ _ _ _ _ (fun σ2 H2 q => ⟨q.1, (by show (if true = true then te σ2 H2 Qy else Qn H2); rw [if_pos rfl]; exact q.2)⟩) (hs i x H H' hi sm ha hy Qy (h1 rfl))
theorem mono_name (i : Nat) : ∀ x σ H (Q Q' : L2.St → Hp → Prop), (∀ σ2 H2, Q σ2 H2 → Q' σ2 H2) → gName i x σ H Q → gName i x σ H Q' := fun _ _ _ _ _ h q => h _ _ q
theorem mono_two (K : PySem.W.Frag) (i j : Nat) : ∀ x σ H (Q Q' : L2.St → Hp → Prop), (∀ σ2 H2, Q σ2 H2 → Q' σ2 H2) → gTup K 2 (gCons (gName i) (gCons (gName j) gNil)) x σ H Q → gTup K 2 (gCons (gName i) (gCons (gName j) gNil)) x σ H Q' :=
  fun _ _ _ _ _ h ⟨a, xs, e1, e2, e3, v, r, e4, v2, r2, e5, e6, q⟩ => ⟨a, xs, e1, e2, e3, v, r, e4, v2, r2, e5, e6, h _ _ q⟩
/-- all of it, as data -/
theorem nks_paired {K : PySem.W.Frag} {H : Hp} {f : Nat → NestedKey} : ∀ {l : List Nat} {ys : List V}, Paired (fun i y => NK K H (f i) y) l ys → NKs K H (l.map f) ys
  | _, _, .nil => .nil
  | _, _, .cons r t => .cons r (nks_paired t)
end
end G6

-- G6F_Ab
namespace G6
open PySem PySem.Spec PyProof.Rows L2
section
variable {K : PySem.W.Frag} {H H' : Hp}
theorem nums_inv {l : List Nat} {v : V} (h : NK K H (nums l) v) : ∃ a, v = .ref a ∧ SqT K H a (vI l) := by
  obtain ⟨a, vs, rfl, h1, h2⟩ := h.tupOf
  rw [nks_vI h2] at h1
  exact ⟨a, rfl, h1⟩
theorem nums_mk {l : List Nat} {a : Addr} (h : SqT K H a (vI l)) : NK K H (nums l) (.ref a) := .tup h (vI_nks l)
theorem num_inv {n : Nat} {v : V} (h : NK K H (num n) v) : v = .int (n : Int) := by cases h; rfl
theorem text_inv {n : Str} {v : V} (h : NK K H (.text n) v) : v = .str n := by cases h; rfl
theorem ph_inv {p : Ph} {v : V} (h : NK K H (phK p) v) : ∃ a e, v = .ref a ∧ SqT K H a [.int (p.1 : Int), .ref e] ∧ SqT K H e (vI p.2) := by
  obtain ⟨a, vs, rfl, h1, h2⟩ := h.tupOf
  cases h2 with
  | cons x y =>
    cases y with
    | cons z t =>
      cases t
      obtain ⟨e, rfl, q⟩ := nums_inv z
      rw [num_inv x] at h1
      exact ⟨a, e, rfl, h1, q⟩
theorem ph_mk {m : Nat} {l : List Nat} {a e : Addr} (h1 : SqT K H a [.int (m : Int), .ref e]) (h2 : SqT K H e (vI l)) : NK K H (phK (m, l)) (.ref a) :=
  .tup h1 (.cons (.num _) (.cons (nums_mk h2) .nil))
theorem two_inv {x y : NestedKey} {v : V} (h : NK K H (.tup [x, y]) v) : ∃ a u z, v = .ref a ∧ SqT K H a [u, z] ∧ NK K H x u ∧ NK K H y z := by
  obtain ⟨a, vs, rfl, h1, h2⟩ := h.tupOf
  cases h2 with
  | cons x y =>
    cases y with
    | cons z t =>
      cases t
      exact ⟨a, _, _, rfl, h1, x, z⟩
theorem two_mk {x y : NestedKey} {a : Addr} {u z : V} (h : SqT K H a [u, z]) (h1 : NK K H x u) (h2 : NK K H y z) : NK K H (.tup [x, y]) (.ref a) := .tup h (.cons h1 (.cons h2 .nil))
theorem three_inv {x y z : NestedKey} {v : V} (h : NK K H (.tup [x, y, z]) v) : ∃ a u1 u2 u3, v = .ref a ∧ SqT K H a [u1, u2, u3] ∧ NK K H x u1 ∧ NK K H y u2 ∧ NK K H z u3 := by
  obtain ⟨a, vs, rfl, h1, h2⟩ := h.tupOf
  cases h2 with
  | cons x y =>
    cases y with
    | cons y t =>
      cases t with
      | cons z t =>
        cases t
        exact ⟨a, _, _, _, rfl, h1, x, y, z⟩
theorem three_mk {x y z : NestedKey} {a : Addr} {u1 u2 u3 : V} (h : SqT K H a [u1, u2, u3]) (h1 : NK K H x u1) (h2 : NK K H y u2) (h3 : NK K H z u3) : NK K H (.tup [x, y, z]) (.ref a) := .tup h (.cons h1 (.cons h2 (.cons h3 .nil)))
theorem look_inv {r : Nat} {ns : List Nat} {v : V} (h : NK K H (itemK (.look r ns)) v) : ∃ a b, v = .ref a ∧ SqT K H a [.str "look", .int (r : Int), .ref b] ∧ SqT K H b (vI ns) := by
  obtain ⟨a, u1, u2, u3, rfl, h, h1, h2, h3⟩ := three_inv h
  rw [text_inv h1, num_inv h2] at h
  obtain ⟨b, rfl, q⟩ := nums_inv h3
  exact ⟨a, b, rfl, h, q⟩
theorem say_inv {w n : Nat} {v : V} (h : NK K H (itemK (.say w n)) v) : ∃ a, v = .ref a ∧ SqT K H a [.str "say", .str (wordS w), .int (n : Int)] := by
  obtain ⟨a, u1, u2, u3, rfl, h, h1, h2, h3⟩ := three_inv h
  rw [text_inv h1, text_inv h2, num_inv h3] at h
  exact ⟨a, rfl, h⟩
theorem stop_inv {v : V} (h : NK K H (itemK .stop) v) : ∃ a, v = .ref a ∧ SqT K H a [.str "stop"] := by
  obtain ⟨a, vs, rfl, h1, h2⟩ := h.tupOf
  cases h2 with
  | cons x t =>
    cases t
    rw [text_inv x] at h1
    exact ⟨a, rfl, h1⟩
theorem vI_get {l : List Nat} {i : Nat} (h : i < l.length) : (vI l)[i]? = some (.int ((l.getD i 0 : Nat) : Int)) := by
  unfold vI
  rw [List.getElem?_map, List.getElem?_eq_getElem h]
  simp [List.getD, h]
theorem atI_vI {l : List Nat} {i : Nat} (h : i < l.length) (hz : l.length ≤ 1000) : atI (vI l) (i : Int) = some (.int ((l.getD i 0 : Nat) : Int)) := atI_nat (vI_get h)
theorem sqT {a : Addr} {xs : List V} (s : Same H H') (h : SqT K H a xs) : SqT K H' a xs := (Tk.same s).sqt h
theorem sz (n : Nat) (h : n ≤ 1000000) : n ≤ sizeLine := Nat.le_trans h (by decide)
end
section
variable {P : Program} {w : World} {K : PySem.W.Frag} {mg : Str → Option Value} {base : Heap}
abbrev N_are_nexts : List Str := ["thing", "letters", "many", "standing"]
theorem sc_are_nexts : FnScope N_are_nexts ["thing", "letters", "many"] (defScope s_are_nexts) := ⟨rfl, rfl, rfl, by decide +kernel, rfl, by decide +kernel, by decide +kernel⟩
def sp_are_nexts (K : PySem.W.Frag) : Sp := fun vs H Q _ => ∃ (a : Addr) (ns : List Nat) (L n : Nat), vs = [.ref a, .int (L : Int), .int (n : Int)] ∧ SqT K H a (vI ns) ∧ ns.length = L + 1 ∧ L ≤ 2 ∧ (∀ x ∈ ns, x < n) ∧ ∀ H', Same H H' → Q (.bl true) H'
theorem f_are_nexts (c : Cn K mg) : C8.Cal P w K mg base 3 "are_nexts" (sp_are_nexts K) [] := by
  have h_is_within := f_is_within (P := P) (w := w) (base := base) c
  refine cal_of (N := N_are_nexts) c.g_are_nexts c.d_are_nexts sc_are_nexts (fun _ _ _ _ _ _ us hl => match us, hl with | [_, _, _], _ => rfl) (fun vs H Q E h => ?len) (fun cdv A outer s H vs Q E hr h => ?_)
  case len => obtain ⟨a, ns, L, n, rfl, _⟩ := h; rfl
  obtain ⟨a, ns, L, n, rfl, hs, hl, hL, hn, q⟩ := h
  refine ⟨_, (pss_cons (ps_if (PW.pt (pw_or (pt_not (pt_val (pe_callB (r := rIsi K) (kc_isi K) (by rfl) c.z_isinstance (by decide +kernel) (pa_cons (pv 0) (pa_cons (pe_bltn (v := .ty "tuple") (by rfl) c.z_tuple (by decide +kernel) rfl) pa_nil))))) (pw_or1 (pt_cmpR op_ne (pe_callB (r := rLenA K) (kc_len K) (by rfl) c.z_len (by decide +kernel) (pa_cons (pv 0) pa_nil)) (pe_op op_add (pv 1) pe_int) (nomark _))))) (pss_one (ps_ret pe_bl)) pss_nil)
      (pss_one (ps_ret (pe_callB (r := rAll K) (kc_all K) (by rfl) c.z_all (by decide +kernel) (pa_cons (pe_lc (own := [("standing", 3)]) (g := gName 3) (tt := tYes) rfl sc_are_nexts.nd (kpi_tup K (pv 0)) (blkOk_by (own := [("standing", 3)]) (N := N_are_nexts) (sc := defScope s_are_nexts) (by decide +kernel)) (fun _ _ _ _ _ => (pg_name (i := 3) sc_are_nexts.nd rfl (Or.inl rfl))) (fun _ _ _ _ _ => pts_nil) (fun _ _ _ _ _ => (C8.pe_c h_is_within hr (by decide) (by rfl) (pa_cons (pv 3) (pa_cons pe_int (pa_cons (pe_op op_sub (pv 2) pe_int) pa_nil)))))) pa_nil))))), ?_⟩
  refine ⟨_, rfl, _, _, _, _, true, rfl, .ty _, tyx_tup hs, kit_ty (by decide +kernel), true, rfl, iteF ⟨_, rfl, _, _, rfl, .inr hs, _, rfl, _, _, rfl, rfl, rfl, false, ?_, iteF ?_⟩⟩
  · rw [vI_len, hl]
    simp
  · refine ⟨_, rfl, _, rfl, ⟨_, hs⟩, fun D hD => ?_⟩
    refine lc_map walk_tup (fun _ y _ => y = .bl true) hD (by rw [vI_len, hl]; exact sz _ (by omega)) (fun H1 s1 => sqT s1 hs) (fun i H x H' y => by rw [y.1]; exact Same.refl _) (fun i y H H' _ e => e) (fun i y H _ _ _ e => e) ?_ (mono_name _) ?_
    · intro i x H1 H2 hi sm _ ⟨e, ex⟩ Qy hy
      subst e
      rw [vI_len] at hi
      rw [vI_get hi] at ex
      cases ex
      refine ⟨rfl, _, rfl, _, rfl, _, _, rfl, rfl, _, _, _, rfl, ?_, ?_, hy _ _ (Same.refl _) rfl⟩
      · exact Int.natCast_nonneg _
      · have := hn (ns.getD i 0) (by rw [List.getD_eq_getElem?_getD, List.getElem?_eq_getElem hi]; exact List.getElem_mem hi)
        show _ ≤ (n : Int) - 1
        omega
    · intro H1 ys sm hys hp
      refine ⟨D, List.replicate ns.length true, rfl, .inl (.inl ?_), ?_⟩
      · have : ys = (List.replicate ns.length true).map V.bl := by
          have hl2 := Paired.length hp
          rw [List.length_range, vI_len] at hl2
          refine List.ext_getElem? fun j => ?_
          by_cases hj : j < ns.length
          · obtain ⟨b, hb, r⟩ := paired_get (i := j) (a := j) hp (by rw [vI_len, List.getElem?_range hj])
            rw [hb, r]
            simp [hj]
          · rw [List.getElem?_eq_none (by omega), List.getElem?_eq_none (by simp; omega)]
        rw [← this]
        exact hys
      · have : (List.replicate ns.length true).all id = true := by simp
        rw [this]
        exact q _ sm
abbrev N_is_say : List Str := ["thing", "many"]
theorem sc_is_say : FnScope N_is_say ["thing", "many"] (defScope s_is_say) := ⟨rfl, rfl, rfl, by decide +kernel, rfl, by decide +kernel, by decide +kernel⟩
def sp_is_say (K : PySem.W.Frag) : Sp := fun vs H Q _ => ∃ (a : Addr) (m k n : Nat), vs = [.ref a, .int (n : Int)] ∧ SqT K H a [.str "say", .str (wordS m), .int (k : Int)] ∧ m < 3 ∧ k < n ∧ Q (.bl true) H
theorem f_is_say (c : Cn K mg) : C8.Cal P w K mg base 3 "is_say" (sp_is_say K) [] := by
  have h_is_within := f_is_within (P := P) (w := w) (base := base) c
  have h_is_word := f_is_word (P := P) (w := w) (base := base) c
  refine cal_of (N := N_is_say) c.g_is_say c.d_is_say sc_is_say (fun _ _ _ _ _ _ us hl => match us, hl with | [_, _], _ => rfl) (fun vs H Q E h => ?len) (fun cdv A outer s H vs Q E hr h => ?_)
  case len => obtain ⟨a, m, k, n, rfl, _⟩ := h; rfl
  obtain ⟨a, m, k, n, rfl, hs, hm, hk, q⟩ := h
  refine ⟨_, (pss_one (ps_ret (pe_and (pe_cmpR op_eq (pe_callB (r := rLenA K) (kc_len K) (by rfl) c.z_len (by decide +kernel) (pa_cons (pv 0) pa_nil)) pe_int (nomark _)) (pe_and (C8.pe_c h_is_word hr (by decide) (by rfl) (pa_cons (kixT K (pv 0) pe_int) pa_nil)) (pe_one (C8.pe_c h_is_within hr (by decide) (by rfl) (pa_cons (kixT K (pv 0) pe_int) (pa_cons pe_int (pa_cons (pe_op op_sub (pv 1) pe_int) pa_nil))))))))), ?_⟩
  refine ⟨_, rfl, _, _, rfl, .inr hs, rfl, true, rfl, iteT ⟨_, rfl, _, _, _, _, rfl, rfl, hs, rfl, m, hm, rfl, true, rfl, iteT ⟨_, rfl, _, _, _, _, rfl, rfl, hs, rfl, _, rfl, _, _, rfl, rfl, _, _, _, rfl, ?_, ?_, q⟩⟩⟩
  · exact Int.natCast_nonneg _
  · show (k : Int) ≤ (n : Int) - 1
    omega
end
end G6

-- G6F_Ac
namespace G6
open PySem PySem.Spec PyProof.Rows L2
section
variable {P : Program} {w : World} {K : PySem.W.Frag} {mg : Str → Option Value} {base : Heap}
abbrev N_is_item : List Str := ["thing", "rows", "letters", "many"]
theorem sc_is_item : FnScope N_is_item ["thing", "rows", "letters", "many"] (defScope s_is_item) := ⟨rfl, rfl, rfl, by decide +kernel, rfl, by decide +kernel, by decide +kernel⟩
def sp_is_item (K : PySem.W.Frag) : Sp := fun vs H Q _ => ∃ (v : V) (x : Item) (R L n : Nat), vs = [v, .int (R : Int), .int (L : Int), .int (n : Int)] ∧ NK K H (itemK x) v ∧ ItemOk R L n x ∧ L ≤ 2 ∧ ∀ H', Same H H' → Q (.bl true) H'
theorem f_is_item (c : Cn K mg) : C8.Cal P w K mg base 4 "is_item" (sp_is_item K) [] := by
  have h_is_within := f_is_within (P := P) (w := w) (base := base) c
  have h_are_nexts := f_are_nexts (P := P) (w := w) (base := base) c
  have h_is_say := f_is_say (P := P) (w := w) (base := base) c
  refine cal_of (N := N_is_item) c.g_is_item c.d_is_item sc_is_item (fun _ _ _ _ _ _ us hl => match us, hl with | [_, _, _, _], _ => rfl) (fun vs H Q E h => ?len) (fun cdv A outer s H vs Q E hr h => ?_)
  case len => obtain ⟨v, x, R, L, n, rfl, _⟩ := h; rfl
  obtain ⟨v, x, R, L, n, rfl, hx, ok, hL, q⟩ := h
  refine ⟨_, (pss_cons (ps_if (PW.pt (pw_or (pt_not (pt_val (pe_callB (r := rIsi K) (kc_isi K) (by rfl) c.z_isinstance (by decide +kernel) (pa_cons (pv 0) (pa_cons (pe_bltn (v := .ty "tuple") (by rfl) c.z_tuple (by decide +kernel) rfl) pa_nil))))) (pw_or (pt_cmpR op_eq (pe_callB (r := rLenA K) (kc_len K) (by rfl) c.z_len (by decide +kernel) (pa_cons (pv 0) pa_nil)) pe_int (nomark _)) (pw_or1 (pt_not (pt_val (pe_callB (r := rIsi K) (kc_isi K) (by rfl) c.z_isinstance (by decide +kernel) (pa_cons (kixT K (pv 0) pe_int) (pa_cons (pe_bltn (v := .ty "str") (by rfl) c.z_str (by decide +kernel) rfl) pa_nil))))))))) (pss_one (ps_ret pe_bl)) pss_nil)
      (pss_cons (ps_if (pt_cmpR op_eq (kixT K (pv 0) pe_int) pe_str (nomark _)) (pss_one (ps_ret (pe_and (pe_cmpR op_eq (pe_callB (r := rLenA K) (kc_len K) (by rfl) c.z_len (by decide +kernel) (pa_cons (pv 0) pa_nil)) pe_int (nomark _)) (pe_and (C8.pe_c h_is_within hr (by decide) (by rfl) (pa_cons (kixT K (pv 0) pe_int) (pa_cons pe_int (pa_cons (pe_op op_sub (pv 1) pe_int) pa_nil)))) (pe_one (C8.pe_c h_are_nexts hr (by decide) (by rfl) (pa_cons (kixT K (pv 0) pe_int) (pa_cons (pv 2) (pa_cons (pv 3) pa_nil))))))))) pss_nil)
      (pss_cons (ps_if (pt_cmpR op_eq (kixT K (pv 0) pe_int) pe_str (nomark _)) (pss_one (ps_ret (C8.pe_c h_is_say hr (by decide) (by rfl) (pa_cons (pv 0) (pa_cons (pv 3) pa_nil))))) pss_nil)
      (pss_one (ps_ret (pe_cmpR (r := rEqD K) (kop_eqD K hr) (pv 0) (pe_tup (pa_cons pe_str pa_nil)) (nomark _))))))), ?_⟩
  cases x with
  | look r ns =>
    obtain ⟨a, b, rfl, h1, h2⟩ := look_inv hx
    refine ⟨_, rfl, _, _, _, _, true, rfl, .ty _, tyx_tup h1, kit_ty (by decide +kernel), true, rfl, iteF ⟨_, rfl, _, _, rfl, .inr h1, rfl, false, rfl, iteF ⟨_, rfl, _, _, _, _, rfl, rfl, h1, rfl, _, _, _, _, true, rfl, .ty _, .base (.str _), kit_ty (by decide +kernel), true, rfl, iteF ?_⟩⟩⟩
    refine ⟨_, rfl, _, _, _, _, rfl, rfl, h1, rfl, rfl, true, rfl, iteT ?_⟩
    refine ⟨_, rfl, _, _, rfl, .inr h1, rfl, true, rfl, iteT ⟨_, rfl, _, _, _, _, rfl, rfl, h1, rfl, _, rfl, _, _, rfl, rfl, _, _, _, rfl, ?_, ?_, true, rfl, iteT ?_⟩⟩
    · exact Int.natCast_nonneg _
    · have := ok.1
      show (r : Int) ≤ (R : Int) - 1
      omega
    · exact ⟨_, rfl, _, _, _, _, rfl, rfl, h1, rfl, _, rfl, _, rfl, _, ns, L, n, rfl, h2, ok.2.1, hL, ok.2.2, q⟩
  | say m k =>
    obtain ⟨a, rfl, h1⟩ := say_inv hx
    refine ⟨_, rfl, _, _, _, _, true, rfl, .ty _, tyx_tup h1, kit_ty (by decide +kernel), true, rfl, iteF ⟨_, rfl, _, _, rfl, .inr h1, rfl, false, rfl, iteF ⟨_, rfl, _, _, _, _, rfl, rfl, h1, rfl, _, _, _, _, true, rfl, .ty _, .base (.str _), kit_ty (by decide +kernel), true, rfl, iteF ?_⟩⟩⟩
    refine ⟨_, rfl, _, _, _, _, rfl, rfl, h1, rfl, rfl, false, rfl, iteF ?_⟩
    refine ⟨_, rfl, _, _, _, _, rfl, rfl, h1, rfl, rfl, true, rfl, iteT ?_⟩
    exact ⟨_, rfl, _, rfl, _, m, k, n, rfl, h1, ok.1, ok.2, q _ (Same.refl _)⟩
  | stop =>
    obtain ⟨a, rfl, h1⟩ := stop_inv hx
    refine ⟨_, rfl, _, _, _, _, true, rfl, .ty _, tyx_tup h1, kit_ty (by decide +kernel), true, rfl, iteF ⟨_, rfl, _, _, rfl, .inr h1, rfl, false, rfl, iteF ⟨_, rfl, _, _, _, _, rfl, rfl, h1, rfl, _, _, _, _, true, rfl, .ty _, .base (.str _), kit_ty (by decide +kernel), true, rfl, iteF ?_⟩⟩⟩
    refine ⟨_, rfl, _, _, _, _, rfl, rfl, h1, rfl, rfl, false, rfl, iteF ?_⟩
    refine ⟨_, rfl, _, _, _, _, rfl, rfl, h1, rfl, rfl, false, rfl, iteF ?_⟩
    refine ⟨_, rfl, sz 1 (by decide), fun t ht => ⟨.tuple [.str "stop"], .tuple [.str "stop"], .tup (sqT (same_new ht) h1) (.cons (.str _) .nil), .tup (.inl (.inl upd_same)) (.cons (.str _) .nil), by decide +kernel, by decide +kernel, ?_⟩⟩
    have : PyData.eqv (.tuple [.str "stop"]) (.tuple [.str "stop"]) = true := by simp [PyData.eqv, PyData.eqvAll]
    rw [this]
    exact q _ (same_new ht)
abbrev N_with_row : List Str := ["ended", "row"]
theorem sc_with_row : FnScope N_with_row ["ended", "row"] (defScope s_with_row) := ⟨rfl, rfl, rfl, by decide +kernel, rfl, by decide +kernel, by decide +kernel⟩
def sp_with_row (K : PySem.W.Frag) : Sp := fun vs H Q _ => ∃ (e : Addr) (l : List Nat) (r : Nat), vs = [.ref e, .int (r : Int)] ∧ SqT K H e (vI l) ∧ l.length ≤ 1000 ∧ ∀ p H', Same H H' → SqT K H' p (vI (wr l r)) → Q (.ref p) H'
theorem f_with_row (c : Cn K mg) : C8.Cal P w K mg base 1 "with_row" (sp_with_row K) [] := by
  refine cal_of (N := N_with_row) c.g_with_row c.d_with_row sc_with_row (fun _ _ _ _ _ _ us hl => match us, hl with | [_, _], _ => rfl) (fun vs H Q E h => ?len) (fun cdv A outer s H vs Q E hr h => ?_)
  case len => obtain ⟨e, l, r, rfl, _⟩ := h; rfl
  obtain ⟨e, l, r, rfl, h1, hl, q⟩ := h
  refine ⟨_, (pss_one (ps_ret (pe_callTy (r := rTupOf K) (kc_tuple K) (by rfl) c.z_tuple (by decide +kernel) (pa_cons (pe_callB (r := rSortN P w K) (kc_sorted P w K hr) (by rfl) c.z_sorted (by decide +kernel) (pa_cons (pe_op (r := rCatA K) (kcat K) (pv 0) (pe_tup (pa_cons (pv 1) pa_nil))) pa_nil)) pa_nil)))), ?_⟩
  have key : ∀ a H1, Same H H1 → SqT K H1 a (vI (l ++ [r])) → tCB (rSortN P w K) (fun _ H' Q' => Q' [V.ref a] H') (L2.start N_with_row [V.ref e, V.int (r : Int)]) H1 fun x H2 => rTupOf K [x] H2 Q := by
    intro a H1 s1 h2
    refine ⟨a, _, (l ++ [r]).map num, rfl, .inr (.inl h2), vI_nks _, alk_num _, by rw [vI_len]; simp; exact sz _ (by omega), fun p hp => ?_⟩
    rw [sort_vI]
    refine ⟨p, _, rfl, .inl (.inl upd_same), fun t ht => ?_⟩
    exact q _ _ (Same.trans s1 (Same.trans (same_new hp) (same_new ht))) (.inl (.inl upd_same))
  refine ⟨_, rfl, _, rfl, sz 1 (by decide), fun t ht => ⟨e, t, vI l, vI [r], rfl, rfl, sqT (same_new ht) h1, .inl (.inl upd_same), by rw [vI_len, vI_len]; exact sz _ (by simp; omega), fun h0 => ?_, fun _ h => absurd h (List.cons_ne_nil _ _), fun h0 _ p hp => ?_⟩⟩
  · have : l = [] := by
      have := congrArg List.length h0
      rw [vI_len] at this
      exact List.eq_nil_of_length_eq_zero this
    subst this
    exact key t _ (same_new ht) (.inl (.inl upd_same))
  · refine key p _ (Same.trans (same_new ht) (same_new hp)) (.inl (.inl ?_))
    unfold vI
    rw [List.map_append]
    exact upd_same
end
end G6

-- G6F_Ad
namespace G6
open PySem PySem.Spec PyProof.Rows L2
def rIxA (K : PySem.W.Frag) : V → V → Hp → VK → Prop := fun x y H Q => ∃ p xs i v, x = .ref p ∧ y = .int i ∧ (SqL K H p xs ∨ SqT K H p xs) ∧ atI xs i = some v ∧ Q v H
section
variable {X : Cx} {a b : Expr} {ta tb : TE} {pos : Pos}
theorem kixA (K : PySem.W.Frag) (ha : PE X a ta) (hb : PE X b tb) (hK : X.K = K := by rfl) (hs : PlainIx b := by exact fun _ _ => rfl) : PE X (.Subscript a b pos) (tOp (rIxA K) ta tb) := by
  subst hK
  refine pe_ix (r := rIxA X.K) ?_ ha hb hs
  intro value slice pins s σ H x y v u Q I rx ry h hs
  obtain ⟨p, xs, i, z, e1, e2, h | h, e3, q⟩ := h
  · exact ix_list value slice pins s σ H x y v u Q I rx ry ⟨p, xs, i, z, e1, e2, h, e3, q⟩ hs
  · exact ix_tup value slice pins s σ H x y v u Q I rx ry ⟨p, xs, i, z, e1, e2, h, e3, q⟩ hs
end
section
variable {K : PySem.W.Frag} {H H' : Hp}
theorem intKs_num : ∀ l : List Nat, intKs (l.map num) = true
  | [] => rfl
  | x :: l => by
    show (intK (num x) && intKs (l.map num)) = true
    rw [intKs_num l]
    rfl
theorem mem_num {r : Nat} {l : List Nat} : decide (num r ∈ l.map num) = decide (r ∈ l) := by
  have : num r ∈ l.map num ↔ r ∈ l := by
    rw [List.mem_map]
    exact ⟨fun ⟨x, h, e⟩ => num_inj e ▸ h, fun h => ⟨r, h, rfl⟩⟩
  simp [this]
theorem item_get {t : List Item} {vs : List V} {m : Nat} (h : NKs K H (t.map itemK) vs) (hm : m < t.length) : ∃ v, atI vs (m : Int) = some v ∧ NK K H (itemK (itemAt t m)) v := by
  obtain ⟨v, h1, h2⟩ := h.get (i := m) (k := itemK (itemAt t m)) (by unfold itemAt; simp [hm, List.getD])
  exact ⟨v, atI_nat h1, h2⟩
theorem vI_get' {l : List Nat} {i : Nat} (h : i < l.length) : atI (vI l) (i : Int) = some (.int ((l.getD i 0 : Nat) : Int)) := atI_nat (vI_get h)
theorem atI_neg {α : Type} {xs : List α} {n : Nat} {v : α} (hl : xs.length = n + 1) (h : xs[n]? = some v) : atI xs (-1) = some v := by
  have : xs = xs.take n ++ [v] := by
    have h1 : xs = xs.take n ++ xs.drop n := (List.take_append_drop n xs).symm
    have h2 : xs.drop n = [v] := by
      have hn : n < xs.length := by omega
      rw [List.drop_eq_getElem_cons hn]
      rw [List.getElem?_eq_getElem hn] at h
      cases h
      congr 1
      exact List.drop_eq_nil_of_le (by omega)
    rw [h2] at h1
    exact h1
  rw [this]
  exact atI_last _ _
theorem nexts_last {ns : List Nat} {L : Nat} (h : ns.length = L + 1) : atI (vI ns) (-1) = some (.int ((ns.getD L 0 : Nat) : Int)) := atI_neg (by rw [vI_len, h]) (vI_get (by omega))
theorem letter_at (i : Nat) (h : i < 3) : ∃ c, atI ("abc" : Str).cps.toList (0 + (i : Int)) = some c ∧ (⟨#[c]⟩ : Str) = letterS i := by
  match i, h with
  | 0, _ => exact ⟨97, by decide +kernel, by decide +kernel⟩
  | 1, _ => exact ⟨98, by decide +kernel, by decide +kernel⟩
  | 2, _ => exact ⟨99, by decide +kernel, by decide +kernel⟩
/-- ((m, the tuple at e)) laid as a step -/
theorem step_mk {s : Sg} {u : V} {m : Nat} {l : List Nat} {a b e : Addr} (h : SqT K H b [u, .ref a]) (hs : NK K H (sgK s) u) (h1 : SqT K H a [.int (m : Int), .ref e]) (h2 : SqT K H e (vI l)) : NK K H (stepK (s, (m, l))) (.ref b) := two_mk h hs (ph_mk h1 h2)
theorem itemAt_ok {R L : Nat} {t : List Item} (h : ∀ x ∈ t, ItemOk R L t.length x) {m : Nat} (hm : m < t.length) : ItemOk R L t.length (itemAt t m) := by
  refine h _ ?_
  unfold itemAt
  rw [List.getD_eq_getElem?_getD, List.getElem?_eq_getElem hm]
  exact List.getElem_mem hm
end
section
variable {P : Program} {w : World} {K : PySem.W.Frag} {mg : Str → Option Value} {base : Heap}
abbrev N_steps_of : List Str := ["letters", "table", "phase", "standing", "ended", "item", "found", "k"]
theorem sc_steps_of : FnScope N_steps_of ["letters", "table", "phase"] (defScope s_steps_of) := ⟨rfl, rfl, rfl, by decide +kernel, rfl, by decide +kernel, by decide +kernel⟩
def sp_steps_of (K : PySem.W.Frag) : Sp := fun vs H Q _ => ∃ (a : Addr) (ws : List V) (t : List Item) (R L : Nat) (p : Ph) (v : V), vs = [.int (L : Int), .ref a, v] ∧ SqT K H a ws ∧ NKs K H (t.map itemK) ws ∧ NK K H (phK p) v ∧ p.1 < t.length ∧ ItemOk R L t.length (itemAt t p.1) ∧ L ≤ 2 ∧ p.2.length ≤ 1000 ∧
  ∀ l us H', Same H H' → H l = none → H' l = some (.lst us) → NKs K H' ((steps L t p).map stepK) us → Q (.ref l) H'
theorem f_steps_of (c : Cn K mg) : C8.Cal P w K mg base 2 "steps_of" (sp_steps_of K) [] := by
  have h_with_row := f_with_row (P := P) (w := w) (base := base) c
  refine cal_of (N := N_steps_of) c.g_steps_of c.d_steps_of sc_steps_of (fun _ _ _ _ _ _ us hl => match us, hl with | [_, _, _], _ => rfl) (fun vs H Q E h => ?len) (fun cdv A outer s H vs Q E hr h => ?_)
  case len => obtain ⟨a, ws, t, R, L, p, v, rfl, _⟩ := h; rfl
  obtain ⟨a, ws, t, R, L, p, v, rfl, ha, hw, hp, hm, ok, hL, hz, q⟩ := h
  refine ⟨_, (pss_cons (ps_asg (pv 2) (kpg_tup K (pgs_cons (pg_name (i := 3) sc_steps_of.nd rfl (Or.inl rfl)) (pgs_cons (pg_name (i := 4) sc_steps_of.nd rfl (Or.inr rfl)) pgs_nil))))
      (pss_cons (ps_set (i := 5) sc_steps_of.nd rfl (Or.inr rfl) (kixT K (pv 1) (pv 3)))
      (pss_cons (ps_if (pt_cmpR op_eq (kixT K (pv 5) pe_int) pe_str (nomark _)) (pss_one (ps_ret (pe_lst pa_nil))) pss_nil)
      (pss_cons (ps_if (pt_cmpR op_eq (kixT K (pv 5) pe_int) pe_str (nomark _)) (pss_one (ps_ret (pe_lst (pa_cons (pe_tup (pa_cons pe_non (pa_cons (pe_tup (pa_cons (kixT K (pv 5) pe_int) (pa_cons (pv 4) pa_nil))) pa_nil))) pa_nil)))) pss_nil)
      (pss_cons (ps_if (pt_cmpR (r := rInN K) (kop_in K hr) (kixT K (pv 5) pe_int) (pv 4) (by rfl)) (pss_one (ps_ret (pe_lst (pa_cons (pe_tup (pa_cons pe_non (pa_cons (pe_tup (pa_cons (kixT K (kixT K (pv 5) pe_int) (pe_un un_neg pe_int)) (pa_cons (pv 4) pa_nil))) pa_nil))) pa_nil)))) pss_nil)
      (pss_cons (ps_setLc (i := 6) (own := [("k", 7)]) (g := gName 7) (tt := tYes) rfl sc_steps_of.nd rfl rfl (sw_true rfl rfl rfl (by decide +kernel)) (pi_range1 (by rfl) c.z_range (pa_cons (pv 0) pa_nil)) (blkOk_by (own := [("k", 7)]) (N := N_steps_of) (sc := defScope s_steps_of) (by decide +kernel)) (fun _ _ _ _ _ => (pg_name (i := 7) sc_steps_of.nd rfl (Or.inl rfl))) (fun _ _ _ _ _ => pts_nil) (fun _ _ _ _ _ => (pe_tup (pa_cons (kixS (pe_glob (v := .str "abc") (by rfl) c.sLetters.choose_spec ⟨_, rfl⟩) (pv 7)) (pa_cons (pe_tup (pa_cons (kixT K (kixT K (pv 5) pe_int) (pv 7)) (pa_cons (pv 4) pa_nil))) pa_nil)))))
      (pss_cons (ps_expr (kbm K PySem.F.slot_list_append PySem.F.type_list_append mt_append (pv 6) (pa_cons (pe_tup (pa_cons (pe_glob (v := .str "end") (by rfl) c.sEnd.choose_spec ⟨_, rfl⟩) (pa_cons (pe_tup (pa_cons (kixT K (kixT K (pv 5) pe_int) (pe_un un_neg pe_int)) (pa_cons (C8.pe_c h_with_row hr (by decide) (by rfl) (pa_cons (pv 4) (pa_cons (kixT K (pv 5) pe_int) pa_nil))) pa_nil))) pa_nil))) pa_nil)))
      (pss_one (ps_ret (pv 6)))))))))), ?_⟩
  obtain ⟨b, e, rfl, hb, he⟩ := ph_inv hp
  obtain ⟨iv, hiv, hit⟩ := item_get hw hm
  refine ⟨_, rfl, b, _, rfl, hb, rfl, _, _, rfl, _, _, rfl, rfl, _, rfl, _, rfl, _, _, _, _, rfl, rfl, ha, hiv, ?_⟩
  have est : steps L t p = stepsI L p.2 (itemAt t p.1) := rfl
  rw [est] at q
  generalize hx : itemAt t p.1 = x at hit ok q
  cases x with
  | stop =>
    obtain ⟨ia, rfl, h1⟩ := stop_inv hit
    refine ⟨_, rfl, _, _, _, _, rfl, rfl, h1, rfl, rfl, true, rfl, iteT ?_⟩
    exact ⟨sz 0 (by decide), fun l hl => q l [] _ (same_new hl) hl upd_same .nil⟩
  | say m k =>
    obtain ⟨ia, rfl, h1⟩ := say_inv hit
    refine ⟨_, rfl, _, _, _, _, rfl, rfl, h1, rfl, rfl, false, rfl, iteF ?_⟩
    refine ⟨_, rfl, _, _, _, _, rfl, rfl, h1, rfl, rfl, true, rfl, iteT ?_⟩
    refine ⟨_, rfl, _, _, _, _, rfl, rfl, h1, rfl, _, rfl, sz 2 (by decide), fun t1 n1 => ⟨sz 2 (by decide), fun t2 n2 => ⟨sz 1 (by decide), fun l hl => ?_⟩⟩⟩
    have s1 := same_new (o := .tup [.int (k : Int), .ref e]) n1
    have s2 := same_new (o := .tup [.non, .ref t1]) n2
    have s3 := same_new (o := .lst [.ref t2]) hl
    refine q l _ _ (Same.trans s1 (Same.trans s2 s3)) (Same.free (Same.trans s1 s2) hl) upd_same (.cons (step_mk (s := .one) (m := k) (.inl (.inl (s3 _ _ upd_same))) .non (.inl (.inl (s3 _ _ (s2 _ _ upd_same)))) (sqT (Same.trans s1 (Same.trans s2 s3)) he)) .nil)
  | look r ns =>
    obtain ⟨ia, nb, rfl, h1, h2⟩ := look_inv hit
    refine ⟨_, rfl, _, _, _, _, rfl, rfl, h1, rfl, rfl, false, rfl, iteF ?_⟩
    refine ⟨_, rfl, _, _, _, _, rfl, rfl, h1, rfl, rfl, false, rfl, iteF ?_⟩
    refine ⟨_, rfl, _, _, _, _, rfl, rfl, h1, rfl, _, rfl, num r, p.2.map num, e, vI p.2, .num _, rfl, .inl he, vI_nks _, rfl, intKs_num _, by show NestedKey.depth (.num _) ≤ 60; simp [NestedKey.depth], _, rfl, ?_⟩
    rw [mem_num]
    by_cases hin : r ∈ p.2
    · rw [decide_eq_true hin]
      have eq : stepsI L p.2 (.look r ns) = [(.one, (ns.getD L 0, p.2))] := if_pos hin
      rw [eq] at q
      refine iteT ?_
      refine ⟨_, rfl, _, _, _, _, rfl, rfl, h1, rfl, _, rfl, _, _, _, _, rfl, rfl, h2, nexts_last ok.2.1, _, rfl, sz 2 (by decide), fun t1 n1 => ⟨sz 2 (by decide), fun t2 n2 => ⟨sz 1 (by decide), fun l hl => ?_⟩⟩⟩
      have s1 := same_new (o := .tup [.int ((ns.getD L 0 : Nat) : Int), .ref e]) n1
      have s2 := same_new (o := .tup [.non, .ref t1]) n2
      have s3 := same_new (o := .lst [.ref t2]) hl
      refine q l _ _ (Same.trans s1 (Same.trans s2 s3)) (Same.free (Same.trans s1 s2) hl) upd_same (.cons (step_mk (s := .one) (m := ns.getD L 0) (.inl (.inl (s3 _ _ upd_same))) .non (.inl (.inl (s3 _ _ (s2 _ _ upd_same)))) (sqT (Same.trans s1 (Same.trans s2 s3)) he)) .nil)
    · rw [decide_eq_false hin]
      have eq : stepsI L p.2 (.look r ns) = (List.range L).map (fun k => (Sg.lt k, (ns.getD k 0, p.2))) ++ [(.fin, (ns.getD L 0, wr p.2 r))] := if_neg hin
      rw [eq] at q
      refine iteF ?_
      refine ⟨_, rfl, (L : Int), rfl, by omega, by omega, fun D hD => ?_⟩
      refine lc_map walk_range (fun i y H => NK K H (stepK (Sg.lt i, (ns.getD i 0, p.2))) y) hD (sz _ (by simp; omega)) (fun _ _ => True.intro) (fun i H x H' y => by rw [y.1]; exact Same.refl _) (fun i y H H' s' r => NK.tk (Tk.same s') _ _ r) (fun i y H _ _ e r => NK.tk (Tk.mut e True.intro) _ _ r) ?_ (mono_name _) ?_
      · intro i x H1 H2 hi sm _ ⟨e1, ex⟩ Qy hy
        subst e1 ex
        have hi' : i < L := by simpa using hi
        have hns : i < ns.length := by have := ok.2.1; omega
        obtain ⟨cc, hc1, hc2⟩ := letter_at i (by omega)
        refine ⟨rfl, _, rfl, _, _, cc, rfl, rfl, sz 3 (by decide), hc1, _, rfl, _, _, _, _, rfl, rfl, sqT sm h1, rfl, _, rfl, _, _, _, _, rfl, rfl, sqT sm h2, by rw [Int.zero_add]; exact vI_get' hns, _, rfl, sz 2 (by decide), fun t1 n1 => ⟨sz 2 (by decide), fun t2 n2 => ?_⟩⟩
        have s1 := same_new (o := .tup [.int ((ns.getD i 0 : Nat) : Int), .ref e]) n1
        have s2 := same_new (o := .tup [.str ⟨#[cc]⟩, .ref t1]) n2
        refine hy _ _ (Same.trans s1 s2) (step_mk (s := .lt i) (.inl (.inl upd_same)) (by rw [hc2]; exact .text _) (.inl (.inl (s2 _ _ upd_same))) (sqT (Same.trans sm (Same.trans s1 s2)) he))
      · intro H1 ys sm hys hpr
        have hk := nks_paired hpr
        refine ⟨_, rfl, .inl ⟨rfl, _, .inl (.inl hys)⟩, ?_⟩
        refine ⟨_, rfl, _, _, _, _, rfl, rfl, sqT sm h1, rfl, _, rfl, _, _, _, _, rfl, rfl, sqT sm h2, nexts_last ok.2.1, _, rfl, _, rfl, _, _, _, _, rfl, rfl, sqT sm h1, rfl, e, p.2, r, rfl, sqT sm he, hz, fun p1 H2 sm2 hp1 => ?_⟩
        refine ⟨sz 2 (by decide), fun t1 n1 => ⟨sz 2 (by decide), fun t2 n2 => ?_⟩⟩
        have s1 := same_new (o := .tup [.int ((ns.getD L 0 : Nat) : Int), .ref p1]) n1
        have s2 := same_new (o := .tup [.str "end", .ref t1]) n2
        have s3 := Same.trans sm2 (Same.trans s1 s2)
        have hl : ys.length = L := by
          have := hk.length
          simpa using this
        refine ⟨D, ys, _, rfl, rfl, s3 _ _ hys, by rw [hl]; exact Nat.lt_of_le_of_lt hL (by decide), ?_⟩
        refine ⟨_, rfl, ?_⟩
        have tk3 : Tk H1 (upd (upd (upd H2 t1 (.tup [.int ((ns.getD L 0 : Nat) : Int), .ref p1])) t2 (.tup [.str "end", .ref t1])) D (.lst (ys ++ [.ref t2]))) := Tk.trans (Tk.same s3) (Tk.mut (s3 _ _ hys) True.intro)
        refine q D _ _ (Same.mut (Same.trans sm s3) hD) hD upd_same ?_
        rw [List.map_append]
        refine NKs.append ?_ (.cons (NK.tk (Tk.mut (s3 _ _ hys) True.intro) _ _ (step_mk (s := .fin) (m := ns.getD L 0) (.inl (.inl upd_same)) (.text _) (.inl (.inl (s2 _ _ upd_same))) (sqT (Same.trans s1 s2) hp1))) .nil)
        have := NKs.tk tk3 _ _ hk
        rw [List.map_map]
        exact this
abbrev N_law_steps : List Str := ["_law_letters", "_law_table", "_law_phase", "_law_item", "_law_found", "_law_k"]
theorem sc_law_steps : FnScope N_law_steps ["_law_letters", "_law_table", "_law_phase"] (defScope s_law_steps) := ⟨rfl, rfl, rfl, by decide +kernel, rfl, by decide +kernel, by decide +kernel⟩
def sp_law_steps (K : PySem.W.Frag) : Sp := fun vs H Q _ => ∃ (a : Addr) (ws : List V) (t : List Item) (R L : Nat) (p : Ph) (v : V), vs = [.int (L : Int), .ref a, v] ∧ (SqL K H a ws ∨ SqT K H a ws) ∧ NKs K H (t.map itemK) ws ∧ NK K H (phK p) v ∧ p.1 < t.length ∧ ItemOk R L t.length (itemAt t p.1) ∧ L ≤ 2 ∧ p.2.length ≤ 1000 ∧
  ∀ l us H', Same H H' → H l = none → H' l = some (.lst us) → NKs K H' ((steps L t p).map stepK) us → Q (.ref l) H'
theorem f_law_steps (c : Cn K mg) : C8.Cal P w K mg base 1 "_law_steps" (sp_law_steps K) [] := by
  refine cal_of (N := N_law_steps) c.g_law_steps c.d_law_steps sc_law_steps (fun _ _ _ _ _ _ us hl => match us, hl with | [_, _, _], _ => rfl) (fun vs H Q E h => ?len) (fun cdv A outer s H vs Q E hr h => ?_)
  case len => obtain ⟨a, ws, t, R, L, p, v, rfl, _⟩ := h; rfl
  obtain ⟨a, ws, t, R, L, p, v, rfl, ha, hw, hp, hm, ok, hL, hz, q⟩ := h
  refine ⟨_, (pss_cons (ps_set (i := 3) sc_law_steps.nd rfl (Or.inl rfl) (kixA K (pv 1) (kixT K (pv 2) pe_int)))
      (pss_cons (ps_if (pt_cmpR op_eq (kixT K (pv 3) pe_int) pe_str (nomark _)) (pss_one (ps_ret (pe_lst pa_nil))) pss_nil)
      (pss_cons (ps_if (pt_cmpR op_eq (kixT K (pv 3) pe_int) pe_str (nomark _)) (pss_one (ps_ret (pe_lst (pa_cons (pe_tup (pa_cons pe_non (pa_cons (pe_tup (pa_cons (kixT K (pv 3) pe_int) (pa_cons (kixT K (pv 2) pe_int) pa_nil))) pa_nil))) pa_nil)))) pss_nil)
      (pss_cons (ps_if (pt_cmpR (r := rInN K) (kop_in K hr) (kixT K (pv 3) pe_int) (kixT K (pv 2) pe_int) (by rfl)) (pss_one (ps_ret (pe_lst (pa_cons (pe_tup (pa_cons pe_non (pa_cons (pe_tup (pa_cons (kixT K (kixT K (pv 3) pe_int) (pe_un un_neg pe_int)) (pa_cons (kixT K (pv 2) pe_int) pa_nil))) pa_nil))) pa_nil)))) pss_nil)
      (pss_cons (ps_set (i := 4) sc_law_steps.nd rfl (Or.inl rfl) (pe_lst pa_nil))
      (pss_cons (ps_for PassesOwn.never rfl (pi_range1 (by rfl) c.z_range (pa_cons (pv 0) pa_nil)) (pg_name (i := 5) sc_law_steps.nd rfl (Or.inl rfl)) (pss_one (ps_expr (kbm K PySem.F.slot_list_append PySem.F.type_list_append mt_append (pv 4) (pa_cons (pe_tup (pa_cons (kixS pe_str (pv 5)) (pa_cons (pe_tup (pa_cons (kixT K (kixT K (pv 3) pe_int) (pv 5)) (pa_cons (kixT K (pv 2) pe_int) pa_nil))) pa_nil))) pa_nil)))))
      (pss_one (ps_ret (pe_op op_cat (pv 4) (pe_lst (pa_cons (pe_tup (pa_cons pe_str (pa_cons (pe_tup (pa_cons (kixT K (kixT K (pv 3) pe_int) (pe_un un_neg pe_int)) (pa_cons (pe_callTy (r := rTupOf K) (kc_tuple K) (by rfl) c.z_tuple (by decide +kernel) (pa_cons (pe_callB (r := rSortN P w K) (kc_sorted P w K hr) (by rfl) c.z_sorted (by decide +kernel) (pa_cons (pe_op (r := rCatA K) (kcat K) (kixT K (pv 2) pe_int) (pe_tup (pa_cons (kixT K (pv 3) pe_int) pa_nil))) pa_nil)) pa_nil)) pa_nil))) pa_nil))) pa_nil))))))))))), ?_⟩
  obtain ⟨b, e, rfl, hb, he⟩ := ph_inv hp
  obtain ⟨iv, hiv, hit⟩ := item_get hw hm
  refine ⟨_, rfl, _, rfl, _, _, _, _, rfl, rfl, hb, rfl, _, _, _, _, rfl, rfl, ha, hiv, ?_⟩
  have est : steps L t p = stepsI L p.2 (itemAt t p.1) := rfl
  rw [est] at q
  generalize hx : itemAt t p.1 = x at hit ok q
  cases x with
  | stop =>
    obtain ⟨ia, rfl, h1⟩ := stop_inv hit
    refine ⟨_, rfl, _, _, _, _, rfl, rfl, h1, rfl, rfl, true, rfl, iteT ?_⟩
    exact ⟨sz 0 (by decide), fun l hl => q l [] _ (same_new hl) hl upd_same .nil⟩
  | say m k =>
    obtain ⟨ia, rfl, h1⟩ := say_inv hit
    refine ⟨_, rfl, _, _, _, _, rfl, rfl, h1, rfl, rfl, false, rfl, iteF ?_⟩
    refine ⟨_, rfl, _, _, _, _, rfl, rfl, h1, rfl, rfl, true, rfl, iteT ?_⟩
    refine ⟨_, rfl, _, _, _, _, rfl, rfl, h1, rfl, _, rfl, _, _, _, _, rfl, rfl, hb, rfl, sz 2 (by decide), fun t1 n1 => ⟨sz 2 (by decide), fun t2 n2 => ⟨sz 1 (by decide), fun l hl => ?_⟩⟩⟩
    have s1 := same_new (o := .tup [.int (k : Int), .ref e]) n1
    have s2 := same_new (o := .tup [.non, .ref t1]) n2
    have s3 := same_new (o := .lst [.ref t2]) hl
    refine q l _ _ (Same.trans s1 (Same.trans s2 s3)) (Same.free (Same.trans s1 s2) hl) upd_same (.cons (step_mk (s := .one) (m := k) (.inl (.inl (s3 _ _ upd_same))) .non (.inl (.inl (s3 _ _ (s2 _ _ upd_same)))) (sqT (Same.trans s1 (Same.trans s2 s3)) he)) .nil)
  | look r ns =>
    obtain ⟨ia, nb, rfl, h1, h2⟩ := look_inv hit
    refine ⟨_, rfl, _, _, _, _, rfl, rfl, h1, rfl, rfl, false, rfl, iteF ?_⟩
    refine ⟨_, rfl, _, _, _, _, rfl, rfl, h1, rfl, rfl, false, rfl, iteF ?_⟩
    refine ⟨_, rfl, _, _, _, _, rfl, rfl, h1, rfl, _, rfl, _, _, _, _, rfl, rfl, hb, rfl, num r, p.2.map num, e, vI p.2, .num _, rfl, .inl he, vI_nks _, rfl, intKs_num _, by show NestedKey.depth (.num _) ≤ 60; simp [NestedKey.depth], _, rfl, ?_⟩
    rw [mem_num]
    by_cases hin : r ∈ p.2
    · rw [decide_eq_true hin]
      have eq : stepsI L p.2 (.look r ns) = [(.one, (ns.getD L 0, p.2))] := if_pos hin
      rw [eq] at q
      refine iteT ?_
      refine ⟨_, rfl, _, _, _, _, rfl, rfl, h1, rfl, _, rfl, _, _, _, _, rfl, rfl, h2, nexts_last ok.2.1, _, rfl, _, _, _, _, rfl, rfl, hb, rfl, sz 2 (by decide), fun t1 n1 => ⟨sz 2 (by decide), fun t2 n2 => ⟨sz 1 (by decide), fun l hl => ?_⟩⟩⟩
      have s1 := same_new (o := .tup [.int ((ns.getD L 0 : Nat) : Int), .ref e]) n1
      have s2 := same_new (o := .tup [.non, .ref t1]) n2
      have s3 := same_new (o := .lst [.ref t2]) hl
      refine q l _ _ (Same.trans s1 (Same.trans s2 s3)) (Same.free (Same.trans s1 s2) hl) upd_same (.cons (step_mk (s := .one) (m := ns.getD L 0) (.inl (.inl (s3 _ _ upd_same))) .non (.inl (.inl (s3 _ _ (s2 _ _ upd_same)))) (sqT (Same.trans s1 (Same.trans s2 s3)) he)) .nil)
    · rw [decide_eq_false hin]
      have eq : stepsI L p.2 (.look r ns) = (List.range L).map (fun k => (Sg.lt k, (ns.getD k 0, p.2))) ++ [(.fin, (ns.getD L 0, wr p.2 r))] := if_neg hin
      rw [eq] at q
      refine iteF ?_
      refine ⟨sz 0 (by decide), fun D hD => ?_⟩
      refine ⟨_, rfl, (L : Int), rfl, by omega, by omega, ?_⟩
      refine for_it walk_range (fun i σ H1 => (∃ u, σ = [some (.int (L : Int)), some (.ref a), some (.ref b), some (.ref ia), some (.ref D), u]) ∧ Same H H1 ∧ ∃ ys, H1 D = some (.lst ys) ∧ ys.length = i ∧ NKs K H1 (((List.range i).map fun k => (Sg.lt k, (ns.getD k 0, p.2))).map stepK) ys) ⟨⟨_, rfl⟩, same_new hD, [], upd_same, rfl, .nil⟩ (fun _ _ _ _ _ => True.intro) ?_ ?_
      · intro i x σ H1 H2 hi ⟨⟨u, hσ⟩, sm, ys, hys, hl, hk⟩ ⟨e1, ex⟩
        subst e1 ex hσ
        have hi' : i < L := by simpa using hi
        have hns : i < ns.length := by have := ok.2.1; omega
        obtain ⟨cc, hc1, hc2⟩ := letter_at i (by omega)
        refine ⟨_, rfl, .inl ⟨rfl, _, .inl (.inl hys)⟩, ?_⟩
        refine ⟨_, rfl, _, _, cc, rfl, rfl, sz 3 (by decide), hc1, _, rfl, _, _, _, _, rfl, rfl, sqT sm h1, rfl, _, rfl, _, _, _, _, rfl, rfl, sqT sm h2, by rw [Int.zero_add]; exact vI_get' hns, _, rfl, _, _, _, _, rfl, rfl, sqT sm hb, rfl, sz 2 (by decide), fun t1 n1 => ⟨sz 2 (by decide), fun t2 n2 => ?_⟩⟩
        have s1 := same_new (o := .tup [.int ((ns.getD i 0 : Nat) : Int), .ref e]) n1
        have s2 := same_new (o := .tup [.str ⟨#[cc]⟩, .ref t1]) n2
        have s3 := Same.trans s1 s2
        refine ⟨D, ys, _, rfl, rfl, s3 _ _ hys, by rw [hl]; exact Nat.lt_of_lt_of_le hi' (sz _ (by omega)), ?_⟩
        refine ⟨⟨_, rfl⟩, Same.mut (Same.trans sm s3) hD, _, upd_same, by simp [hl], ?_⟩
        rw [List.range_succ, List.map_append, List.map_append]
        have tm := Tk.mut (o := .lst (ys ++ [V.ref t2])) (s3 _ _ hys) True.intro
        refine NKs.append (NKs.tk (Tk.trans (Tk.same s3) tm) _ _ hk) (.cons (NK.tk tm _ _ (step_mk (s := .lt i) (.inl (.inl upd_same)) (by rw [hc2]; exact .text _) (.inl (.inl (s2 _ _ upd_same))) (sqT (Same.trans sm s3) he))) .nil)
      · intro σ H1 ⟨⟨u, hσ⟩, sm, ys, hys, hl, hk⟩
        subst hσ
        have hl : ys.length = L := by simpa using hl
        have key : ∀ (Qk : VK) a2 H2, Same H1 H2 → SqT K H2 a2 (vI (p.2 ++ [r])) → (∀ p1 H4, Same H1 H4 → SqT K H4 p1 (vI (wr p.2 r)) → Qk (.ref p1) H4) → rSortN P w K [.ref a2] H2 fun x H3 => rTupOf K [x] H3 Qk := by
          intro Qk a2 H2 s1 h2 hq
          refine ⟨a2, _, (p.2 ++ [r]).map num, rfl, .inr (.inl h2), vI_nks _, alk_num _, by rw [vI_len]; simp; exact sz _ (by omega), fun p hp => ?_⟩
          rw [sort_vI]
          refine ⟨p, _, rfl, .inl (.inl upd_same), fun t ht => ?_⟩
          exact hq _ _ (Same.trans s1 (Same.trans (same_new hp) (same_new ht))) (.inl (.inl upd_same))
        refine ⟨_, rfl, _, rfl, _, _, _, _, rfl, rfl, sqT sm h1, rfl, _, rfl, _, _, _, _, rfl, rfl, sqT sm h2, nexts_last ok.2.1, _, rfl, _, _, _, _, rfl, rfl, sqT sm hb, rfl, _, rfl, _, _, _, _, rfl, rfl, sqT sm h1, rfl, sz 1 (by decide), fun t0 n0 => ?_⟩
        have s0 := same_new (o := .tup [.int (r : Int)]) n0
        let Qk : VK := fun x H4 => [V.int ((ns.getD L 0 : Nat) : Int), x].length ≤ sizeLine ∧ ∀ t1, H4 t1 = none → [V.str "end", V.ref t1].length ≤ sizeLine ∧ ∀ t2, upd H4 t1 (.tup [V.int ((ns.getD L 0 : Nat) : Int), x]) t2 = none →
            [V.ref t2].length ≤ sizeLine ∧ ∀ l2, upd (upd H4 t1 (.tup [V.int ((ns.getD L 0 : Nat) : Int), x])) t2 (.tup [V.str "end", V.ref t1]) l2 = none → rCat (.ref D) (.ref l2) (upd (upd (upd H4 t1 (.tup [V.int ((ns.getD L 0 : Nat) : Int), x])) t2 (.tup [V.str "end", V.ref t1])) l2 (.lst [.ref t2])) Q
        have fin : ∀ (p1 : Addr) (H4 : Hp), Same H1 H4 → SqT K H4 p1 (vI (wr p.2 r)) → Qk (.ref p1) H4 := by
          intro p1 H4 s4 h4
          refine ⟨sz 2 (by decide), fun t1 n1 => ⟨sz 2 (by decide), fun t2 n2 => ⟨sz 1 (by decide), fun l2 n3 => ?_⟩⟩⟩
          have s1 := same_new (o := .tup [.int ((ns.getD L 0 : Nat) : Int), .ref p1]) n1
          have s2 := same_new (o := .tup [.str "end", .ref t1]) n2
          have s3 := same_new (o := .lst [.ref t2]) n3
          have sA := Same.trans s4 (Same.trans s1 (Same.trans s2 s3))
          refine ⟨D, l2, ys, _, rfl, rfl, sA _ _ hys, upd_same, by rw [hl]; exact sz _ (by simp; omega), fun pp hpp => ?_⟩
          have s5 := same_new (o := .lst (ys ++ [.ref t2])) hpp
          refine q pp _ _ (Same.trans sm (Same.trans sA s5)) (Same.free (Same.trans sm sA) hpp) upd_same ?_
          rw [List.map_append]
          have hk' : NKs K H1 (((List.range L).map fun k => (Sg.lt k, (ns.getD k 0, p.2))).map stepK) ys := by
            have : (L : Int).toNat = L := by simp
            rw [this] at hk
            exact hk
          refine NKs.append (NKs.tk (Tk.same (Same.trans sA s5)) _ _ hk') (.cons (NK.tk (Tk.same (Same.trans s3 s5)) _ _ (step_mk (s := .fin) (m := ns.getD L 0) (.inl (.inl upd_same)) (.text _) (.inl (.inl (s2 _ _ upd_same))) (sqT (Same.trans s1 s2) h4))) .nil)
        refine ⟨e, t0, vI p.2, vI [r], rfl, rfl, sqT (Same.trans sm s0) he, .inl (.inl upd_same), by rw [vI_len, vI_len]; exact sz _ (by simp; omega), fun h0 => ?_, fun _ h => absurd h (List.cons_ne_nil _ _), fun h0 _ p9 hp9 => ?_⟩
        · have : p.2 = [] := by
            have := congrArg List.length h0
            rw [vI_len] at this
            exact List.eq_nil_of_length_eq_zero this
          exact key Qk t0 _ s0 (by rw [this]; exact .inl (.inl upd_same)) fin
        · refine key Qk p9 _ (Same.trans s0 (same_new hp9)) (.inl (.inl ?_)) fin
          unfold vI
          rw [List.map_append]
          exact upd_same
end
end G6

-- G6Mb
namespace G6
open PySem PySem.Spec PyProof.Rows L2

/-! ### lists without repetition -/
theorem nodup_len {α : Type} [BEq α] [LawfulBEq α] : ∀ {l m : List α}, l.Nodup → (∀ x ∈ l, x ∈ m) → l.length ≤ m.length
  | [], _, _, _ => Nat.zero_le _
  | x :: l, m, n, h => by
    obtain ⟨n1, n2⟩ := List.nodup_cons.mp n
    have hx : x ∈ m := h x List.mem_cons_self
    have := nodup_len (l := l) (m := m.erase x) n2 (fun y hy => by
      have : y ≠ x := fun e => n1 (e ▸ hy)
      exact (List.mem_erase_of_ne this).mpr (h y (List.mem_cons_of_mem _ hy)))
    rw [List.length_erase_of_mem hx] at this
    have : 0 < m.length := List.length_pos_of_mem hx
    simp only [List.length_cons]
    omega
theorem nodup_snoc {α : Type} {l : List α} {x : α} (h : l.Nodup) (n : x ∉ l) : (l ++ [x]).Nodup := by
  rw [List.nodup_append]
  refine ⟨h, by simp, ?_⟩
  intro a ha b hb e
  simp at hb
  subst hb e
  exact n ha

/-! ### all phases -/
def subs : Nat → List (List Nat)
  | 0 => [[]]
  | R + 1 => subs R ++ (subs R).map (· ++ [R])
theorem subs_len : ∀ R, (subs R).length = 2 ^ R
  | 0 => rfl
  | R + 1 => by
    unfold subs
    rw [List.length_append, List.length_map, subs_len R, Nat.pow_succ]
    omega
theorem mem_subs : ∀ (R : Nat) (l : List Nat), l.Pairwise (· < ·) → (∀ x ∈ l, x < R) → l ∈ subs R
  | 0, l, _, h => by
    cases l with
    | nil => simp [subs]
    | cons x l => exact absurd (h x List.mem_cons_self) (Nat.not_lt_zero _)
  | R + 1, l, hp, h => by
    rcases List.eq_nil_or_concat l with rfl | ⟨l', x, rfl⟩
    · exact List.mem_append_left _ (mem_subs R [] .nil (by simp))
    · rw [List.concat_eq_append] at *
      have hp' := List.pairwise_append.mp hp
      have hx : x < R + 1 := h x (by simp)
      have hlt : ∀ y ∈ l', y < x := fun y hy => hp'.2.2 y hy x (by simp)
      unfold subs
      by_cases e : x = R
      · subst e
        exact List.mem_append_right _ (List.mem_map.mpr ⟨l', mem_subs x l' hp'.1 hlt, rfl⟩)
      · refine List.mem_append_left _ (mem_subs R _ hp ?_)
        intro y hy
        simp at hy
        rcases hy with hy | rfl
        · have := hlt y hy
          omega
        · omega
def univ (R n : Nat) : List Ph := (List.range n).flatMap fun m => (subs R).map fun e => (m, e)
theorem univ_len (R n : Nat) : (univ R n).length = n * 2 ^ R := by
  unfold univ
  rw [List.length_flatMap]
  have : (List.map (fun m => ((subs R).map fun e => ((m, e) : Ph)).length) (List.range n)) = List.replicate n (2 ^ R) := by
    refine List.ext_getElem (by simp) ?_
    intro i h1 h2
    simp [subs_len]
  rw [this]
  clear this
  induction n with
  | zero => simp
  | succ n ih => rw [List.replicate_succ, List.sum_cons, ih, Nat.succ_mul, Nat.add_comm]
theorem mem_univ {R n : Nat} {p : Ph} (h : PhOk R n p) : p ∈ univ R n := by
  unfold univ
  rw [List.mem_flatMap]
  exact ⟨p.1, List.mem_range.mpr h.1, List.mem_map.mpr ⟨p.2, mem_subs R _ h.2.1 h.2.2, rfl⟩⟩
theorem ph_len {R n : Nat} {ks : List Ph} (h : ks.Nodup) (ok : ∀ p ∈ ks, PhOk R n p) : ks.length ≤ n * 2 ^ R := by
  rw [← univ_len]
  exact nodup_len h fun p hp => mem_univ (ok p hp)
theorem ended_len {R n : Nat} {p : Ph} (h : PhOk R n p) : p.2.length ≤ R := by
  have := nodup_len (l := p.2) (m := List.range R) (h.2.1.imp Nat.ne_of_lt) (fun x hx => List.mem_range.mpr (h.2.2 x hx))
  rwa [List.length_range] at this

/-! ### steps stay within -/
theorem stepsI_in {L r : Nat} {e ns : List Nat} (h : r ∈ e) : stepsI L e (.look r ns) = [(.one, (ns.getD L 0, e))] := if_pos h
theorem stepsI_out {L r : Nat} {e ns : List Nat} (h : r ∉ e) : stepsI L e (.look r ns) = (List.range L).map (fun k => (Sg.lt k, (ns.getD k 0, e))) ++ [(.fin, (ns.getD L 0, wr e r))] := if_neg h
section
variable {R L : Nat} {t : List Item}
theorem getD_lt {ns : List Nat} {n k : Nat} (h : ∀ x ∈ ns, x < n) (hk : k < ns.length) : ns.getD k 0 < n := by
  rw [List.getD_eq_getElem?_getD, List.getElem?_eq_getElem hk]
  exact h _ (List.getElem_mem hk)
theorem WF.at (h : WF R L t) {m : Nat} (hm : m < t.length) : ItemOk R L t.length (itemAt t m) := by
  refine h.ok _ ?_
  unfold itemAt
  rw [List.getD_eq_getElem?_getD, List.getElem?_eq_getElem hm]
  exact List.getElem_mem hm
theorem steps_ok (h : WF R L t) {p : Ph} (hp : PhOk R t.length p) {x : Sg × Ph} (hx : x ∈ steps L t p) : PhOk R t.length x.2 := by
  have ok := h.at hp.1
  unfold steps at hx
  generalize itemAt t p.1 = y at ok hx
  cases y with
  | look r ns =>
    obtain ⟨o1, o2, o3⟩ := ok
    by_cases hin : r ∈ p.2
    · rw [stepsI_in hin] at hx
      simp only [List.mem_singleton] at hx
      subst hx
      exact ⟨getD_lt o3 (by omega), hp.2.1, hp.2.2⟩
    · rw [stepsI_out hin] at hx
      rcases List.mem_append.mp hx with hx | hx
      · obtain ⟨k, hk, rfl⟩ := List.mem_map.mp hx
        have := List.mem_range.mp hk
        exact ⟨getD_lt o3 (by omega), hp.2.1, hp.2.2⟩
      · simp only [List.mem_singleton] at hx
        subst hx
        have := wr_ok hp.2.1 hp.2.2 o1 hin
        exact ⟨getD_lt o3 (by omega), this.1, this.2⟩
  | say w m =>
    simp only [stepsI, List.mem_singleton] at hx
    subst hx
    exact ⟨ok.2, hp.2.1, hp.2.2⟩
  | stop => simp [stepsI] at hx
theorem start_ok (h : WF R L t) : PhOk R t.length (0, []) := ⟨h.n1, .nil, by simp⟩
theorem Rch.ok (h : WF R L t) {p : Ph} (r : Rch L t p) : PhOk R t.length p := by
  induction r with
  | start => exact start_ok h
  | step _ hx ih => exact steps_ok h ih hx
theorem steps_len (L : Nat) (t : List Item) (p : Ph) : (steps L t p).length ≤ L + 1 := by
  unfold steps
  cases itemAt t p.1 with
  | look r ns =>
    by_cases hin : r ∈ p.2
    · rw [stepsI_in hin]; simp
    · rw [stepsI_out hin]; simp
  | say w m => simp [stepsI]
  | stop => simp [stepsI]
end

/-! ### the work list -/
structure WL (L : Nat) (t : List Item) (ks ws : List Ph) : Prop where
  nd : ks.Nodup
  rk : ∀ p ∈ ks, Rch L t p
  rw : ∀ p ∈ ws, Rch L t p
  st : (0, []) ∈ ks ∨ (0, []) ∈ ws
  cl : ∀ p ∈ ks, ∀ x ∈ steps L t p, x.2 ∈ ks ∨ x.2 ∈ ws
section
variable {R L : Nat} {t : List Item} {ks ws ws' : List Ph} {p : Ph}
theorem WL.init (L : Nat) (t : List Item) : WL L t [] [(0, [])] := ⟨.nil, by simp, by simp [Rch.start], by simp, by simp⟩
theorem WL.skip (h : WL L t ks ws) (hp : p ∈ ks) (h1 : ∀ q ∈ ws, q = p ∨ q ∈ ws') (h2 : ∀ q ∈ ws', q ∈ ws) : WL L t ks ws' := by
  refine ⟨h.nd, h.rk, fun q hq => h.rw q (h2 q hq), ?_, fun q hq x hx => ?_⟩
  · rcases h.st with s | s
    · exact .inl s
    · rcases h1 _ s with e | e
      · exact .inl (e ▸ hp)
      · exact .inr e
  · rcases h.cl q hq x hx with s | s
    · exact .inl s
    · rcases h1 _ s with e | e
      · exact .inl (e ▸ hp)
      · exact .inr e
theorem WL.take (h : WL L t ks ws) (hp : p ∈ ws) (n : p ∉ ks) (h1 : ∀ q ∈ ws, q = p ∨ q ∈ ws') (h2 : ∀ q ∈ ws', q ∈ ws ∨ ∃ x ∈ steps L t p, q = x.2) (h3 : ∀ x ∈ steps L t p, x.2 ∈ ws') : WL L t (ks ++ [p]) ws' := by
  have rp := h.rw p hp
  refine ⟨nodup_snoc h.nd n, fun q hq => ?_, fun q hq => ?_, ?_, fun q hq x hx => ?_⟩
  · rcases List.mem_append.mp hq with s | s
    · exact h.rk q s
    · simp at s
      subst s
      exact rp
  · rcases h2 q hq with s | ⟨x, hx, rfl⟩
    · exact h.rw q s
    · exact .step rp hx
  · rcases h.st with s | s
    · exact .inl (List.mem_append_left _ s)
    · rcases h1 _ s with e | e
      · exact .inl (by rw [e]; simp)
      · exact .inr e
  · rcases List.mem_append.mp hq with s | s
    · rcases h.cl q s x hx with s | s
      · exact .inl (List.mem_append_left _ s)
      · rcases h1 _ s with e | e
        · exact .inl (by rw [e]; simp)
        · exact .inr e
    · simp at s
      subst s
      exact .inr (h3 x hx)
theorem WL.ok (h : WL L t ks ws) (wf : WF R L t) : ∀ p ∈ ks, PhOk R t.length p := fun p hp => (h.rk p hp).ok wf
theorem WL.len (h : WL L t ks ws) (wf : WF R L t) : ks.length ≤ t.length * 2 ^ R := ph_len h.nd (h.ok wf)
/-- the work is done -/
structure AllPh (L : Nat) (t : List Item) (ks : List Ph) : Prop where
  nd : ks.Nodup
  mem : ∀ p, p ∈ ks ↔ Rch L t p
theorem WL.done (h : WL L t ks ws) (e : ∀ q, q ∉ ws) : AllPh L t ks := by
  refine ⟨h.nd, fun p => ⟨h.rk p, fun r => ?_⟩⟩
  induction r with
  | start => exact h.st.resolve_right (e _)
  | step r hx ih => exact (h.cl _ ih _ hx).resolve_right (e _)
theorem AllPh.step (h : AllPh L t ks) (hp : p ∈ ks) {x : Sg × Ph} (hx : x ∈ steps L t p) : x.2 ∈ ks := (h.mem _).mpr (.step ((h.mem _).mp hp) hx)
theorem AllPh.len (h : AllPh L t ks) (wf : WF R L t) : ks.length ≤ t.length * 2 ^ R := ph_len h.nd fun p hp => ((h.mem p).mp hp).ok wf
end
theorem pow_le (R : Nat) (h : R ≤ 6) : 2 ^ R ≤ 64 := Nat.le_trans (Nat.pow_le_pow_right (by decide) h) (by decide)
theorem WF.univ_le {R L : Nat} {t : List Item} (h : WF R L t) : t.length * 2 ^ R ≤ 1024 := Nat.le_trans (Nat.mul_le_mul h.n16 (pow_le R h.r6)) (by decide)
end G6

-- G6Lk
namespace G6
open PySem PySem.Spec PyProof.Rows L2
theorem NKs.snoc_inv {K : PySem.W.Frag} {H : Hp} {ks : List NestedKey} {k : NestedKey} {vs : List V} (h : NKs K H (ks ++ [k]) vs) : ∃ vs' v, vs = vs' ++ [v] ∧ NKs K H ks vs' ∧ NK K H k v := by
  have hl := h.length
  simp at hl
  have h1 := h.take ks.length
  have h2 := h.drop ks.length
  rw [List.take_left'] at h1
  · rw [List.drop_left'] at h2
    · cases hd : vs.drop ks.length with
      | nil => rw [hd] at h2; cases h2
      | cons v r =>
        rw [hd] at h2
        cases h2 with
        | cons a b =>
          cases b
          exact ⟨vs.take ks.length, v, by rw [← hd, List.take_append_drop], h1, a⟩
    · rfl
  · rfl
section
variable {κ : Type} [DecidableEq κ]
theorem valV_of_mem {kvs : List (κ × V)} {k : κ} (h : k ∈ kvs.map (·.1)) : ∃ v, valV kvs k = some v ∧ (k, v) ∈ kvs := by
  induction kvs with
  | nil => simp at h
  | cons p r ih =>
    by_cases e : p.1 = k
    · exact ⟨p.2, valV_pos e, by subst e; simp⟩
    · rw [List.map_cons, List.mem_cons] at h
      obtain ⟨v, h1, h2⟩ := ih (h.resolve_left (fun q => e q.symm))
      exact ⟨v, by rw [valV_neg e]; exact h1, List.mem_cons_of_mem _ h2⟩
theorem valV_none {kvs : List (κ × V)} {k : κ} (h : k ∉ kvs.map (·.1)) : valV kvs k = none := by
  cases e : valV kvs k with
  | none => rfl
  | some v =>
    have q : (kvs.any fun kv => decide (kv.1 = k)) = true := by rw [valV_any, e]; rfl
    obtain ⟨p, hp, hk⟩ := List.any_eq_true.mp q
    exact absurd (List.mem_map.mpr ⟨p, hp, of_decide_eq_true hk⟩) h
theorem isSome_mem {kvs : List (κ × V)} {k : κ} : (valV kvs k).isSome = decide (k ∈ kvs.map (·.1)) := by
  by_cases h : k ∈ kvs.map (·.1)
  · obtain ⟨v, e, _⟩ := valV_of_mem h
    rw [e, decide_eq_true h]
    rfl
  · rw [valV_none h, decide_eq_false h]
    rfl
theorem isSome_in {kvs : List (κ × V)} {k : κ} {ks : List κ} (e : kvs.map (·.1) = ks) (h : k ∈ ks) : (valV kvs k).isSome = true := by
  subst e
  obtain ⟨v, e, _⟩ := valV_of_mem h
  rw [e]
  rfl
theorem isSome_out {kvs : List (κ × V)} {k : κ} {ks : List κ} (e : kvs.map (·.1) = ks) (h : k ∉ ks) : (valV kvs k).isSome = false := by
  subst e
  rw [valV_none h]
  rfl
theorem keys_put_new {kvs : List (κ × V)} {k : κ} {v : V} (h : k ∉ kvs.map (·.1)) : (putK kvs k v).map (·.1) = kvs.map (·.1) ++ [k] ∧ ∀ q ∈ putK kvs k v, q = (k, v) ∨ q ∈ kvs := by
  rw [putK_new v (valV_none h)]
  refine ⟨by simp, fun q hq => ?_⟩
  rcases List.mem_append.mp hq with h | h
  · exact .inr h
  · simp at h
    exact .inl h
/-- values that are lists of data -/
def LVs (K : PySem.W.Frag) (H : Hp) (f : κ → List NestedKey) (W : Addr → Prop) (kvs : List (κ × V)) : Prop := ∀ q ∈ kvs, ∃ l us, q.2 = .ref l ∧ ¬ W l ∧ H l = some (.lst us) ∧ NKs K H (f q.1) us
variable {P : Program} {w : World} {K : PySem.W.Frag} {H H' : Hp} {E : Enc κ} {d a : Addr} {kvs : List (κ × V)} {f : κ → List NestedKey} {W : Addr → Prop}
theorem LVs.same (s : Same H H') (h : LVs K H f W kvs) : LVs K H' f W kvs := fun q hq => let ⟨l, us, e, n, h1, h2⟩ := h q hq; ⟨l, us, e, n, s _ _ h1, NKs.tk (Tk.same s) _ _ h2⟩
theorem LVs.upd {o : HO} (h : LVs K H f W kvs) (ne : W a ∨ ∀ us, H a ≠ some (.lst us)) (n : NoT (H a)) : LVs K (L2.upd H a o) f W kvs := fun q hq => by
  obtain ⟨l, us, e, nw, h1, h2⟩ := h q hq
  refine ⟨l, us, e, nw, ?_, NKs.tk (Tk.upd n) _ _ h2⟩
  rw [upd_ne]
  · exact h1
  · intro z
    subst z
    rcases ne with x | x
    · exact nw x
    · exact x _ h1
theorem LVs.mono {W' : Addr → Prop} (h : LVs K H f W kvs) (hw : ∀ l, W' l → W l) : LVs K H f W' kvs := fun q hq => let ⟨l, us, e, n, h1, h2⟩ := h q hq; ⟨l, us, e, fun z => n (hw _ z), h1, h2⟩
/-- a dict of lists: to be read -/
def KD (P : Program) (w : World) (K : PySem.W.Frag) (H : Hp) (E : Enc κ) (d : Addr) (ks : List κ) (f : κ → List NestedKey) : Prop := ∃ kvs : List (κ × V), NDr P w K H E d kvs ∧ kvs.map (·.1) = ks ∧ LVs K H f (fun _ => False) kvs
/-- .. to be locked -/
def KM (P : Program) (w : World) (K : PySem.W.Frag) (H : Hp) (E : Enc κ) (d : Addr) (ks : List κ) (f : κ → List NestedKey) : Prop := ∃ kvs : List (κ × V), ND P w K H E d kvs ∧ kvs.map (·.1) = ks ∧ LVs K H f (fun _ => False) kvs
variable {ks : List κ}
theorem KM.same (s : Same H H') : KM P w K H E d ks f → KM P w K H' E d ks f := fun ⟨kvs, h1, h2, h3⟩ => ⟨kvs, h1.same s, h2, h3.same s⟩
theorem KD.same (s : Same H H') : KD P w K H E d ks f → KD P w K H' E d ks f := fun ⟨kvs, h1, h2, h3⟩ => ⟨kvs, h1.same s, h2, h3.same s⟩
theorem KM.r : KM P w K H E d ks f → KD P w K H E d ks f := fun ⟨kvs, h1, h2, h3⟩ => ⟨kvs, h1.r, h2, h3⟩
theorem KD.get {k : κ} (h : KD P w K H E d ks f) (hk : k ∈ ks) : ∃ kvs l us, NDr P w K H E d kvs ∧ valV kvs k = some (.ref l) ∧ H l = some (.lst us) ∧ NKs K H (f k) us := by
  obtain ⟨kvs, h1, h2, h3⟩ := h
  obtain ⟨v, e, m⟩ := valV_of_mem (kvs := kvs) (k := k) (by rw [h2]; exact hk)
  obtain ⟨l, us, e1, _, h4, h5⟩ := h3 _ m
  rw [show v = V.ref l from e1] at e
  exact ⟨kvs, l, us, h1, e, h4, h5⟩
end
theorem map_fst_step (l : List (Sg × Ph)) : (l.map (·.2)).map phK = l.map fun x => phK x.2 := by rw [List.map_map]; rfl
theorem step_snd {K : PySem.W.Frag} {H : Hp} {x : Sg × Ph} {v : V} (h : NK K H (stepK x) v) : ∃ a u z, v = .ref a ∧ SqT K H a [u, z] ∧ NK K H (sgK x.1) u ∧ NK K H (phK x.2) z := by
  obtain ⟨a, vs, rfl, h1, h2⟩ := NK.tupOf h
  cases h2 with
  | cons x y =>
    cases y with
    | cons z t =>
      cases t
      exact ⟨a, _, _, rfl, h1, x, z⟩
/-! ### all but some objects stay -/
structure SB (W : Addr → Prop) (H H' : Hp) : Prop where
  out : ∀ b o, ¬ W b → H b = some o → H' b = some o
  nt : ∀ b, W b → NoT (H b)
section
variable {κ : Type} [DecidableEq κ] {P : Program} {w : World} {K : PySem.W.Frag} {H H' H1 H2 : Hp} {E : Enc κ} {d a : Addr} {kvs : List (κ × V)} {f : κ → List NestedKey} {W W' : Addr → Prop}
theorem SB.refl (h : ∀ b, W b → NoT (H b)) : SB W H H := ⟨fun _ _ _ h => h, h⟩
theorem SB.same (h : SB W H H1) (s : Same H1 H2) : SB W H H2 := ⟨fun b o n e => s _ _ (h.out b o n e), h.nt⟩
theorem SB.pre (s : Same H H1) (h : SB W H1 H2) (n : ∀ b, W b → NoT (H b)) : SB W H H2 := ⟨fun b o nb e => h.out b o nb (s _ _ e), n⟩
theorem SB.trans (h : SB W H H1) (h2 : SB W H1 H2) : SB W H H2 := ⟨fun b o n e => h2.out b o n (h.out b o n e), h.nt⟩
theorem SB.upd {o : HO} (h : SB W H H1) (w : W a) : SB W H (L2.upd H1 a o) := ⟨fun b x n e => by
  rw [upd_ne (fun z => n (by subst z; exact w))]
  exact h.out b x n e, h.nt⟩
theorem SB.new {o : HO} (h : SB W H H1) (n : H1 a = Option.none) : SB W H (L2.upd H1 a o) := h.same (same_new n)
theorem SB.tk (h : SB W H H1) : Tk H H1 := by
  refine ⟨fun b xs e => h.out b _ (fun w => ?_) e, fun b o xs e => h.out b _ (fun w => ?_) e⟩
  · have := h.nt b w
    rw [e] at this
    exact this
  · have := h.nt b w
    rw [e] at this
    exact this
theorem SB.back {H0 : Hp} (s : Same H0 H) (h : SB W H H1) (n : ∀ b, W b → H0 b = none) : Same H0 H1 := fun b o e => h.out b o (fun w => by rw [n b w] at e; cases e) (s _ _ e)
theorem SB.sub (h : SB W H H1) (hw : ∀ b, W b → W' b) (n : ∀ b, W' b → NoT (H b)) : SB W' H H1 := ⟨fun b o nb e => h.out b o (fun w => nb (hw b w)) e, n⟩
theorem SB.nd (h : SB W H H1) (n : ¬ W d) (x : ND P w K H E d kvs) : ND P w K H1 E d kvs := ⟨x.1, x.2.1, let ⟨zs, e, z⟩ := x.2.2; ⟨zs, h.out _ _ n e, z.tk h.tk⟩⟩
theorem SB.ndr (h : SB W H H1) (n : ¬ W d) (x : NDr P w K H E d kvs) : NDr P w K H1 E d kvs := ⟨x.1, x.2.1, let ⟨zs, e, z⟩ := x.2.2; ⟨zs, e.elim (fun q => .inl (h.out _ _ n q)) (fun ⟨o, q⟩ => .inr ⟨o, h.out _ _ n q⟩), z.tk h.tk⟩⟩
theorem SB.lvs (h : SB W H H1) (x : LVs K H f W kvs) : LVs K H1 f W kvs := fun q hq => let ⟨l, us, e, n, h1, h2⟩ := x q hq; ⟨l, us, e, n, h.out _ _ n h1, NKs.tk h.tk _ _ h2⟩
end
theorem EP_f (p : Ph) : EP.f p = phK p := rfl
end G6

-- G6F_Ae
namespace G6
open PySem PySem.Spec PyProof.Rows L2
section
variable {P : Program} {w : World} {K : PySem.W.Frag} {mg : Str → Option Value} {base : Heap}
abbrev N_all_steps : List Str := ["letters", "table", "found", "waiting", "phase", "step"]
theorem sc_all_steps : FnScope N_all_steps ["letters", "table"] (defScope s_all_steps) := ⟨rfl, rfl, rfl, by decide +kernel, rfl, by decide +kernel, by decide +kernel⟩
def sp_all_steps (P : Program) (w : World) (K : PySem.W.Frag) : Sp := fun vs H Q _ => ∃ (a : Addr) (ws : List V) (t : List Item) (R L : Nat), vs = [.int (L : Int), .ref a] ∧ SqT K H a ws ∧ NKs K H (t.map itemK) ws ∧ WF R L t ∧
  ∀ d ks H', Same H H' → H d = none → AllPh L t ks → KM P w K H' EP d ks (fun p => (steps L t p).map stepK) → Q (.ref d) H'
theorem f_all_steps (c : Cn K mg) : C8.Cal P w K mg base 3 "all_steps" (sp_all_steps P w K) [] := by
  have h_steps_of := f_steps_of (P := P) (w := w) (base := base) c
  refine cal_of (N := N_all_steps) c.g_all_steps c.d_all_steps sc_all_steps (fun _ _ _ _ _ _ us hl => match us, hl with | [_, _], _ => rfl) (fun vs H Q E h => ?len) (fun cdv A outer s H vs Q E hr h => ?_)
  case len => obtain ⟨a, ws, t, R, L, rfl, _⟩ := h; rfl
  obtain ⟨a, ws, t, R, L, rfl, ha, hw, wf, q⟩ := h
  refine ⟨_, (pss_cons (ps_set (i := 2) sc_all_steps.nd rfl (Or.inl rfl) (knnew P w))
      (pss_cons (ps_set (i := 3) sc_all_steps.nd rfl (Or.inl rfl) (pe_lst (pa_cons (pe_glob (v := .ref (He.ga K "FIRST_PHASE")) (by rfl) c.gFirst rfl) pa_nil)))
      (pss_cons (ps_while PassesOwn.never (pt_cmpR op_gt (pe_callB (r := rLenA K) (kc_len K) (by rfl) c.z_len (by decide +kernel) (pa_cons (pv 3) pa_nil)) pe_int (nomark _)) (pss_cons (ps_set (i := 4) sc_all_steps.nd rfl (Or.inl rfl) (kpop K (pv 3)))
      (pss_one (ps_if (pt_cmp (knnotin P w K EP hr (pv 4) (pv 2))) (pss_cons (knput P w K EP hr (pv 2) (pv 4) (C8.pe_c h_steps_of hr (by decide) (by rfl) (pa_cons (pv 0) (pa_cons (pv 1) (pa_cons (pv 4) pa_nil)))))
      (pss_one (ps_expr (kbm K PySem.F.slot_list_extend PySem.F.type_list_extend mt_extend (pv 3) (pa_cons (pe_lc (own := [("step", 5)]) (g := gName 5) (tt := tYes) rfl sc_all_steps.nd (kpi_list K (knget P w K EP hr (pv 2) (pv 4))) (blkOk_by (own := [("step", 5)]) (N := N_all_steps) (sc := defScope s_all_steps) (by decide +kernel)) (fun _ _ _ _ _ => (pg_name (i := 5) sc_all_steps.nd rfl (Or.inl rfl))) (fun _ _ _ _ _ => pts_nil) (fun _ _ _ _ _ => (kixT K (pv 5) pe_int))) pa_nil))))) pss_nil))))
      (pss_one (ps_ret (pv 2)))))), ?_⟩
  intro d nd0 hsys
  refine ⟨sz 1 (by decide), fun W nW => ?_⟩
  have dW : d ≠ W := fun e => by subst e; rw [upd_same] at nW; cases nW
  have HW : H W = none := Same.free (same_new nd0) nW
  refine ⟨fun m σ H1 => ∃ (kvs : List (Ph × V)) (ks pend : List Ph) (vs : List V) (u1 u2 : Option V), σ = [some (.int (L : Int)), some (.ref a), some (.ref d), some (.ref W), u1, u2] ∧ Same H H1 ∧ ND P w K H1 EP d kvs ∧ kvs.map (·.1) = ks ∧ LVs K H1 (fun p => (steps L t p).map stepK) (· = W) kvs ∧
    H1 W = some (.lst vs) ∧ NKs K H1 (pend.map phK) vs ∧ WL L t ks pend ∧ pend.length ≤ 1 + (L + 1) * ks.length ∧ m = (1024 - ks.length) * (L + 2) + pend.length,
    ⟨_, [], [], [(0, [])], [.ref (He.ga K "FIRST_PHASE")], none, none, rfl, Same.trans (same_new nd0) (same_new nW), ND.empty hsys (by rw [upd_ne dW]; exact upd_same), rfl, fun q hq => (nomatch hq), upd_same, .cons (c.first _) .nil, WL.init L t, by simp, rfl⟩, ?_⟩
  rintro m σ H1 ⟨kvs, ks, pend, vs, u1, u2, rfl, sm, hd, hks, hlv, hW, hv, wl, hlen, hm⟩
  have hlenv : vs.length = pend.length := by have := hv.length; simpa using this
  refine ⟨_, rfl, _, _, rfl, .inl (.inl (.inl hW)), _, _, rfl, rfl, _, rfl, ?_⟩
  have hU := wl.len wf
  have hU2 := wf.univ_le
  rcases List.eq_nil_or_concat pend with rfl | ⟨pend', p, rfl⟩
  · have : vs = [] := List.eq_nil_of_length_eq_zero (by simpa using hlenv)
    subst this
    refine iteF ⟨_, rfl, ?_⟩
    exact q d ks H1 sm nd0 (wl.done (by simp)) ⟨kvs, hd, hks, hlv.mono (fun _ h => h.elim)⟩
  · rw [List.concat_eq_append] at *
    rw [List.map_append] at hv
    obtain ⟨vs', v, rfl, hv', hp⟩ := NKs.snoc_inv hv
    rw [decide_eq_true (by simp)]
    refine iteT ⟨fun σ' H' => ∃ m', m' < m ∧ _, fun σ' H' h => h, _, rfl, .inl ⟨rfl, _, .inl (.inl hW)⟩, W, vs' ++ [v], v, rfl, rfl, hW, by simp, ?_⟩
    rw [List.dropLast_concat]
    have tm := Tk.mut (o := .lst vs') hW True.intro
    have s2 : Same H (upd H1 W (.lst vs')) := Same.mut sm HW
    have hd2 : ND P w K (upd H1 W (.lst vs')) EP d kvs := hd.upd dW (by rw [hW]; exact True.intro)
    have hlv2 : LVs K (upd H1 W (.lst vs')) (fun p => (steps L t p).map stepK) (· = W) kvs := hlv.upd (.inl rfl) (by rw [hW]; exact True.intro)
    have hp2 := NK.tk tm _ _ hp
    have hv2 := NKs.tk tm _ _ hv'
    obtain ⟨b, e, rfl, hb, he⟩ := ph_inv hp2
    have okp := (wl.rw p (by simp)).ok wf
    have hz := ended_len okp
    refine ⟨_, rfl, _, rfl, d, b, kvs, p, rfl, rfl, hd2.r, hp2, _, rfl, ?_⟩
    have l1 : (pend' ++ [p]).length = pend'.length + 1 := by simp
    by_cases hin : p ∈ ks
    · rw [isSome_in hks hin]
      refine iteF ?_
      refine ⟨_, ?_, kvs, ks, pend', vs', _, _, rfl, s2, hd2, hks, hlv2, upd_same, hv2, wl.skip hin (by intro q hq; simpa [or_comm] using hq) (by intro q hq; simp [hq]), by omega, rfl⟩
      omega
    · rw [isSome_out hks hin]
      refine iteT ?_
      have hlt : ks.length < 1024 := by
        have := ph_len (nodup_snoc wl.nd hin) (R := R) (n := t.length) (by
          intro q hq
          rcases List.mem_append.mp hq with h | h
          · exact wl.ok wf q h
          · simp at h
            subst h
            exact okp)
        simp at this
        omega
      refine ⟨_, rfl, _, rfl, _, rfl, a, ws, t, R, L, p, _, rfl, sqT s2 ha, NKs.tk (Tk.same s2) _ _ hw, hp2, okp.1, wf.at okp.1, wf.l2, by have := wf.r6; omega, fun l us H2 sm2 hl hus hnk => ?_⟩
      have hd3 := hd2.same sm2
      have hp3 := NK.tk (Tk.same sm2) _ _ hp2
      refine ⟨_, rfl, _, rfl, d, b, kvs, p, rfl, rfl, hd3, hp3, by rw [← List.length_map (f := (·.1)), hks]; exact Nat.lt_of_lt_of_le hlt (by decide), fun ob hd4 => ?_⟩
      have hkn := keys_put_new (kvs := kvs) (k := p) (v := .ref l) (by rw [hks]; exact hin)
      have hW3 : H2 W = some (.lst vs') := sm2 _ _ upd_same
      have lW : l ≠ W := fun e => by subst e; rw [upd_same] at hl; cases hl
      have ld : l ≠ d := fun e => by
        subst e
        obtain ⟨o, ho⟩ := hd2.some
        rw [ho] at hl
        cases hl
      have hdm : NoT (H2 d) := hd3.not
      have tk4 : Tk H2 (upd H2 d ob) := Tk.upd hdm
      have hlv4 : LVs K (upd H2 d ob) (fun p => (steps L t p).map stepK) (· = W) (putK kvs p (.ref l)) := by
        intro x hx
        rcases hkn.2 x hx with rfl | hx
        · exact ⟨l, us, rfl, lW, by rw [upd_ne ld]; exact hus, NKs.tk tk4 _ _ hnk⟩
        · exact ((hlv2.same sm2).upd (.inr (fun us e => by
            obtain ⟨_, _, zs, hzs, _⟩ := hd3
            rw [hzs] at e
            cases e)) hdm) x hx
      have s4 : Same H (upd H2 d ob) := Same.mut (Same.trans s2 sm2) nd0
      have hW4 : upd H2 d ob W = some (.lst vs') := by rw [upd_ne (Ne.symm dW)]; exact hW3
      have hus4 : upd H2 d ob l = some (.lst us) := by rw [upd_ne ld]; exact hus
      have hk4 := hkn.1
      rw [hks] at hk4
      have hval : valV (putK kvs p (V.ref l)) p = some (.ref l) := by rw [valV_put, if_pos rfl]
      refine ⟨_, rfl, .inl ⟨rfl, _, .inl (.inl hW4)⟩, ?_⟩
      refine ⟨_, rfl, _, rfl, d, b, _, p, _, rfl, rfl, hd4.r, NK.tk tk4 _ _ hp3, hval, l, rfl, ⟨us, .inl (.inl hus4)⟩, fun D hD => ?_⟩
      have hnk4 := NKs.tk tk4 _ _ hnk
      have hul : us.length = (steps L t p).length := by have := hnk.length; simpa using this
      have hsl := steps_len L t p
      refine lc_map walk_list (fun i y H => NK K H (((steps L t p).map fun x : Sg × Ph => phK x.2).getD i .none) y) hD (by rw [hul]; exact sz _ (by have := wf.l2; omega)) (fun H5 s5 => .inl (.inl (s5 _ _ hus4))) (fun i H x H' y => by rw [y.1]; exact Same.refl _) (fun i y H H' s' r => NK.tk (Tk.same s') _ _ r) (fun i y H _ _ e r => NK.tk (Tk.mut e True.intro) _ _ r) ?_ (mono_name _) ?_
      · intro i x H5 H6 hi sm5 _ ⟨e1, ex⟩ Qy hy
        subst e1
        obtain ⟨k, hk1, hk2⟩ := (NKs.tk (Tk.same sm5) _ _ hnk4).getV ex
        rw [List.getElem?_map] at hk1
        cases hst : (steps L t p)[i]? with
        | none => rw [hst] at hk1; cases hk1
        | some x0 =>
          rw [hst] at hk1
          cases hk1
          obtain ⟨ta, u, z, rfl, h1, h2, h3⟩ := step_snd hk2
          refine ⟨rfl, _, rfl, _, _, _, _, rfl, rfl, h1, rfl, hy _ _ (Same.refl _) ?_⟩
          rw [List.getD_eq_getElem?_getD, List.getElem?_map, hst]
          exact h3
      · intro H5 ys sm5 hys hpr
        have hk := nks_paired hpr
        have heq : ((List.range us.length).map fun i => ((steps L t p).map fun x : Sg × Ph => phK x.2).getD i .none) = ((steps L t p).map (·.2)).map phK := by
          rw [map_fst_step, hul]
          refine List.ext_getElem (by simp) fun i h1 h2 => ?_
          simp at h1 h2
          simp [h1]
        rw [heq] at hk
        have hyl : ys.length = (steps L t p).length := by have := hk.length; simpa using this
        have dD : W ≠ D := fun e => by subst e; rw [hW4] at hD; cases hD
        have hvl : vs'.length = pend'.length := by have := hv'.length; simpa using this
        have hb1 : (L + 1) * ks.length ≤ 3 * 1024 := Nat.mul_le_mul (by have := wf.l2; omega) (by omega)
        refine ⟨W, D, vs', ys, rfl, rfl, sm5 _ _ hW4, hys, by rw [hvl, hyl]; exact sz _ (by have := wf.l2; omega), ?_⟩
        have hW5 := sm5 _ _ hW4
        have tk5 : Tk H5 (upd H5 W (.lst (vs' ++ ys))) := Tk.mut hW5 True.intro
        refine ⟨_, ?_, putK kvs p (.ref l), ks ++ [p], pend' ++ (steps L t p).map (·.2), vs' ++ ys, _, _, rfl, Same.mut (Same.trans s4 sm5) HW, (hd4.same sm5).upd dW (by rw [hW5]; exact True.intro), hk4, (hlv4.same sm5).upd (.inl rfl) (by rw [hW5]; exact True.intro), upd_same, ?_, ?_, ?_, rfl⟩
        · rw [List.length_append, List.length_append, List.length_map]
          simp only [List.length_singleton]
          have e1 : (1024 - ks.length) * (L + 2) = (1024 - (ks.length + 1)) * (L + 2) + (L + 2) := by
            have : 1024 - ks.length = (1024 - (ks.length + 1)) + 1 := by omega
            rw [this, Nat.succ_mul]
          omega
        · rw [List.map_append]
          exact NKs.append (NKs.tk tk5 _ _ (NKs.tk (Tk.same sm5) _ _ (NKs.tk tk4 _ _ (NKs.tk (Tk.same sm2) _ _ hv2)))) (NKs.tk tk5 _ _ hk)
        · refine wl.take (p := p) (by simp) hin ?_ ?_ ?_
          · intro q hq
            simp at hq
            rcases hq with h | h
            · exact .inr (by simp [h])
            · exact .inl h
          · intro q hq
            rcases List.mem_append.mp hq with h | h
            · exact .inl (by simp [h])
            · obtain ⟨x, hx, rfl⟩ := List.mem_map.mp h
              exact .inr ⟨x, hx, rfl⟩
          · intro x hx
            exact List.mem_append_right _ (List.mem_map.mpr ⟨x, hx, rfl⟩)
        · rw [List.length_append, List.length_append, List.length_map]
          simp only [List.length_singleton]
          have : (L + 1) * (ks.length + 1) = (L + 1) * ks.length + (L + 1) := Nat.mul_succ _ _
          omega
end
end G6

-- G6F_Af
namespace G6
open PySem PySem.Spec PyProof.Rows L2
section
variable {P : Program} {w : World} {K : PySem.W.Frag} {mg : Str → Option Value} {base : Heap}
abbrev N_law_phases : List Str := ["_law_letters", "_law_table", "_law_found", "_law_waiting", "_law_at", "_law_turn", "_law_phase", "_law_sign", "_law_later"]
theorem sc_law_phases : FnScope N_law_phases ["_law_letters", "_law_table"] (defScope s_law_phases) := ⟨rfl, rfl, rfl, by decide +kernel, rfl, by decide +kernel, by decide +kernel⟩
def Small (R L : Nat) (t : List Item) : Prop := t.length * 2 ^ R * (L + 1) + 1 ≤ 4000
def sp_law_phases (P : Program) (w : World) (K : PySem.W.Frag) : Sp := fun vs H Q _ => ∃ (a : Addr) (ws : List V) (t : List Item) (R L : Nat), vs = [.int (L : Int), .ref a] ∧ (SqL K H a ws ∨ SqT K H a ws) ∧ NKs K H (t.map itemK) ws ∧ WF R L t ∧ Small R L t ∧
  ∀ d ks H', Same H H' → H d = none → AllPh L t ks → KM P w K H' EP d ks (fun p => (steps L t p).map stepK) → Q (.ref d) H'
theorem sqA {K : PySem.W.Frag} {H H' : Hp} {a : Addr} {ws : List V} (s : Same H H') (h : SqL K H a ws ∨ SqT K H a ws) : SqL K H' a ws ∨ SqT K H' a ws := h.imp (Same.seq s) (sqT s)
theorem f_law_phases (c : Cn K mg) : C8.Cal P w K mg base 2 "_law_phases" (sp_law_phases P w K) [] := by
  have h_law_steps := f_law_steps (P := P) (w := w) (base := base) c
  refine cal_of (N := N_law_phases) c.g_law_phases c.d_law_phases sc_law_phases (fun _ _ _ _ _ _ us hl => match us, hl with | [_, _], _ => rfl) (fun vs H Q E h => ?len) (fun cdv A outer s H vs Q E hr h => ?_)
  case len => obtain ⟨a, ws, t, R, L, rfl, _⟩ := h; rfl
  obtain ⟨a, ws, t, R, L, rfl, ha, hw, wf, sml, q⟩ := h
  refine ⟨_, (pss_cons (ps_set (i := 2) sc_law_phases.nd rfl (Or.inl rfl) (knnew P w))
      (pss_cons (ps_set (i := 3) sc_law_phases.nd rfl (Or.inl rfl) (pe_lst (pa_cons (pe_tup (pa_cons pe_int (pa_cons (pe_tup pa_nil) pa_nil))) pa_nil)))
      (pss_cons (ps_set (i := 4) sc_law_phases.nd rfl (Or.inl rfl) pe_int)
      (pss_cons (ps_for PassesOwn.never rfl (pi_range1 (by rfl) c.z_range (pa_cons pe_int pa_nil)) (pg_name (i := 5) sc_law_phases.nd rfl (Or.inl rfl)) (pss_one (ps_if (pt_cmpR op_lt (pv 4) (pe_callB (r := rLenA K) (kc_len K) (by rfl) c.z_len (by decide +kernel) (pa_cons (pv 3) pa_nil)) (nomark _)) (pss_cons (ps_set (i := 6) sc_law_phases.nd rfl (Or.inl rfl) (kixL K (pv 3) (pv 4)))
      (pss_cons (ps_set (i := 4) sc_law_phases.nd rfl (Or.inl rfl) (pe_op op_add (pv 4) pe_int))
      (pss_one (ps_if (pt_cmp (knnotin P w K EP hr (pv 6) (pv 2))) (pss_cons (knput P w K EP hr (pv 2) (pv 6) (C8.pe_c h_law_steps hr (by decide) (by rfl) (pa_cons (pv 0) (pa_cons (pv 1) (pa_cons (pv 6) pa_nil)))))
      (pss_one (ps_for PassesOwn.never rfl (kpi_list K (knget P w K EP hr (pv 2) (pv 6))) (kpg_tup K (pgs_cons (pg_name (i := 7) sc_law_phases.nd rfl (Or.inl rfl)) (pgs_cons (pg_name (i := 8) sc_law_phases.nd rfl (Or.inl rfl)) pgs_nil))) (pss_one (ps_expr (kbm K PySem.F.slot_list_append PySem.F.type_list_append mt_append (pv 3) (pa_cons (pv 8) pa_nil))))))) pss_nil)))) pss_nil)))
      (pss_one (ps_ret (pv 2))))))), ?_⟩
  intro d nd0 hsys
  refine ⟨sz 0 (by decide), fun t0 n0 => ⟨sz 2 (by decide), fun t1 n1 => ⟨sz 1 (by decide), fun W nW => ?_⟩⟩⟩
  have s0 := Same.trans (same_new (o := NDo P w d []) nd0) (Same.trans (same_new (o := .tup []) n0) (same_new (o := .tup [.int 0, .ref t0]) n1))
  have HW : H W = none := Same.free s0 nW
  have sW := same_new (o := .lst [.ref t1]) nW
  have dW : d ≠ W := fun e => by
    have : upd (upd (upd H d (NDo P w d [])) t0 (.tup [])) t1 (.tup [.int 0, .ref t0]) d = some (NDo P w d []) := same_new n1 _ _ (same_new n0 _ _ upd_same)
    subst e
    exact nomatch nW.symm.trans this
  refine ⟨4000, rfl, by decide, by decide, ?_⟩
  refine for_it walk_range (fun i σ H1 => ∃ (kvs : List (Ph × V)) (ks all : List Ph) (vs : List V) (at' : Nat) (u1 u2 u3 u4 : Option V), σ = [some (.int (L : Int)), some (.ref a), some (.ref d), some (.ref W), some (.int (at' : Int)), u1, u2, u3, u4] ∧ Same H H1 ∧ ND P w K H1 EP d kvs ∧ kvs.map (·.1) = ks ∧ LVs K H1 (fun p => (steps L t p).map stepK) (· = W) kvs ∧
    H1 W = some (.lst vs) ∧ NKs K H1 (all.map phK) vs ∧ WL L t ks (all.drop at') ∧ at' ≤ all.length ∧ all.length ≤ 1 + (L + 1) * ks.length ∧ (at' = i ∨ at' = all.length)) ?_ (fun _ _ _ _ _ => True.intro) ?_ ?_
  · refine ⟨[], [], [(0, [])], [.ref t1], 0, _, _, _, _, rfl, Same.trans s0 sW, ND.empty hsys ?_, rfl, fun q hq => (nomatch hq), upd_same, .cons (ph_mk (m := 0) (l := []) (.inl (.inl (sW _ _ upd_same))) (.inl (.inl (sW _ _ (same_new n1 _ _ upd_same))))) .nil, WL.init L t, by simp, by simp, .inl rfl⟩
    exact sW _ _ (same_new n1 _ _ (same_new n0 _ _ upd_same))
  · rintro i x σ H1 H1' hi ⟨kvs, ks, all, vs, at', u1, u2, u3, u4, rfl, sm, hd, hks, hlv, hW, hv, wl, hat, hlen, hor⟩ ⟨e1, ex⟩
    subst e1 ex
    have hlenv : vs.length = all.length := by have := hv.length; simpa using this
    refine ⟨_, rfl, _, rfl, _, _, rfl, .inl (.inl (.inl hW)), _, _, rfl, rfl, _, rfl, ?_⟩
    have hU := wl.len wf
    have hU2 := wf.univ_le
    by_cases hlt : at' < all.length
    · rw [decide_eq_true (by rw [hlenv]; omega)]
      refine iteT ?_
      have hie : at' = i := by rcases hor with h | h <;> omega
      cases hall : all.drop at' with
      | nil => have := List.drop_eq_nil_iff.mp hall; omega
      | cons p rest =>
      have hap : all[at']? = some p := by
        have := List.getElem?_drop (xs := all) (i := at') (j := 0)
        rw [hall] at this
        simpa using this.symm
      have hrest : all.drop (at' + 1) = rest := by
        rw [← List.drop_drop (i := 1) , hall]
        rfl
      rw [hall] at wl
      obtain ⟨v, hv1, hp⟩ := hv.get (i := at') (k := phK p) (by rw [List.getElem?_map, hap]; rfl)
      obtain ⟨b, e, rfl, hb, he⟩ := ph_inv hp
      have okp := (wl.rw p (by simp)).ok wf
      have hz := ended_len okp
      refine ⟨_, rfl, _, rfl, W, vs, _, _, rfl, rfl, .inl (.inl hW), atI_nat hv1, ?_⟩
      refine ⟨_, rfl, _, _, rfl, rfl, ?_⟩
      refine ⟨_, rfl, _, rfl, d, b, kvs, p, rfl, rfl, hd.r, hp, _, rfl, ?_⟩
      by_cases hin : p ∈ ks
      · rw [isSome_in hks hin]
        refine iteF ?_
        refine ⟨kvs, ks, all, vs, at' + 1, _, _, _, _, rfl, sm, hd, hks, hlv, hW, hv, wl.skip hin (by intro q hq; rw [hrest]; simpa [or_comm] using hq) (by intro q hq; rw [hrest] at hq; simp [hq]), by omega, hlen, .inl (by omega)⟩
      · rw [isSome_out hks hin]
        refine iteT ?_
        have hlt2 : ks.length < 1024 := by
          have := ph_len (nodup_snoc wl.nd hin) (R := R) (n := t.length) (by
            intro q hq
            rcases List.mem_append.mp hq with h | h
            · exact wl.ok wf q h
            · simp at h
              subst h
              exact okp)
          simp at this
          omega
        refine ⟨_, rfl, _, rfl, _, rfl, a, ws, t, R, L, p, _, rfl, sqA sm ha, NKs.tk (Tk.same sm) _ _ hw, hp, okp.1, wf.at okp.1, wf.l2, by have := wf.r6; omega, fun l us H2 sm2 hl hus hnk => ?_⟩
        have hd3 := hd.same sm2
        have hp3 := NK.tk (Tk.same sm2) _ _ hp
        refine ⟨_, rfl, _, rfl, d, b, kvs, p, rfl, rfl, hd3, hp3, by rw [← List.length_map (f := (·.1)), hks]; exact Nat.lt_of_lt_of_le hlt2 (by decide), fun ob hd4 => ?_⟩
        have hkn := keys_put_new (kvs := kvs) (k := p) (v := .ref l) (by rw [hks]; exact hin)
        have hW3 : H2 W = some (.lst vs) := sm2 _ _ hW
        have lW : l ≠ W := fun e => by rw [e, hW] at hl; cases hl
        have ld : l ≠ d := fun e => by
          obtain ⟨o, ho⟩ := hd.some
          rw [e, ho] at hl
          cases hl
        have hdm : NoT (H2 d) := hd3.not
        have tk4 : Tk H2 (upd H2 d ob) := Tk.upd hdm
        have hlv4 : LVs K (upd H2 d ob) (fun p => (steps L t p).map stepK) (· = W) (putK kvs p (.ref l)) := by
          intro x hx
          rcases hkn.2 x hx with rfl | hx
          · exact ⟨l, us, rfl, lW, by rw [upd_ne ld]; exact hus, NKs.tk tk4 _ _ hnk⟩
          · exact ((hlv.same sm2).upd (.inr (fun us e => by
              obtain ⟨_, _, zs, hzs, _⟩ := hd3
              rw [hzs] at e
              cases e)) hdm) x hx
        have s4 : Same H (upd H2 d ob) := Same.mut (Same.trans sm sm2) nd0
        have hW4 : upd H2 d ob W = some (.lst vs) := by rw [upd_ne (Ne.symm dW)]; exact hW3
        have hus4 : upd H2 d ob l = some (.lst us) := by rw [upd_ne ld]; exact hus
        have hk4 := hkn.1
        rw [hks] at hk4
        have hval : valV (putK kvs p (V.ref l)) p = some (.ref l) := by rw [valV_put, if_pos rfl]
        have hnk4 := NKs.tk tk4 _ _ hnk
        have hv4 := NKs.tk tk4 _ _ (NKs.tk (Tk.same sm2) _ _ hv)
        have hul : us.length = (steps L t p).length := by have := hnk.length; simpa using this
        have hsl := steps_len L t p
        have hb1 : (L + 1) * ks.length ≤ 3 * 1024 := Nat.mul_le_mul (by have := wf.l2; omega) (by omega)
        refine ⟨_, rfl, _, rfl, d, b, _, p, _, rfl, rfl, hd4.r, NK.tk tk4 _ _ hp3, hval, l, rfl, ⟨us, .inl (.inl hus4)⟩, ?_⟩
        refine for_it (walk_list (xs := us)) (fun j σ H5 => (∃ u7 u8 : Option V, σ = [some (.int (L : Int)), some (.ref a), some (.ref d), some (.ref W), some (.int ((at' : Int) + 1)), some (.int (0 + (i : Int))), some (.ref b), u7, u8]) ∧ SB (· = W) (upd H2 d ob) H5 ∧ ∃ ys, H5 W = some (.lst (vs ++ ys)) ∧ NKs K H5 ((((steps L t p).take j).map (·.2)).map phK) ys) ?_ ?_ ?_ ?_
        · exact ⟨⟨_, _, rfl⟩, SB.refl (fun z e => by subst e; rw [hW4]; exact True.intro), [], by rw [List.append_nil]; exact hW4, .nil⟩
        · intro j σ H5 hj ⟨_, sb, _⟩
          exact .inl (.inl (sb.out _ _ lW hus4))
        · rintro j x σ H5 H6 hj ⟨⟨u7, u8, rfl⟩, sb, ys, hys, hyn⟩ ⟨e1, ex⟩
          subst e1
          obtain ⟨k, hk1, hk2⟩ := (NKs.tk sb.tk _ _ hnk4).getV ex
          rw [List.getElem?_map] at hk1
          cases hst : (steps L t p)[j]? with
          | none => rw [hst] at hk1; cases hk1
          | some x0 =>
            rw [hst] at hk1
            cases hk1
            obtain ⟨ta, u, z, rfl, h1, h2, h3⟩ := step_snd hk2
            refine ⟨ta, _, rfl, h1, rfl, _, _, rfl, _, _, rfl, rfl, ?_⟩
            have hyl : ys.length ≤ L + 1 := by
              have := hyn.length
              simp at this
              omega
            refine ⟨_, rfl, .inl ⟨rfl, _, .inl (.inl hys)⟩, _, rfl, W, _, _, rfl, rfl, hys, by rw [List.length_append, hlenv]; exact Nat.lt_of_le_of_lt (m := 100000) (by have := wf.l2; omega) (by decide), ?_⟩
            have tm := Tk.mut (o := .lst (vs ++ ys ++ [z])) hys True.intro
            refine ⟨⟨_, _, rfl⟩, sb.upd rfl, ys ++ [z], by rw [← List.append_assoc]; exact upd_same, ?_⟩
            rw [List.take_succ, hst, List.map_append, List.map_append]
            exact NKs.append (NKs.tk tm _ _ hyn) (.cons (NK.tk tm _ _ h3) .nil)
        · rintro σ H5 ⟨⟨u7, u8, rfl⟩, sb, ys, hys, hyn⟩
          rw [hul, List.take_length] at hyn
          have hyl : ys.length = (steps L t p).length := by have := hyn.length; simpa using this
          refine ⟨putK kvs p (.ref l), ks ++ [p], all ++ (steps L t p).map (·.2), vs ++ ys, at' + 1, _, _, _, _, rfl, sb.back s4 (fun z e => by subst e; exact HW), sb.nd dW hd4, hk4, sb.lvs hlv4, hys, ?_, ?_, ?_, ?_, .inl (by omega)⟩
          · rw [List.map_append]
            exact NKs.append (NKs.tk sb.tk _ _ hv4) hyn
          · rw [List.drop_append_of_le_length (by omega), hrest]
            refine wl.take (p := p) (by simp) hin ?_ ?_ ?_
            · intro q hq
              simp at hq
              rcases hq with h | h
              · exact .inl h
              · exact .inr (by simp [h])
            · intro q hq
              rcases List.mem_append.mp hq with h | h
              · exact .inl (by simp [h])
              · obtain ⟨x, hx, rfl⟩ := List.mem_map.mp h
                exact .inr ⟨x, hx, rfl⟩
            · intro x hx
              exact List.mem_append_right _ (List.mem_map.mpr ⟨x, hx, rfl⟩)
          · rw [List.length_append]
            omega
          · rw [List.length_append, List.length_append, List.length_map]
            simp only [List.length_singleton]
            have : (L + 1) * (ks.length + 1) = (L + 1) * ks.length + (L + 1) := Nat.mul_succ _ _
            omega
    · rw [decide_eq_false (by rw [hlenv]; omega)]
      refine iteF ?_
      exact ⟨kvs, ks, all, vs, at', _, _, _, _, rfl, sm, hd, hks, hlv, hW, hv, wl, hat, hlen, .inr (by omega)⟩
  · rintro σ H1 ⟨kvs, ks, all, vs, at', u1, u2, u3, u4, rfl, sm, hd, hks, hlv, hW, hv, wl, hat, hlen, hor⟩
    have hU := wl.len wf
    have hb1 : (L + 1) * ks.length ≤ (L + 1) * (t.length * 2 ^ R) := Nat.mul_le_mul (Nat.le_refl _) hU
    have hsm : (L + 1) * (t.length * 2 ^ R) + 1 ≤ 4000 := by rw [Nat.mul_comm]; exact sml
    have : at' = all.length := by
      rcases hor with h | h
      · have h : at' = 4000 := h
        omega
      · exact h
    subst this
    rw [List.drop_length] at wl
    exact ⟨_, rfl, q d ks H1 sm nd0 (wl.done (by simp)) ⟨kvs, hd, hks, hlv.mono (fun _ h => h.elim)⟩⟩
end
end G6

-- G6Mc
namespace G6
open PySem PySem.Spec PyProof.Rows L2
/-! ### hashes of phases differ -/
def phHash (p : Ph) : Int := reduceHash (Builtin.Tuple.tupleHashOf [hashInt (p.1 : Int), reduceHash (Builtin.Tuple.tupleHashOf (p.2.map fun n : Nat => hashInt (n : Int)))])
theorem hashes_num (w : World) : ∀ l : List Nat, NestedKey.hashes w (l.map num) = l.map fun n : Nat => hashInt (n : Int)
  | [] => rfl
  | x :: l => by
    rw [List.map_cons, List.map_cons, ← hashes_num w l]
    rfl
theorem hash_ph (w : World) (p : Ph) : (phK p).hash w = phHash p := by
  unfold phK phHash nums
  simp only [NestedKey.hash, NestedKey.hashes, num]
  rw [← hashes_num w p.2]
def chk : List Nat → Nat → Bool
  | [], _ => true
  | x :: l, acc => !(acc.testBit x) && chk l (acc ||| (1 <<< x))
theorem chk_ok : ∀ (l : List Nat) (acc : Nat), chk l acc = true → l.Nodup ∧ ∀ x ∈ l, acc.testBit x = false
  | [], _, _ => ⟨.nil, by simp⟩
  | x :: l, acc, h => by
    simp only [chk, Bool.and_eq_true, Bool.not_eq_true'] at h
    obtain ⟨h1, h2⟩ := chk_ok l _ h.2
    refine ⟨List.nodup_cons.mpr ⟨fun hx => ?_, h1⟩, fun y hy => ?_⟩
    · have := h2 x hx
      rw [Nat.testBit_or, Nat.testBit_shiftLeft] at this
      simp at this
    · rcases List.mem_cons.mp hy with rfl | hy
      · exact h.1
      · have := h2 y hy
        rw [Nat.testBit_or] at this
        simp at this
        exact this.1
set_option maxRecDepth 1000000 in
theorem hashes_differ : chk ((univ 6 16).map fun p => (phHash p % 31231).toNat) 0 = true := by decide +kernel
theorem univ_mono {R n : Nat} (hR : R ≤ 6) (hn : n ≤ 16) {p : Ph} (h : PhOk R n p) : PhOk 6 16 p := ⟨by have := h.1; omega, h.2.1, fun x hx => by have := h.2.2 x hx; omega⟩
theorem nodup_of_map {α β : Type} (f : α → β) : ∀ {l : List α}, (l.map f).Nodup → ∀ {x y : α}, x ∈ l → y ∈ l → f x = f y → x = y
  | [], _, _, _, h, _, _ => nomatch h
  | a :: l, hn, x, y, hx, hy, e => by
    rw [List.map_cons, List.nodup_cons] at hn
    rcases List.mem_cons.mp hx with h1 | h1
    · rcases List.mem_cons.mp hy with h2 | h2
      · rw [h1, h2]
      · exact (hn.1 (List.mem_map.mpr ⟨y, h2, by rw [← e, h1]⟩)).elim
    · rcases List.mem_cons.mp hy with h2 | h2
      · exact (hn.1 (List.mem_map.mpr ⟨x, h1, by rw [e, h2]⟩)).elim
      · exact nodup_of_map f hn.2 h1 h2 e
theorem phHash_inj {p q : Ph} (hp : PhOk 6 16 p) (hq : PhOk 6 16 q) (e : phHash p = phHash q) : p = q :=
  nodup_of_map _ (chk_ok _ _ hashes_differ).1 (mem_univ hp) (mem_univ hq) (by rw [e])
theorem hashes_nodup (w : World) : ∀ {l : List Ph}, l.Nodup → (∀ p ∈ l, PhOk 6 16 p) → (l.map fun p => (phK p).hash w).Nodup
  | [], _, _ => .nil
  | p :: l, hn, h => by
    rw [List.nodup_cons] at hn
    rw [List.map_cons, List.nodup_cons]
    refine ⟨fun hm => ?_, hashes_nodup w hn.2 fun q hq => h q (List.mem_cons_of_mem _ hq)⟩
    obtain ⟨q, hq, e⟩ := List.mem_map.mp hm
    rw [hash_ph, hash_ph] at e
    have := phHash_inj (h q (List.mem_cons_of_mem _ hq)) (h p List.mem_cons_self) e
    exact hn.1 (this ▸ hq)

/-! ### ways of lone steps -/
def nxtS : List (Sg × Ph) → Option Ph
  | [(.one, q)] => some q
  | _ => none
def nxt (L : Nat) (t : List Item) (p : Ph) : Option Ph := nxtS (steps L t p)
def itr (L : Nat) (t : List Item) : Nat → Ph → Option Ph
  | 0, p => some p
  | n + 1, p => (itr L t n p).bind (nxt L t)
def NoRing (L : Nat) (t : List Item) : Prop := ∀ p, Rch L t p → ∀ n, itr L t (n + 1) p ≠ some p
theorem nxt_mem {L : Nat} {t : List Item} {p q : Ph} (h : nxt L t p = some q) : (Sg.one, q) ∈ steps L t p := by
  unfold nxt at h
  generalize steps L t p = l at h
  match l, h with
  | [(.one, r)], h =>
    cases h
    simp
theorem nxt_rch {L : Nat} {t : List Item} {p q : Ph} (r : Rch L t p) (h : nxt L t p = some q) : Rch L t q := .step r (nxt_mem h)
structure Wy (L : Nat) (t : List Item) (ws : List Ph) (ph : Option Ph) : Prop where
  nd : ws.Nodup
  rk : ∀ q ∈ ws, Rch L t q
  ok : ∀ p, ph = some p → Rch L t p ∧ ∀ q ∈ ws, ∃ n, itr L t (n + 1) q = some p
theorem Wy.init {L : Nat} {t : List Item} {p : Ph} (r : Rch L t p) : Wy L t [] (some p) := ⟨.nil, by simp, fun q e => by cases e; exact ⟨r, by simp⟩⟩
theorem Wy.not {L : Nat} {t : List Item} {ws : List Ph} {p : Ph} (h : Wy L t ws (some p)) (nr : NoRing L t) : p ∉ ws := fun hp => by
  obtain ⟨r, q⟩ := h.ok p rfl
  obtain ⟨n, e⟩ := q p hp
  exact nr p r n e
theorem Wy.step {L : Nat} {t : List Item} {ws : List Ph} {p : Ph} (h : Wy L t ws (some p)) (n : p ∉ ws) : Wy L t (ws ++ [p]) (nxt L t p) := by
  obtain ⟨r, q⟩ := h.ok p rfl
  refine ⟨nodup_snoc h.nd n, fun x hx => ?_, fun x e => ⟨nxt_rch r e, fun y hy => ?_⟩⟩
  · rcases List.mem_append.mp hx with s | s
    · exact h.rk x s
    · simp at s
      subst s
      exact r
  · rcases List.mem_append.mp hy with s | s
    · obtain ⟨m, hm⟩ := q y s
      exact ⟨m + 1, by show (itr L t (m + 1) y).bind (nxt L t) = some x; rw [hm]; exact e⟩
    · simp at s
      subst s
      exact ⟨0, e⟩
end G6

-- G6F_Ag
namespace G6
open PySem PySem.Spec PyProof.Rows L2
section
variable {P : Program} {w : World} {K : PySem.W.Frag} {mg : Str → Option Value} {base : Heap} {κ : Type} [DecidableEq κ] {H : Hp} {E : Enc κ}
theorem zk_nks : ∀ {kvs : List (κ × V)} {zs : List (NestedKey × Addr × V)}, ZK K H E kvs zs → NKs K H ((kvs.map (·.1)).map E.f) (zs.map fun z => V.ref z.2.1)
  | _, _, .nil => .nil
  | _, _, .cons r t => .cons (by rw [r.1]; exact r.2.1) (zk_nks t)
theorem NDr.src {d : Addr} {kvs : List (κ × V)} (h : NDr P w K H E d kvs) : ∃ xs, Src P w K H d xs ∧ NKs K H ((kvs.map (·.1)).map E.f) xs := by
  obtain ⟨h1, _, zs, h2, h3⟩ := h
  exact ⟨_, .inr (.inr (.inl ⟨h1, zs, h2, rfl⟩)), zk_nks h3⟩
theorem mergeN_len : ∀ (more kvs : List (κ × V)), (mergeN kvs more).length ≤ kvs.length + more.length
  | [], kvs => by simp [mergeN]
  | p :: more, kvs => by
    have := mergeN_len more (putK kvs p.1 p.2)
    have h2 := length_putK kvs p.1 p.2
    have e : mergeN kvs (p :: more) = mergeN (putK kvs p.1 p.2) more := rfl
    rw [e]
    simp only [List.length_cons]
    omega
/-- None or a phase -/
def PhV (K : PySem.W.Frag) (H : Hp) : Option Ph → V → Prop
  | none, v => v = .non
  | some p, v => NK K H (phK p) v
theorem PhV.tk {H' : Hp} (t : Tk H H') : ∀ {o : Option Ph} {v : V}, PhV K H o v → PhV K H' o v
  | none, _, h => h
  | some _, _, h => NK.tk t _ _ h
abbrev N_idle_ring : List Str := ["kept", "safe", "begin", "way", "phase", "steps", "other"]
theorem sc_idle_ring : FnScope N_idle_ring ["kept"] (defScope s_idle_ring) := ⟨rfl, rfl, rfl, by decide +kernel, rfl, by decide +kernel, by decide +kernel⟩
def sp_idle_ring (P : Program) (w : World) (K : PySem.W.Frag) : Sp := fun vs H Q _ => ∃ (d : Addr) (ks : List Ph) (t : List Item) (R L : Nat), vs = [.ref d] ∧ KD P w K H EP d ks (fun p => (steps L t p).map stepK) ∧ AllPh L t ks ∧ WF R L t ∧ NoRing L t ∧ ∀ H', Same H H' → Q .non H'
theorem f_idle_ring (c : Cn K mg) : C8.Cal P w K mg base 1 "idle_ring" (sp_idle_ring P w K) [] := by
  refine cal_of (N := N_idle_ring) c.g_idle_ring c.d_idle_ring sc_idle_ring (fun _ _ _ _ _ _ us hl => match us, hl with | [_], _ => rfl) (fun vs H Q E h => ?len) (fun cdv A outer s H vs Q E hr h => ?_)
  case len => obtain ⟨d, ks, t, R, L, rfl, _⟩ := h; rfl
  obtain ⟨d, ks, t, R, L, rfl, hd, all, wf, nr, q⟩ := h
  refine ⟨_, (pss_cons (ps_set (i := 1) sc_idle_ring.nd rfl (Or.inl rfl) (knnew P w))
      (pss_cons (ps_for PassesOwn.never rfl (kpi_list K (pe_callB (r := rSortN P w K) (kc_sorted P w K hr) (by rfl) c.z_sorted (by decide +kernel) (pa_cons (pv 0) pa_nil))) (pg_name (i := 2) sc_idle_ring.nd rfl (Or.inl rfl)) (pss_cons (ps_set (i := 3) sc_idle_ring.nd rfl (Or.inr rfl) (knnew P w))
      (pss_cons (ps_set (i := 4) sc_idle_ring.nd rfl (Or.inr rfl) (pv 2))
      (pss_cons (ps_while PassesOwn.never (PW.pt (pw_and (pt_cmp (pc_notN (pv 4))) (pw_and (pt_cmp (knnotin P w K EP hr (pv 4) (pv 1))) (pw_and1 (pt_cmp (knnotin P w K EP hr (pv 4) (pv 3))))))) (pss_cons (knput P w K EP hr (pv 3) (pv 4) (pe_callB (r := rLenD P w K EP) (kc_lenD P w K EP hr) (by rfl) c.z_len (by decide +kernel) (pa_cons (pv 3) pa_nil)))
      (pss_cons (ps_set (i := 5) sc_idle_ring.nd rfl (Or.inl rfl) (knget P w K EP hr (pv 0) (pv 4)))
      (pss_one (ps_set (i := 4) sc_idle_ring.nd rfl (Or.inr rfl) (pe_ifExp (PW.pt (pw_and (pt_cmpR op_eq (pe_callB (r := rLenA K) (kc_len K) (by rfl) c.z_len (by decide +kernel) (pa_cons (pv 5) pa_nil)) pe_int (nomark _)) (pw_and1 (pt_cmp (pc_isN (kixT K (kixL K (pv 5) pe_int) pe_int)))))) (kixT K (kixL K (pv 5) pe_int) pe_int) pe_non))))))
      (pss_cons (ps_if (PW.pt (pw_and (pt_cmp (pc_notN (pv 4))) (pw_and1 (pt_cmp (knin P w K EP hr (pv 4) (pv 3)))))) pss_never pss_nil)
      (pss_one (ps_expr (kupd P w K EP hr (pv 1) (pa_cons (pv 3) pa_nil)))))))))
      (pss_one (ps_ret pe_non)))), ?_⟩
  intro sd nsd hsys
  have s1 := same_new (o := NDo P w sd []) nsd
  have hd1 := hd.same s1
  obtain ⟨kvs, hkv, hks, hlv⟩ := hd1
  obtain ⟨xs, hsrc, hxs⟩ := hkv.src
  rw [hks] at hxs
  replace hxs : NKs K _ (ks.map phK) xs := hxs
  have hlen : ks.length ≤ 1024 := Nat.le_trans (all.len wf) wf.univ_le
  have hxl : xs.length = ks.length := by have := hxs.length; simpa using this
  refine ⟨_, rfl, d, xs, ks.map phK, rfl, hsrc, hxs, alk_ph ks, by rw [hxl]; exact sz _ (by omega), fun p np => ?_⟩
  obtain ⟨es, hperm, hes⟩ := sortN_out hxs (PySem.W.dataLe false fun b => b.1.data)
  generalize hys : (((ks.map phK).zip xs).mergeSort (PySem.W.dataLe false fun b => b.1.data)).map (·.2) = ys at hes
  refine ⟨p, rfl, ⟨ys, .inl (.inl upd_same)⟩, ?_⟩
  have s2 := Same.trans s1 (same_new (o := .lst ys) np)
  have hyl : ys.length = ks.length := by
    have h1 := hes.length
    have h2 := hperm.length_eq
    simp at h2
    omega
  have sdp : sd ≠ p := fun e => by subst e; rw [upd_same] at np; cases np
  have hes2 := NKs.tk (Tk.new (o := .lst ys) np) _ _ hes
  refine for_it (walk_list (xs := ys)) (fun i σ H1 => ∃ (sk : List (Ph × V)) (u2 u3 u4 u5 u6 : Option V), σ = [some (.ref d), some (.ref sd), u2, u3, u4, u5, u6] ∧ Same H H1 ∧ H1 p = some (.lst ys) ∧ NKs K H1 es ys ∧ ND P w K H1 EP sd sk ∧ sk.length ≤ 1024 * i) ?_ ?_ ?_ ?_
  · exact ⟨[], _, _, _, _, _, rfl, s2, upd_same, hes2, ND.empty hsys (by rw [upd_ne sdp]; exact upd_same), Nat.zero_le _⟩
  · rintro i σ H1 _ ⟨_, _, _, _, _, _, _, _, h, _⟩
    exact .inl (.inl h)
  · rintro i v σ H1 H1' hi ⟨sk, u2, u3, u4, u5, u6, rfl, sm, hp, hes1, hsd, hskl⟩ ⟨e1, ex⟩
    subst e1
    obtain ⟨k, hk1, hk2⟩ := hes1.getV ex
    have hkm : k ∈ ks.map phK := hperm.mem_iff.mp (List.mem_of_getElem? hk1)
    obtain ⟨b0, hb0, rfl⟩ := List.mem_map.mp hkm
    intro wd nwd hwsys
    have sdwd : sd ≠ wd := fun e => by
      subst e
      obtain ⟨o, ho⟩ := hsd.some
      rw [ho] at nwd
      cases nwd
    have pwd : p ≠ wd := fun e => by subst e; rw [hp] at nwd; cases nwd
    have swd := same_new (o := NDo P w wd []) nwd
    have Hwd : H wd = none := Same.free sm nwd
    have Hp' : H p = none := Same.free s1 np
    refine ⟨_, rfl, ?_⟩
    refine ⟨fun m σ H2 => ∃ (wk : List (Ph × V)) (ws : List Ph) (ph : Option Ph) (x : V) (u5 u6 : Option V), σ = [some (.ref d), some (.ref sd), some v, some (.ref wd), some x, u5, u6] ∧ Same H H2 ∧ H2 p = some (.lst ys) ∧ NKs K H2 es ys ∧ ND P w K H2 EP sd sk ∧ ND P w K H2 EP wd wk ∧ wk.map (·.1) = ws ∧ Wy L t ws ph ∧ PhV K H2 ph x ∧ m = 1025 - ws.length,
      ⟨_, [], [], some b0, v, _, _, rfl, Same.trans sm swd, swd _ _ hp, NKs.tk (Tk.same swd) _ _ hes1, hsd.same swd, ND.empty hwsys upd_same, rfl, Wy.init ((all.mem _).mp hb0), NK.tk (Tk.same swd) _ _ hk2, rfl⟩, ?_⟩
    rintro m σ H2 ⟨wk, ws, ph, x, u5, u6, rfl, sm2, hp2, hes2, hsd2, hwd2, hws, wy, hph, hm⟩
    have hwl : ws.length ≤ 1024 := Nat.le_trans (nodup_len wy.nd fun q hq => (all.mem q).mpr (wy.rk q hq)) hlen
    have okp : ∀ q ∈ ws, PhOk 6 16 q := fun q hq => univ_mono wf.r6 wf.n16 ((wy.rk q hq).ok wf)
    have fin : ∀ (x : V) (y5 y6 : Option V), rNUpd P w K EP w (.ref sd) (.ref wd) H2 fun _ H3 => ∃ (sk : List (Ph × V)) (u2 u3 u4 u5 u6 : Option V), [some (.ref d), some (.ref sd), some v, some (.ref wd), some x, y5, y6] = [some (.ref d), some (.ref sd), u2, u3, u4, u5, u6] ∧ Same H H3 ∧ H3 p = some (.lst ys) ∧ NKs K H3 es ys ∧ ND P w K H3 EP sd sk ∧ sk.length ≤ 1024 * (i + 1) := by
      intro x y5 y6
      have hwkl : wk.length = ws.length := by rw [← hws, List.length_map]
      refine ⟨sd, wd, sk, wk, rfl, rfl, sdwd, hsd2, hwd2.r, ?_, .inr ?_, fun o hno => ?_⟩
      · rw [hwkl]
        have : i < 1024 := by rw [hyl] at hi; omega
        exact Nat.le_trans (m := 1024 * 1024 + 1024) (by omega) (by decide)
      · have := hashes_nodup w wy.nd okp
        rw [← hws, List.map_map] at this
        exact this
      · have tk3 : Tk H2 (upd H2 sd o) := Tk.upd hsd2.not
        refine ⟨mergeN sk wk, some v, some (.ref wd), some x, y5, y6, rfl, Same.mut sm2 nsd, by rw [upd_ne (Ne.symm sdp)]; exact hp2, NKs.tk tk3 _ _ hes2, hno, ?_⟩
        have := mergeN_len wk sk
        rw [hwkl] at this
        omega
    cases ph with
    | none =>
      have hx : x = .non := hph
      subst hx
      refine ⟨_, rfl, false, rfl, iteF ?_⟩
      refine iteF ⟨_, rfl, false, rfl, iteF ?_⟩
      refine iteF ⟨_, rfl, ⟨sd, _, rfl, hsd2.r⟩, _, rfl, _, rfl, fin .non u5 u6⟩
    | some p0 =>
      have rp := (wy.ok p0 rfl).1
      have hin : p0 ∈ ks := (all.mem _).mpr rp
      have nin := wy.not nr
      obtain ⟨b, e, rfl, hb, he⟩ := ph_inv hph
      have hph' : NK K H2 (phK p0) (.ref b) := hph
      refine ⟨_, rfl, true, rfl, iteT ?_⟩
      refine ⟨_, rfl, _, rfl, sd, b, sk, p0, rfl, rfl, hsd2.r, hph', _, rfl, ?_⟩
      cases hsafe : (valV sk p0).isSome with
      | true =>
        refine iteF (iteF ?_)
        refine ⟨_, rfl, true, rfl, iteT ⟨_, rfl, _, rfl, wd, b, wk, p0, rfl, rfl, hwd2.r, hph', _, rfl, ?_⟩⟩
        rw [isSome_out hws nin]
        exact iteF ⟨_, rfl, ⟨sd, _, rfl, hsd2.r⟩, _, rfl, _, rfl, fin (.ref b) u5 u6⟩
      | false =>
        refine iteT ?_
        refine ⟨_, rfl, _, rfl, wd, b, wk, p0, rfl, rfl, hwd2.r, hph', _, rfl, ?_⟩
        rw [isSome_out hws nin]
        refine iteT ?_
        have hlt : ws.length < 1024 := by
          have := nodup_len (nodup_snoc wy.nd nin) (m := ks) (by
            intro q hq
            rcases List.mem_append.mp hq with h | h
            · exact (all.mem q).mpr (wy.rk q h)
            · simp at h
              subst h
              exact hin)
          simp at this
          omega
        refine ⟨fun σ' H' => ∃ m', m' < m ∧ _, fun σ' H' h => h, ?_⟩
        have hwkl : wk.length = ws.length := by rw [← hws, List.length_map]
        refine ⟨_, rfl, wd, wk, rfl, hwd2.r, _, rfl, _, rfl, wd, b, wk, p0, rfl, rfl, hwd2, hph', by rw [hwkl]; exact Nat.lt_of_lt_of_le hlt (by decide), fun ob hno => ?_⟩
        have tk3 : Tk H2 (upd H2 wd ob) := Tk.upd hwd2.not
        have sm3 : Same H (upd H2 wd ob) := Same.mut sm2 Hwd
        have hp3 : upd H2 wd ob p = some (.lst ys) := by rw [upd_ne pwd]; exact hp2
        obtain ⟨kv3, l, us, hkd, hval, hl, hus⟩ := (KD.same sm3 hd).get hin
        have hk := keys_put_new (kvs := wk) (k := p0) (v := .int ((wk.length : Nat) : Int)) (by rw [hws]; exact nin)
        refine ⟨_, rfl, _, rfl, d, b, kv3, p0, _, rfl, rfl, hkd, NK.tk tk3 _ _ hph', hval, ?_⟩
        have goOn : ∀ (x2 : V), PhV K (upd H2 wd ob) (nxt L t p0) x2 → ∃ m', m' < m ∧ ∃ (wk : List (Ph × V)) (ws : List Ph) (ph : Option Ph) (x : V) (u5' u6' : Option V), [some (.ref d), some (.ref sd), some v, some (.ref wd), some x2, some (.ref l), u6] = [some (.ref d), some (.ref sd), some v, some (.ref wd), some x, u5', u6'] ∧ Same H (upd H2 wd ob) ∧ upd H2 wd ob p = some (.lst ys) ∧ NKs K (upd H2 wd ob) es ys ∧ ND P w K (upd H2 wd ob) EP sd sk ∧ ND P w K (upd H2 wd ob) EP wd wk ∧ wk.map (·.1) = ws ∧ Wy L t ws ph ∧ PhV K (upd H2 wd ob) ph x ∧ m' = 1025 - ws.length := by
          intro x2 hx2
          refine ⟨_, ?_, _, ws ++ [p0], nxt L t p0, x2, _, _, rfl, sm3, hp3, NKs.tk tk3 _ _ hes2, hsd2.upd sdwd hwd2.not, hno, by rw [hk.1, hws], wy.step nin, hx2, rfl⟩
          simp only [List.length_append, List.length_singleton]
          omega
        have hul : us.length = (steps L t p0).length := by have := hus.length; simpa using this
        have hnx : nxt L t p0 = nxtS (steps L t p0) := rfl
        refine ⟨_, rfl, _, _, rfl, .inl (.inl (.inl hl)), rfl, _, rfl, ?_⟩
        rw [hul]
        generalize hst : steps L t p0 = st at hus hul hnx
        match st, hst with
        | [], _ => exact iteF (iteF (goOn _ (by rw [hnx]; rfl)))
        | [x0], _ =>
          refine iteT ?_
          cases hus with
          | cons hx0 hnil =>
            cases hnil
            obtain ⟨ta, u, z, rfl, h1, h2, h3⟩ := step_snd hx0
            refine ⟨_, rfl, l, _, _, _, rfl, rfl, .inl (.inl hl), rfl, ta, _, _, _, rfl, rfl, h1, rfl, ?_⟩
            obtain ⟨sg, q0⟩ := x0
            cases sg with
            | one =>
              have : u = .non := by cases h2; rfl
              subst this
              refine ⟨true, rfl, iteT ?_⟩
              refine ⟨_, rfl, l, _, _, _, rfl, rfl, .inl (.inl hl), rfl, ta, _, _, _, rfl, rfl, h1, rfl, goOn _ ?_⟩
              rw [hnx]
              exact h3
            | lt k =>
              have : u = .str (letterS k) := by cases h2; rfl
              subst this
              exact ⟨false, rfl, iteF (goOn _ (by rw [hnx]; rfl))⟩
            | fin =>
              have : u = .str "end" := by cases h2; rfl
              subst this
              exact ⟨false, rfl, iteF (goOn _ (by rw [hnx]; rfl))⟩
        | x0 :: x1 :: r, _ =>
          have : (decide (V.int (((x0 :: x1 :: r).length : Nat) : Int) = V.int 1)) = false := by
            refine decide_eq_false fun e => ?_
            injection e with e
            simp only [List.length_cons] at e
            omega
          rw [this]
          refine iteF (iteF (goOn _ ?_))
          rw [hnx]
          obtain ⟨sg, q0⟩ := x0
          cases sg <;> rfl
  · rintro σ H1 ⟨sk, u2, u3, u4, u5, u6, rfl, sm, hp, hes1, hsd, hskl⟩
    exact q _ sm
end
end G6

-- G6F_Ah
namespace G6
open PySem PySem.Spec PyProof.Rows L2
section
variable {P : Program} {w : World} {K : PySem.W.Frag} {mg : Str → Option Value} {base : Heap}
theorem met_of {C f : Addr} {m q : Str} {st : Stmt} {N ps : List Str} {k : Nat} {sp : Sp} (c : Cls K C) (me : Meth K C m f) (F : ∃ fd, FnQ K m q st f fd) (S : FnScope N ps (defScope st))
    (hb : ∀ (kV doc pm : Value) (an : Option Addr) (cdv ct : Value) (us : List Value), us.length = ps.length → bindArgs (PySem.W.fnOf m q (defArgs st) (defBody st) (defScope st) .none kV doc pm an cdv ct) ⟨us, []⟩ = pure (ps.zip us))
    (len : ∀ vs H Q E, sp vs H Q E → vs.length = ps.length)
    (hbody : ∀ (cdv : Value) (A : Around) (outer : List Env) (s : Shared) (H : Hp) (vs : List V) (Q : VK) (E : XK), Room k (A.deeper (envOfC q (defScope st) s.heap.objs.size f cdv)) → sp vs H Q E →
      ∃ t, PSs (cxOf CX0 P w K mg base N q (defScope st) f cdv A outer s H E).nox (defBody st) t ∧ t { nx := fun _ H' => Q .non H', rt := Q } (start N vs) H) : C8.Met P w K mg base (k + 1) C m sp [] := by
  obtain ⟨fd, F⟩ := F
  refine ⟨f, fd, ps, [], c, me, F.ok S len fun cdv A outer s H vs Q E hr h => ?_, F.bindsN hb, .nil⟩
  obtain ⟨t, h1, h2⟩ := hbody cdv A outer s H vs Q E hr h
  exact ⟨t, h1.nox, h2⟩
theorem mak_of {C f : Addr} {x q : Str} {st : Stmt} {N ps : List Str} {k : Nat} {sp : Sp} (M : Mk K C f) (hm : mg x = some (.ref C)) (F : ∃ fd, FnQ K "__init__" q st f fd) (S : FnScope N ps (defScope st))
    (hb : ∀ (kV doc pm : Value) (an : Option Addr) (cdv ct : Value) (us : List Value), us.length = ps.length → bindArgs (PySem.W.fnOf "__init__" q (defArgs st) (defBody st) (defScope st) .none kV doc pm an cdv ct) ⟨us, []⟩ = pure (ps.zip us))
    (len : ∀ vs H Q E, sp vs H Q E → vs.length = ps.length)
    (hbody : ∀ (cdv : Value) (A : Around) (outer : List Env) (s : Shared) (H : Hp) (vs : List V) (Q : VK) (E : XK), Room k (A.deeper (envOfC q (defScope st) s.heap.objs.size f cdv)) → sp vs H Q E →
      ∃ t, PSs (cxOf CX0 P w K mg base N q (defScope st) f cdv A outer s H E).nox (defBody st) t ∧ t { nx := fun _ H' => Q .non H', rt := Q } (start N vs) H) : C8.Mak P w K mg base (k + 1) x C sp [] := by
  obtain ⟨fd, F⟩ := F
  refine ⟨f, fd, ps, [], M, F.ok S len fun cdv A outer s H vs Q E hr h => ?_, hm, F.bindsN hb, .nil⟩
  obtain ⟨t, h1, h2⟩ := hbody cdv A outer s H vs Q E hr h
  exact ⟨t, h1.nox, h2⟩
/-- a plan stands at x -/
def PlanAt (P : Program) (w : World) (K : PySem.W.Frag) (H : Hp) (x : Addr) (R L : Nat) (t : List Item) (ks : List Ph) : Prop :=
  ∃ dx a d ws, H x = some (.ins (He.ga K "Plan") dx [("rows", .int (R : Int)), ("letters", .int (L : Int)), ("table", .ref a), ("kept_phases", .ref d)]) ∧ SqT K H a ws ∧ NKs K H (t.map itemK) ws ∧ KM P w K H EP d ks (fun p => (steps L t p).map stepK) ∧ AllPh L t ks
theorem PlanAt.same {H H' : Hp} {x : Addr} {R L : Nat} {t : List Item} {ks : List Ph} (s : Same H H') : PlanAt P w K H x R L t ks → PlanAt P w K H' x R L t ks :=
  fun ⟨dx, a, d, ws, h1, h2, h3, h4, h5⟩ => ⟨dx, a, d, ws, s _ _ h1, sqT s h2, NKs.tk (Tk.same s) _ _ h3, h4.same s, h5⟩
theorem putF_len (f : Str) (v : V) : ∀ fs : List (Str × V), (putF f v fs).length ≤ fs.length + 1
  | [] => by simp [putF]
  | (g, x) :: r => by
    unfold putF
    split
    · simp
    · have := putF_len f v r
      simp only [List.length_cons]
      omega
theorem plan_fs (v1 v2 v3 v4 : V) : putF "kept_phases" v4 (putF "table" v3 (putF "letters" v2 (putF "rows" v1 []))) = ([(("rows" : Str), v1), ("letters", v2), ("table", v3), ("kept_phases", v4)] : List (Str × V)) := by
  have h1 : ¬ (("rows" : Str) = "letters") := by decide +kernel
  have h2 : ¬ (("rows" : Str) = "table") := by decide +kernel
  have h3 : ¬ (("rows" : Str) = "kept_phases") := by decide +kernel
  have h4 : ¬ (("letters" : Str) = "table") := by decide +kernel
  have h5 : ¬ (("letters" : Str) = "kept_phases") := by decide +kernel
  have h6 : ¬ (("table" : Str) = "kept_phases") := by decide +kernel
  simp only [putF, if_neg h1, if_neg h2, if_neg h3, if_neg h4, if_neg h5, if_neg h6]
abbrev N_keep : List Str := ["self", "rows", "letters", "table", "kept", "ring"]
theorem sc_keep : FnScope N_keep ["self", "rows", "letters", "table"] (defScope s_keep) := ⟨rfl, rfl, rfl, by decide +kernel, rfl, by decide +kernel, by decide +kernel⟩
def sp_keep (P : Program) (w : World) (K : PySem.W.Frag) : Sp := fun vs H Q _ => ∃ (x dx a : Addr) (ws : List V) (t : List Item) (R L : Nat), vs = [.ref x, .int (R : Int), .int (L : Int), .ref a] ∧ H x = some (.ins (He.ga K "Plan") dx []) ∧ SqT K H a ws ∧ NKs K H (t.map itemK) ws ∧ WF R L t ∧ NoRing L t ∧
  ∀ ks H', SB (· = x) H H' → PlanAt P w K H' x R L t ks → Q .non H'
theorem f_keep (c : Cn K mg) : C8.Met P w K mg base 4 (He.ga K "Plan") "keep" (sp_keep P w K) [] := by
  have h_all_steps := f_all_steps (P := P) (w := w) (base := base) c
  have h_idle_ring := f_idle_ring (P := P) (w := w) (base := base) c
  refine met_of (N := N_keep) c.cPlan c.mKeep c.dKeep sc_keep (fun _ _ _ _ _ _ us hl => match us, hl with | [_, _, _, _], _ => rfl) (fun vs H Q E h => ?len) (fun cdv A outer s H vs Q E hr h => ?_)
  case len => obtain ⟨x, dx, a, ws, t, R, L, rfl, _⟩ := h; rfl
  obtain ⟨x, dx, a, ws, t, R, L, rfl, hx, ha, hw, wf, nr, q⟩ := h
  refine ⟨_, (pss_cons (ps_set (i := 4) sc_keep.nd rfl (Or.inl rfl) (C8.pe_c h_all_steps hr (by decide) (by rfl) (pa_cons (pv 2) (pa_cons (pv 3) pa_nil))))
      (pss_cons (ps_set (i := 5) sc_keep.nd rfl (Or.inl rfl) (C8.pe_c h_idle_ring hr (by decide) (by rfl) (pa_cons (pv 4) pa_nil)))
      (pss_cons (ps_if (pt_cmp (pc_notN (pv 5))) (pss_one (ps_never)) pss_nil)
      (pss_cons (kps_fld K (pv 0) (pv 1))
      (pss_cons (kps_fld K (pv 0) (pv 2))
      (pss_cons (kps_fld K (pv 0) (pv 3))
      (pss_one (kps_fld K (pv 0) (pv 4))))))))), ?_⟩
  refine ⟨_, rfl, _, rfl, a, ws, t, R, L, rfl, ha, hw, wf, fun d ks H1 s1 nd all km => ?_⟩
  refine ⟨_, rfl, d, ks, t, R, L, rfl, km.r, all, wf, nr, fun H2 s2 => ?_⟩
  refine ⟨_, rfl, false, rfl, iteF ?_⟩
  have s12 := Same.trans s1 s2
  have hx2 := s12 _ _ hx
  have hC := c.cPlan
  have nx : ∀ b, b = x → NoT (H2 b) := fun b e => by subst e; rw [hx2]; exact True.intro
  have nx0 : ∀ b, b = x → NoT (H b) := fun b e => by subst e; rw [hx]; exact True.intro
  refine ⟨_, rfl, _, rfl, x, _, _, _, rfl, hx2, hC, c.nRows, by decide, ?_⟩
  have l1 := putF_len "rows" (.int (R : Int)) []
  have l2 := putF_len "letters" (.int (L : Int)) (putF "rows" (.int (R : Int)) [])
  have l3 := putF_len "table" (.ref a) (putF "letters" (.int (L : Int)) (putF "rows" (.int (R : Int)) []))
  simp only [List.length_nil] at l1
  refine ⟨_, rfl, _, rfl, x, _, _, _, rfl, upd_same, hC, c.nLetters, by omega, ?_⟩
  refine ⟨_, rfl, _, rfl, x, _, _, _, rfl, upd_same, hC, c.nTable, by omega, ?_⟩
  refine ⟨_, rfl, _, rfl, x, _, _, _, rfl, upd_same, hC, c.nKept, by omega, ?_⟩
  have dne : ¬ d = x := fun e => by rw [e, hx] at nd; cases nd
  obtain ⟨kvs, h1, h2, h3⟩ := km.same s2
  have fin : ∀ H9, SB (· = x) H2 H9 → H9 x = some (.ins (He.ga K "Plan") dx [("rows", .int (R : Int)), ("letters", .int (L : Int)), ("table", .ref a), ("kept_phases", .ref d)]) → Q .non H9 := by
    intro H9 sb e9
    refine q ks _ (SB.pre s12 sb nx0) ⟨_, a, d, ws, e9, sb.tk.sqt (sqT s12 ha), NKs.tk sb.tk _ _ (NKs.tk (Tk.same s12) _ _ hw), ⟨kvs, sb.nd dne h1, h2, ?_⟩, all⟩
    intro qq hqq
    obtain ⟨l, us, e, nw, g1, g2⟩ := h3 qq hqq
    exact ⟨l, us, e, nw, sb.out _ _ (fun e => by rw [e, hx2] at g1; cases g1) g1, NKs.tk sb.tk _ _ g2⟩
  refine fin _ ?_ (by rw [← plan_fs]; exact upd_same)
  exact ((((SB.refl nx).upd rfl).upd rfl).upd rfl).upd rfl
abbrev N_init : List Str := ["self", "rows", "letters", "table", "item"]
theorem sc_init : FnScope N_init ["self", "rows", "letters", "table"] (defScope s_init) := ⟨rfl, rfl, rfl, by decide +kernel, rfl, by decide +kernel, by decide +kernel⟩
theorem f_Plan (c : Cn K mg) : C8.Mak P w K mg base 5 "Plan" (He.ga K "Plan") (sp_keep P w K) [] := by
  have h_is_within := f_is_within (P := P) (w := w) (base := base) c
  have h_is_item := f_is_item (P := P) (w := w) (base := base) c
  have h_keep := f_keep (P := P) (w := w) (base := base) c
  refine mak_of (N := N_init) c.mkPlan c.gPlan c.dInit sc_init (fun _ _ _ _ _ _ us hl => match us, hl with | [_, _, _, _], _ => rfl) (fun vs H Q E h => ?len) (fun cdv A outer s H vs Q E hr h => ?_)
  case len => obtain ⟨x, dx, a, ws, t, R, L, rfl, _⟩ := h; rfl
  obtain ⟨x, dx, a, ws, t, R, L, rfl, hx, ha, hw, wf, nr, q⟩ := h
  refine ⟨_, (pss_cons (ps_if (pt_not (pt_val (C8.pe_c h_is_within hr (by decide) (by rfl) (pa_cons (pv 1) (pa_cons pe_int (pa_cons (pe_glob (v := .int 6) (by rfl) c.iRows.choose_spec ⟨_, rfl⟩) pa_nil)))))) (pss_one (ps_never)) pss_nil)
      (pss_cons (ps_if (pt_not (pt_val (C8.pe_c h_is_within hr (by decide) (by rfl) (pa_cons (pv 2) (pa_cons pe_int (pa_cons (pe_callB (r := rLenS1) kc_lenS (by rfl) c.z_len (by decide +kernel) (pa_cons (pe_glob (v := .str "abc") (by rfl) c.sLetters.choose_spec ⟨_, rfl⟩) pa_nil)) pa_nil)))))) (pss_one (ps_never)) pss_nil)
      (pss_cons (ps_if (PW.pt (pw_or (pt_not (pt_val (pe_callB (r := rIsi K) (kc_isi K) (by rfl) c.z_isinstance (by decide +kernel) (pa_cons (pv 3) (pa_cons (pe_bltn (v := .ty "tuple") (by rfl) c.z_tuple (by decide +kernel) rfl) pa_nil))))) (pw_or1 (pt_not (pt_chain op_le op_le pe_int (pe_callB (r := rLenA K) (kc_len K) (by rfl) c.z_len (by decide +kernel) (pa_cons (pv 3) pa_nil)) (pe_glob (v := .int 30) (by rfl) c.iStandings.choose_spec ⟨_, rfl⟩)))))) (pss_one (ps_never)) pss_nil)
      (pss_cons (ps_if (pt_not (pt_val (pe_callB (r := rAll K) (kc_all K) (by rfl) c.z_all (by decide +kernel) (pa_cons (pe_lc (own := [("item", 4)]) (g := gName 4) (tt := tYes) rfl sc_init.nd (kpi_tup K (pv 3)) (blkOk_by (own := [("item", 4)]) (N := N_init) (sc := defScope s_init) (by decide +kernel)) (fun _ _ _ _ _ => (pg_name (i := 4) sc_init.nd rfl (Or.inl rfl))) (fun _ _ _ _ _ => pts_nil) (fun _ _ _ _ _ => (C8.pe_c h_is_item hr (by decide) (by rfl) (pa_cons (pv 4) (pa_cons (pv 1) (pa_cons (pv 2) (pa_cons (pe_callB (r := rLenA K) (kc_len K) (by rfl) c.z_len (by decide +kernel) (pa_cons (pv 3) pa_nil)) pa_nil))))))) pa_nil)))) (pss_one (ps_never)) pss_nil)
      (pss_one (ps_expr (C8.pe_mt h_keep hr (by decide) (pv 0) (pa_cons (pv 1) (pa_cons (pv 2) (pa_cons (pv 3) pa_nil)))))))))), ?_⟩
  have hwl : ws.length = t.length := by have := hw.length; simpa using this
  refine ⟨_, rfl, _, _, _, rfl, by have := wf.r1; omega, by have := wf.r6; omega, true, rfl, iteF ?_⟩
  refine ⟨_, rfl, _, rfl, by decide +kernel, _, _, _, rfl, by have := wf.l1; omega, ?_, true, rfl, iteF ?_⟩
  · have h3 : ("abc" : Str).length = 3 := by decide +kernel
    rw [h3]
    have := wf.l2
    omega
  refine ⟨_, rfl, _, _, _, _, true, rfl, .ty _, tyx_tup ha, kit_ty (by decide +kernel), true, rfl, iteF ⟨_, rfl, _, _, rfl, .inr ha, _, _, rfl, rfl, true, congrArg V.bl (decide_eq_true (by have := wf.n1; omega)), iteT ⟨_, _, rfl, rfl, true, congrArg V.bl (decide_eq_true (by have := wf.n16; omega)), iteF ?_⟩⟩⟩
  refine ⟨_, rfl, _, rfl, ⟨_, ha⟩, fun D hD => ?_⟩
  refine lc_map walk_tup (fun _ y _ => y = .bl true) hD (by rw [hwl]; exact sz _ (by have := wf.n16; omega)) (fun H1 s1 => sqT s1 ha) (fun i H x H' y => by rw [y.1]; exact Same.refl _) (fun i y H H' _ e => e) (fun i y H _ _ _ e => e) ?_ (mono_name _) ?_
  · intro i x H1 H2 hi sm _ ⟨e, ex⟩ Qy hy
    subst e
    obtain ⟨k, hk1, hk2⟩ := (NKs.tk (Tk.same sm) _ _ hw).getV ex
    rw [List.getElem?_map] at hk1
    have hit : i < t.length := by omega
    rw [List.getElem?_eq_getElem hit] at hk1
    cases hk1
    refine ⟨rfl, _, rfl, _, rfl, _, rfl, _, rfl, _, _, rfl, .inr (sqT sm ha), _, t[i], R, L, t.length, by rw [hwl]; rfl, hk2, wf.ok _ (List.getElem_mem hit), wf.l2, fun H3 s3 => hy _ _ s3 rfl⟩
  · intro H1 ys sm hys hp
    have hyl : ys = (List.replicate t.length true).map V.bl := by
      have hl2 := Paired.length hp
      rw [List.length_range, hwl] at hl2
      refine List.ext_getElem? fun j => ?_
      by_cases hj : j < t.length
      · obtain ⟨b, hb, r⟩ := paired_get (i := j) (a := j) hp (by rw [hwl, List.getElem?_range hj])
        rw [hb, r]
        simp [hj]
      · rw [List.getElem?_eq_none (by omega), List.getElem?_eq_none (by simp; omega)]
    refine ⟨D, List.replicate t.length true, rfl, .inl (.inl (by rw [← hyl]; exact hys)), true, ?_, iteF ?_⟩
    · have : (List.replicate t.length true).all id = true := by simp
      rw [this]
    · have hx1 := sm _ _ hx
      refine ⟨_, rfl, x, dx, [], rfl, hx1, rfl, _, rfl, _, rfl, _, rfl, x, dx, a, ws, t, R, L, rfl, hx1, sqT sm ha, NKs.tk (Tk.same sm) _ _ hw, wf, nr, fun ks H2 sb pl => ?_⟩
      exact q ks H2 (SB.pre sm sb (fun b e => by subst e; rw [hx]; exact True.intro)) pl
end
end G6

-- G6Ll
namespace G6
open PySem PySem.Spec PyProof.Rows L2
section
variable {P : Program} {w : World} {K : PySem.W.Frag} {d : Addr} {o : Obj} {zs : List (NestedKey × Addr × V)}
theorem walk_nd : Walk (Itn P w d o zs) zs.length (fun H => H d = some (.frz o (NDo P w d zs))) (fun i H x H' => H' = H ∧ ∃ z, zs[i]? = some z ∧ x = .ref z.2.1) :=
  ⟨fun _ _ hi q => ⟨q, hi⟩, fun _ q => ⟨q, Nat.le_refl _⟩, fun _ _ _ _ _ _ y => y⟩
variable {κ : Type} [DecidableEq κ] {E : Enc κ} {J : It} {n : Nat} {G : Hp → Prop} {Y : Nat → Hp → V → Hp → Prop}
/-- a dict comprehension that only adds -/
theorem nc_all (wk : Walk J n G Y) {g : TG} {tk tv : TE} {vs : List Nat} {σ : L2.St} {H1 : Hp} {D : Addr} {Qd : Hp → Prop} (kf : List κ) (hkf : kf.length = n) (hnd : kf.Nodup) (R : List V → Nat → V → Hp → Prop) (hD : H1 D = none) (hsys : (D == sysModules) = false) (hz : n ≤ sizeLine)
    (hG : ∀ H, Same H1 H → G H) (hY : ∀ i H x H', Y i H x H' → Same H H')
    (hRs : ∀ pr i y H H', Same H H' → R pr i y H → R pr i y H') (hRu : ∀ pr i y H o, NoT (H D) → (∀ us, H D ≠ some (.lst us)) → R pr i y H → R pr i y (upd H D o))
    (hs : ∀ i k x H H' kvs, i < n → kf[i]? = some k → Same H1 H → ND P w K H E D kvs → kvs.map (·.1) = kf.take i → (∀ j q, kvs[j]? = some q → R ((kvs.take j).map (·.2)) j q.2 H) → Y i H x H' → ∀ (Qy : V → V → Hp → Prop),
      (∀ b z H5, Same H' H5 → NK K H5 (E.f k) (.ref b) → R (kvs.map (·.2)) i z H5 → Qy (.ref b) z H5) →
      g x (wipe σ vs) H' fun σ2 H2 => wipe σ2 vs = wipe σ vs ∧ tk σ2 H2 fun y H4 => tv σ2 H4 fun z H5 => Qy y z H5)
    (hd : ∀ H kvs, Same H1 H → ND P w K H E D kvs → kvs.map (·.1) = kf → (∀ j q, kvs[j]? = some q → R ((kvs.take j).map (·.2)) j q.2 H) → Qd H) :
    ∃ W : Nat → Nat → Hp → Prop, (∃ m, W 0 m (upd H1 D (NDo P w D []))) ∧ ∀ i m H, W i m H →
      (J.stop i H ∧ Qd H) ∨ (J.go i H ∧ ∃ Nx : Hp → Prop, (∀ H', Nx H' → ∃ m', m' < m ∧ W (i + 1) m' H') ∧ ∀ x H', J.yld i H x H' → g x (wipe σ vs) H' fun σ2 H2 => wipe σ2 vs = wipe σ vs ∧ tk σ2 H2 fun y H4 => tv σ2 H4 fun z H5 =>
        ∃ b kvs k, y = .ref b ∧ ND P w K H5 E D kvs ∧ NK K H5 (E.f k) (.ref b) ∧ kvs.length < sizeLine ∧ ∀ o, ND P w K (upd H5 D o) E D (putK kvs k z) → Nx (upd H5 D o)) := by
  let Pv : Nat → Hp → Prop := fun i H => Same H1 H ∧ ∃ kvs, ND P w K H E D kvs ∧ kvs.map (·.1) = kf.take i ∧ ∀ j q, kvs[j]? = some q → R ((kvs.take j).map (·.2)) j q.2 H
  refine ⟨fun i m H => m = n - i ∧ i ≤ n ∧ Pv i H, ⟨n, by simp, Nat.zero_le _, same_new hD, [], ND.empty hsys upd_same, rfl, by simp⟩, ?_⟩
  rintro i m H ⟨rfl, hi, sm, kvs, hn, hk, hr⟩
  have q := hG H sm
  by_cases hlt : i < n
  · refine .inr ⟨wk.goes i H hlt q, Pv (i + 1), fun H' p' => ⟨n - (i + 1), by omega, rfl, hlt, p'⟩, fun x H' y => ?_⟩
    have hy := wk.yields i H x H' hlt q y
    have s1 := hY _ _ _ _ hy
    have hki : kf[i]? = some (kf[i]'(by omega)) := List.getElem?_eq_getElem (by omega)
    have hkl : kvs.length = i := by
      have := congrArg List.length hk
      rw [List.length_map, List.length_take] at this
      omega
    refine hs i _ x H H' kvs hlt hki sm hn hk hr hy _ ?_
    intro b z H5 s5 hb rz
    have sA := Same.trans s1 s5
    have hn5 := hn.same sA
    refine ⟨b, kvs, kf[i]'(by omega), rfl, hn5, hb, by rw [hkl]; omega, fun o hn6 => ?_⟩
    have hnk : kf[i]'(by omega) ∉ kvs.map (·.1) := by
      rw [hk]
      intro hm
      obtain ⟨j, hj, e⟩ := List.mem_take_iff_getElem.mp hm
      have hj' : j < i := by omega
      have := List.pairwise_iff_getElem.mp hnd j i (by omega) (by omega) hj'
      exact this e
    have hput : putK kvs (kf[i]'(by omega)) z = kvs ++ [(kf[i]'(by omega), z)] := putK_new z (valV_none hnk)
    rw [hput] at hn6
    have hnot : ∀ us, H5 D ≠ some (.lst us) := fun us e => by
      obtain ⟨_, _, zs, hzs, _⟩ := hn5
      rw [hzs] at e
      cases e
    refine ⟨Same.mut (Same.trans sm sA) hD, _, hn6, ?_, ?_⟩
    · rw [List.map_append, hk, List.take_succ, hki]
      rfl
    · intro j p hp
      by_cases hj : j < kvs.length
      · rw [List.getElem?_append_left hj] at hp
        rw [List.take_append_of_le_length (by omega)]
        exact hRu _ _ _ _ _ hn5.not hnot (hRs _ _ _ _ _ sA (hr j p hp))
      · have hj2 : j = kvs.length := by
          have := (List.getElem?_eq_some_iff.mp hp).1
          simp at this
          omega
        subst hj2
        simp at hp
        subst hp
        rw [List.take_left']
        · rw [hkl]
          exact hRu _ _ _ _ _ hn5.not hnot rz
        · rfl
  · have e : i = n := by omega
    subst e
    refine .inl ⟨wk.stops H q, hd H kvs sm hn ?_ hr⟩
    rw [hk, List.take_of_length_le (by omega)]
end
end G6

-- G6F_Ai
namespace G6
open PySem PySem.Spec PyProof.Rows L2
abbrev scLines : Scope := { kind := ScopeKind.function, names := [(".0", NameKind.local), ("phase", NameKind.local), ("plan", NameKind.cell)], isGenerator := false, isCoroutine := false }
def evK : Item → Sg → NestedKey
  | .look _ _, .one => .none
  | .look r _, .lt k => .tup [.text "look", num r, sgK (.lt k)]
  | .look r _, .fin => .tup [.text "look", num r, sgK .fin]
  | .say w _, _ => .tup [.text "say", .text (wordS w)]
  | .stop, _ => .tup [.text "stop"]
section
variable {P : Program} {w : World} {K : PySem.W.Frag} {mg : Str → Option Value} {base : Heap}
abbrev N_event_of : List Str := ["plan", "phase", "sign", "item"]
theorem sc_event_of : FnScope N_event_of ["plan", "phase", "sign"] (defScope s_event_of) := ⟨rfl, rfl, rfl, by decide +kernel, rfl, by decide +kernel, by decide +kernel⟩
def sp_event_of (P : Program) (w : World) (K : PySem.W.Frag) : Sp := fun vs H Q _ => ∃ (x : Addr) (v s : V) (t : List Item) (R L : Nat) (ks : List Ph) (p : Ph) (g : Sg), vs = [.ref x, v, s] ∧ PlanAt P w K H x R L t ks ∧ NK K H (phK p) v ∧ NK K H (sgK g) s ∧ p.1 < t.length ∧
  ∀ z H', Same H H' → NK K H' (evK (itemAt t p.1) g) z → Q z H'
theorem f_event_of (c : Cn K mg) : C8.Cal P w K mg base 1 "event_of" (sp_event_of P w K) [] := by
  refine cal_of (N := N_event_of) c.g_event_of c.d_event_of sc_event_of (fun _ _ _ _ _ _ us hl => match us, hl with | [_, _, _], _ => rfl) (fun vs H Q E h => ?len) (fun cdv A outer s H vs Q E hr h => ?_)
  case len => obtain ⟨x, v, s, t, R, L, ks, p, g, rfl, _⟩ := h; rfl
  obtain ⟨x, v, sv, t, R, L, ks, p, g, rfl, ⟨dx, a, d, ws, hx, ha, hw, km, all⟩, hp, hs, hm, q⟩ := h
  refine ⟨_, (pss_cons (ps_set (i := 3) sc_event_of.nd rfl (Or.inl rfl) (kixT K (kfld K (pv 0)) (kixT K (pv 1) pe_int)))
      (pss_cons (ps_if (pt_cmpR op_eq (kixT K (pv 3) pe_int) pe_str (nomark _)) (pss_one (ps_ret (pe_ifExp (pt_cmp (pc_isN (pv 2))) pe_non (pe_tup (pa_cons pe_str (pa_cons (kixT K (pv 3) pe_int) (pa_cons (pv 2) pa_nil))))))) pss_nil)
      (pss_one (ps_ret (pe_ifExp (pt_cmpR op_eq (kixT K (pv 3) pe_int) pe_str (nomark _)) (pe_tup (pa_cons pe_str (pa_cons (kixT K (pv 3) pe_int) pa_nil))) (pe_tup (pa_cons pe_str pa_nil))))))), ?_⟩
  obtain ⟨b, e, rfl, hb, he⟩ := ph_inv hp
  obtain ⟨iv, hiv, hit⟩ := item_get hw hm
  refine ⟨_, rfl, x, _, _, _, _, rfl, hx, c.cPlan, c.nTable, rfl, _, rfl, _, _, _, _, rfl, rfl, hb, rfl, _, _, _, _, rfl, rfl, ha, hiv, ?_⟩
  generalize itemAt t p.1 = it at hit q
  cases it with
  | look r ns =>
    obtain ⟨ia, nb, rfl, h1, h2⟩ := look_inv hit
    refine ⟨_, rfl, _, _, _, _, rfl, rfl, h1, rfl, rfl, true, rfl, iteT ?_⟩
    cases g with
    | one =>
      have : sv = .non := by cases hs; rfl
      subst this
      exact ⟨_, rfl, true, rfl, iteT (q _ _ (Same.refl _) .non)⟩
    | lt k =>
      have : sv = .str (letterS k) := by cases hs; rfl
      subst this
      exact ⟨_, rfl, false, rfl, iteF ⟨_, rfl, _, _, _, _, rfl, rfl, h1, rfl, _, rfl, sz 3 (by decide), fun t1 n1 => q _ _ (same_new n1) (three_mk (.inl (.inl upd_same)) (.text _) (.num _) (.text _))⟩⟩
    | fin =>
      have : sv = .str "end" := by cases hs; rfl
      subst this
      exact ⟨_, rfl, false, rfl, iteF ⟨_, rfl, _, _, _, _, rfl, rfl, h1, rfl, _, rfl, sz 3 (by decide), fun t1 n1 => q _ _ (same_new n1) (three_mk (.inl (.inl upd_same)) (.text _) (.num _) (.text _))⟩⟩
  | say m k =>
    obtain ⟨ia, rfl, h1⟩ := say_inv hit
    refine ⟨_, rfl, _, _, _, _, rfl, rfl, h1, rfl, rfl, false, rfl, iteF ?_⟩
    refine ⟨_, rfl, _, _, _, _, rfl, rfl, h1, rfl, rfl, true, rfl, iteT ?_⟩
    exact ⟨_, rfl, _, _, _, _, rfl, rfl, h1, rfl, sz 2 (by decide), fun t1 n1 => q _ _ (same_new n1) (two_mk (.inl (.inl upd_same)) (.text _) (.text _))⟩
  | stop =>
    obtain ⟨ia, rfl, h1⟩ := stop_inv hit
    refine ⟨_, rfl, _, _, _, _, rfl, rfl, h1, rfl, rfl, false, rfl, iteF ?_⟩
    refine ⟨_, rfl, _, _, _, _, rfl, rfl, h1, rfl, rfl, false, rfl, iteF ?_⟩
    exact ⟨sz 1 (by decide), fun t1 n1 => q _ _ (same_new n1) (.tup (.inl (.inl upd_same)) (.cons (.text _) .nil))⟩
abbrev N_lines_of : List Str := ["plan", "phase", "sign", "there"]
theorem sc_lines_of : FnScope N_lines_of ["plan"] (defScope s_lines_of) := ⟨rfl, rfl, rfl, by decide +kernel, rfl, by decide +kernel, by decide +kernel⟩
def lineK (L : Nat) (t : List Item) (p : Ph) : List NestedKey := (steps L t p).map fun x => phK x.2
def sp_lines_of (P : Program) (w : World) (K : PySem.W.Frag) : Sp := fun vs H Q _ => ∃ (x : Addr) (t : List Item) (R L : Nat) (ks : List Ph), vs = [.ref x] ∧ PlanAt P w K H x R L t ks ∧ WF R L t ∧
  ∀ d H', Same H H' → H d = none → KM P w K H' EP d ks (lineK L t) → Q (.ref d) H'
theorem f_lines_of (c : Cn K mg) : C8.Cal P w K mg base 1 "lines_of" (sp_lines_of P w K) [] := by
  refine cal_of (N := N_lines_of) c.g_lines_of c.d_lines_of sc_lines_of (fun _ _ _ _ _ _ us hl => match us, hl with | [_], _ => rfl) (fun vs H Q E h => ?len) (fun cdv A outer s H vs Q E hr h => ?_)
  case len => obtain ⟨x, t, R, L, ks, rfl, _⟩ := h; rfl
  obtain ⟨x, t, R, L, ks, rfl, ⟨dx, a, d, ws, hx, ha, hw, km, all⟩, wf, q⟩ := h
  refine ⟨_, (pss_one (ps_lock (ps_ret (knc P w K EP (own := [("phase", 1)]) (g := gName 1) hr sc_lines_of.nd (kpi_nd P w (kfld K (pv 0))) (blkOk_by (own := [("phase", 1)]) (N := N_lines_of) (sc := defScope s_lines_of) (by decide +kernel)) (fun _ _ _ _ _ => (pg_name (i := 1) sc_lines_of.nd rfl (Or.inl rfl))) (fun _ _ _ _ _ => (pv 1)) (fun _ _ _ _ _ => (pe_lc (own := [("sign", 2), ("there", 3)]) (g := gTup K 2 (gCons (gName 2) (gCons (gName 3) gNil))) (tt := tYes) rfl sc_lines_of.nd (kpi_list K (knget P w K EP hr (kfld K (pv 0)) (pv 1))) (blkOk_by (own := [("sign", 2), ("there", 3)]) (N := N_lines_of) (sc := scLines) (by decide +kernel)) (fun _ _ _ _ _ => (kpg_tup K (pgs_cons (pg_name (i := 2) sc_lines_of.nd rfl (Or.inl rfl)) (pgs_cons (pg_name (i := 3) sc_lines_of.nd rfl (Or.inl rfl)) pgs_nil)))) (fun _ _ _ _ _ => pts_nil) (fun _ _ _ _ _ => (pv 3)))))))), ?_⟩
  obtain ⟨kvs, ⟨hsys, hsz, zs, hd, hzk⟩, hks, hlv⟩ := km
  have hlen : ks.length ≤ 1024 := Nat.le_trans (all.len wf) wf.univ_le
  refine ⟨d, _, hd, True.intro, fun od => ?_⟩
  have xd : x ≠ d := fun e => by rw [e, hd] at hx; cases hx
  have tkl : Tk H (upd H d (.frz od (NDo P w d zs))) := Tk.lock hd True.intro
  have hxl : upd H d (.frz od (NDo P w d zs)) x = some (.ins (He.ga K "Plan") dx [("rows", .int (R : Int)), ("letters", .int (L : Int)), ("table", .ref a), ("kept_phases", .ref d)]) := by rw [upd_ne xd]; exact hx
  have hdr : NDr P w K (upd H d (.frz od (NDo P w d zs))) EP d kvs := NDr.lock hsys hsz hd hzk
  have hzl : zs.length = ks.length := by rw [← hzk.len, ← hks, List.length_map]
  refine ⟨_, rfl, x, _, _, _, _, rfl, hxl, c.cPlan, c.nKept, rfl, d, od, zs, rfl, hsys, upd_same, fun D nD hDs => ?_⟩
  have hlvl : LVs K (upd H d (.frz od (NDo P w d zs))) (fun p => (steps L t p).map stepK) (fun _ => False) kvs := hlv.upd (.inr (fun us e => by rw [hd] at e; cases e)) (by rw [hd]; exact True.intro)
  have same0 : ∀ H9, Same (upd H d (.frz od (NDo P w d zs))) H9 → Same H (upd H9 d (NDo P w d zs)) := fun H9 s9 => Same.unlock hd s9
  have frz0 : upd H d (.frz od (NDo P w d zs)) d = some (.frz od (NDo P w d zs)) := upd_same
  have tku : ∀ H9, Same (upd H d (.frz od (NDo P w d zs))) H9 → Tk H9 (upd H9 d (NDo P w d zs)) := fun H9 s9 => Tk.unlock s9 True.intro
  have hDd : H D = none := by
    by_cases e : D = d
    · rw [e, upd_same] at nD; cases nD
    · rw [upd_ne e] at nD; exact nD
  have Dd : D ≠ d := fun e => by rw [e, upd_same] at nD; cases nD
  have hzkl : ZK K (upd H d (.frz od (NDo P w d zs))) EP kvs zs := hzk.tk tkl
  generalize upd H d (.frz od (NDo P w d zs)) = Hl at *
  refine nc_all (E := EP) walk_nd ks hzl.symm all.nd (fun _ i z H => ∃ l us, z = .ref l ∧ H l = some (.lst us) ∧ NKs K H (lineK L t (ks.getD i (0, []))) us) nD hDs (by rw [hzl]; exact sz _ (by omega)) (fun H1 s1 => s1 _ _ frz0) (fun i H x H' y => by rw [y.1]; exact Same.refl _)
    (fun pr i z H H' s' ⟨l, us, e, h1, h2⟩ => ⟨l, us, e, s' _ _ h1, NKs.tk (Tk.same s') _ _ h2⟩) (fun pr i z H o hn hl ⟨l, us, e, h1, h2⟩ => ⟨l, us, e, by rw [upd_ne (fun q => by subst q; exact hl _ h1)]; exact h1, NKs.tk (Tk.upd hn) _ _ h2⟩) ?_ ?_
  · intro i k x1 H1 H2 kv2 hi hk sm hn hkeys hr ⟨e, z, hz, ex⟩ Qy hy
    subst e ex
    obtain ⟨p, hp, hp1, hp2, hp3⟩ := hzkl.get hz
    have hpk : p.1 = k := by
      rw [← hks, List.getElem?_map, hp] at hk
      exact Option.some.inj hk
    subst hpk
    have hin : p.1 ∈ ks := List.mem_of_getElem? hk
    have hp2' := NK.tk (Tk.same sm) _ _ hp2
    obtain ⟨v, e, m⟩ := valV_of_mem (kvs := kvs) (k := p.1) (by rw [hks]; exact hin)
    obtain ⟨l, us, e1, _, h4, h5⟩ := hlvl _ m
    rw [show v = V.ref l from e1] at e
    have h4' := sm _ _ h4
    have h5' := NKs.tk (Tk.same sm) _ _ h5
    have hul : us.length = (steps L t p.1).length := by have := h5.length; simpa using this
    have hsl := steps_len L t p.1
    refine ⟨rfl, _, rfl, _, rfl, x, _, _, _, _, rfl, sm _ _ hxl, c.cPlan, c.nKept, rfl, _, rfl, d, _, kvs, p.1, _, rfl, rfl, hdr.same sm, hp2', e, l, rfl, ⟨us, .inl (.inl h4')⟩, fun D2 hD2 => ?_⟩
    refine lc_map (walk_list (xs := us)) (fun i y H => NK K H ((lineK L t p.1).getD i .none) y) hD2 (by rw [hul]; exact sz _ (by have := wf.l2; omega)) (fun H5 s5 => .inl (.inl (s5 _ _ h4'))) (fun i H x H' y => by rw [y.1]; exact Same.refl _) (fun i y H H' s' r => NK.tk (Tk.same s') _ _ r) (fun i y H _ _ e r => NK.tk (Tk.mut e True.intro) _ _ r) ?_ (mono_two K 2 3) ?_
    · intro j x5 H5 H6 hj sm5 _ ⟨e1, ex⟩ Qy2 hy2
      subst e1
      obtain ⟨k2, hk1, hk2⟩ := (NKs.tk (Tk.same sm5) _ _ h5').getV ex
      rw [List.getElem?_map] at hk1
      cases hst : (steps L t p.1)[j]? with
      | none => rw [hst] at hk1; cases hk1
      | some x0 =>
        rw [hst] at hk1
        cases hk1
        obtain ⟨ta, u, z2, rfl, h1, h2, h3⟩ := step_snd hk2
        refine ⟨ta, _, rfl, h1, rfl, _, _, rfl, _, _, rfl, rfl, rfl, _, rfl, hy2 _ _ (Same.refl _) ?_⟩
        unfold lineK
        rw [List.getD_eq_getElem?_getD, List.getElem?_map, hst]
        exact h3
    · intro H5 ys sm5 hys hpr
      have hk5 := nks_paired hpr
      have heq : ((List.range us.length).map fun i => (lineK L t p.1).getD i .none) = lineK L t p.1 := by
        rw [hul]
        refine List.ext_getElem (by simp [lineK]) fun i h1 h2 => ?_
        simp at h1 h2
        simp [h2]
      rw [heq] at hk5
      refine hy _ _ _ sm5 (NK.tk (Tk.same sm5) _ _ hp2') ⟨D2, ys, rfl, hys, ?_⟩
      have e9 : ks.getD i (0, []) = p.1 := by
        rw [List.getD_eq_getElem?_getD, hk]
        rfl
      rw [e9]
      exact hk5
  · intro H9 kv9 sm9 hn9 hk9 hr9
    refine ⟨sm9 _ _ frz0, ?_⟩
    have tk9 := tku H9 sm9
    have sb9 : SB (· = d) H9 (upd H9 d (NDo P w d zs)) := (SB.refl (fun b e => by subst e; rw [sm9 _ _ frz0]; exact True.intro)).upd rfl
    refine q D _ (same0 _ sm9) hDd ⟨kv9, sb9.nd Dd hn9, hk9, ?_⟩
    intro qq hqq
    obtain ⟨j, hj⟩ := List.mem_iff_getElem?.mp hqq
    obtain ⟨l, us, e, h1, h2⟩ := hr9 j qq hj
    refine ⟨l, us, e, fun h => h, sb9.out _ _ (fun q => by rw [q, sm9 _ _ frz0] at h1; cases h1) h1, ?_⟩
    have : ks.getD j (0, []) = qq.1 := by
      rw [← hk9, List.getD_eq_getElem?_getD, List.getElem?_map, hj]
      rfl
    rw [this] at h2
    exact NKs.tk tk9 _ _ h2
end
end G6

-- G6Md
namespace G6
open PySem PySem.Spec PyProof.Rows L2
/-! ### edges and their backs -/
def edgesP (L : Nat) (t : List Item) (p : Ph) : List (Ph × Ph) := (steps L t p).map fun x => (p, x.2)
def edges (L : Nat) (t : List Item) (ks : List Ph) : List (Ph × Ph) := ks.flatMap (edgesP L t)
def bkOf (es : List (Ph × Ph)) (q : Ph) : List Ph := (es.filter fun e => decide (e.2 = q)).map (·.1)
theorem bkOf_len (es : List (Ph × Ph)) (q : Ph) : (bkOf es q).length ≤ es.length := by
  unfold bkOf
  rw [List.length_map]
  exact List.length_filter_le _ _
theorem bkOf_snoc (es : List (Ph × Ph)) (p q0 q : Ph) : bkOf (es ++ [(p, q0)]) q = bkOf es q ++ if q0 = q then [p] else [] := by
  unfold bkOf
  rw [List.filter_append, List.map_append]
  congr 1
  by_cases h : q0 = q <;> simp [h]
theorem edges_snoc (L : Nat) (t : List Item) (ks : List Ph) (p : Ph) : edges L t (ks ++ [p]) = edges L t ks ++ edgesP L t p := by
  unfold edges
  rw [List.flatMap_append]
  simp
theorem edges_len (L : Nat) (t : List Item) : ∀ ks : List Ph, (edges L t ks).length ≤ (L + 1) * ks.length
  | [] => by simp [edges]
  | p :: ks => by
    have h1 := edges_len L t ks
    have h2 := steps_len L t p
    have e : edges L t (p :: ks) = edgesP L t p ++ edges L t ks := rfl
    rw [e, List.length_append]
    unfold edgesP
    rw [List.length_map]
    have : (L + 1) * (p :: ks).length = (L + 1) * ks.length + (L + 1) := Nat.mul_succ _ _
    omega
theorem mem_bk {L : Nat} {t : List Item} {ks : List Ph} {p q : Ph} : p ∈ bkOf (edges L t ks) q ↔ p ∈ ks ∧ ∃ x ∈ steps L t p, x.2 = q := by
  unfold bkOf edges edgesP
  simp only [List.mem_map, List.mem_filter, List.mem_flatMap, decide_eq_true_eq]
  constructor
  · rintro ⟨e, ⟨⟨k, hk, x, hx, rfl⟩, h2⟩, rfl⟩
    exact ⟨hk, x, hx, h2⟩
  · rintro ⟨hk, x, hx, h⟩
    exact ⟨(p, x.2), ⟨⟨p, hk, x, hx, rfl⟩, h⟩, rfl⟩
end G6

-- G6F_Aj
namespace G6
open PySem PySem.Spec PyProof.Rows L2
/-- a locked dict of lists, and what is known of it -/
structure Lk (P : Program) (w : World) (K : PySem.W.Frag) (H Hl : Hp) (d : Addr) (ks : List Ph) (f : Ph → List NestedKey) (kvs : List (Ph × V)) (zs : List (NestedKey × Addr × V)) (od : Obj) : Prop where
  hd : H d = some (NDo P w d zs)
  sys : (d == sysModules) = false
  tkl : Tk H Hl
  frz : Hl d = some (.frz od (NDo P w d zs))
  oth : ∀ b o, b ≠ d → H b = some o → Hl b = some o
  non : ∀ b, Hl b = none → H b = none
  r : NDr P w K Hl EP d kvs
  keys : kvs.map (·.1) = ks
  lv : LVs K Hl f (fun _ => False) kvs
  zk : ZK K Hl EP kvs zs
  len : zs.length = ks.length
section
variable {P : Program} {w : World} {K : PySem.W.Frag} {mg : Str → Option Value} {base : Heap} {H Hl H9 : Hp} {d : Addr} {ks : List Ph} {f : Ph → List NestedKey} {kvs : List (Ph × V)} {zs : List (NestedKey × Addr × V)} {od : Obj}
theorem lk_of (hnd : ND P w K H EP d kvs) (hks : kvs.map (·.1) = ks) (hlv : LVs K H f (fun _ => False) kvs) : ∃ zs, H d = some (NDo P w d zs) ∧ ∀ od, Lk P w K H (upd H d (.frz od (NDo P w d zs))) d ks f kvs zs od := by
  obtain ⟨hsys, hsz, zs, hd, hzk⟩ := hnd
  refine ⟨zs, hd, fun od => ?_⟩
  have tkl : Tk H (upd H d (.frz od (NDo P w d zs))) := Tk.lock hd True.intro
  refine ⟨hd, hsys, tkl, upd_same, fun b o n e => by rw [upd_ne n]; exact e, fun b e => ?_, NDr.lock hsys hsz hd hzk, hks, hlv.upd (.inr (fun us e => by rw [hd] at e; cases e)) (by rw [hd]; exact True.intro), hzk.tk tkl, by rw [← hzk.len, ← hks, List.length_map]⟩
  by_cases q : b = d
  · rw [q, upd_same] at e; cases e
  · rw [upd_ne q] at e; exact e
theorem Lk.get (k : Lk P w K H Hl d ks f kvs zs od) (sb : SB W Hl H9) (hw : ∀ l us, Hl l = some (.lst us) → (∃ q ∈ kvs, q.2 = .ref l) → ¬ W l) {p : Ph} (hp : p ∈ ks) : ∃ l us, valV kvs p = some (.ref l) ∧ H9 l = some (.lst us) ∧ NKs K H9 (f p) us := by
  obtain ⟨v, e, m⟩ := valV_of_mem (kvs := kvs) (k := p) (by rw [k.keys]; exact hp)
  obtain ⟨l, us, e1, _, h4, h5⟩ := k.lv _ m
  rw [show v = V.ref l from e1] at e
  exact ⟨l, us, e, sb.out _ _ (hw l us h4 ⟨_, m, e1⟩) h4, NKs.tk sb.tk _ _ h5⟩
theorem Lk.key (k : Lk P w K H Hl d ks f kvs zs od) {i : Nat} {z : NestedKey × Addr × V} (hz : zs[i]? = some z) : ∃ p, ks[i]? = some p ∧ NK K Hl (phK p) (.ref z.2.1) := by
  obtain ⟨p, hp, hp1, hp2, hp3⟩ := k.zk.get hz
  exact ⟨p.1, by rw [← k.keys, List.getElem?_map, hp]; rfl, hp2⟩
abbrev N_turned : List Str := ["lines", "found", "phase", "there"]
theorem sc_turned : FnScope N_turned ["lines"] (defScope s_turned) := ⟨rfl, rfl, rfl, by decide +kernel, rfl, by decide +kernel, by decide +kernel⟩
def bkK (L : Nat) (t : List Item) (ks : List Ph) (q : Ph) : List NestedKey := (bkOf (edges L t ks) q).map phK
def sp_turned (P : Program) (w : World) (K : PySem.W.Frag) : Sp := fun vs H Q _ => ∃ (d : Addr) (t : List Item) (R L : Nat) (ks : List Ph), vs = [.ref d] ∧ KM P w K H EP d ks (lineK L t) ∧ AllPh L t ks ∧ WF R L t ∧
  ∀ d' H', Same H H' → H d' = none → KM P w K H' EP d' ks (bkK L t ks) → Q (.ref d') H'
theorem f_turned (c : Cn K mg) : C8.Cal P w K mg base 1 "turned" (sp_turned P w K) [] := by
  refine cal_of (N := N_turned) c.g_turned c.d_turned sc_turned (fun _ _ _ _ _ _ us hl => match us, hl with | [_], _ => rfl) (fun vs H Q E h => ?len) (fun cdv A outer s H vs Q E hr h => ?_)
  case len => obtain ⟨d, t, R, L, ks, rfl, _⟩ := h; rfl
  obtain ⟨d, t, R, L, ks, rfl, km, all, wf, q⟩ := h
  refine ⟨_, (pss_cons (ps_lock (knsetc P w K EP (i := 1) (own := [("phase", 2)]) (g := gName 2) hr sc_turned.nd rfl rfl (sw_trueD rfl rfl rfl (by decide +kernel)) (kpi_nd P w (pv 0)) (blkOk_by (own := [("phase", 2)]) (N := N_turned) (sc := defScope s_turned) (by decide +kernel)) (fun _ _ _ _ _ => (pg_name (i := 2) sc_turned.nd rfl (Or.inl rfl))) (fun _ _ _ _ _ => (pv 2)) (fun _ _ _ _ _ => (pe_lst pa_nil))))
      (pss_cons (ps_lock (ps_for PassesOwn.never rfl (kpi_nd P w (pv 0)) (pg_name (i := 2) sc_turned.nd rfl (Or.inl rfl)) (pss_one (ps_for PassesOwn.never rfl (kpi_list K (knget P w K EP hr (pv 0) (pv 2))) (pg_name (i := 3) sc_turned.nd rfl (Or.inl rfl)) (pss_one (ps_expr (kbm K PySem.F.slot_list_append PySem.F.type_list_append mt_append (knget P w K EP hr (pv 1) (pv 3)) (pa_cons (pv 2) pa_nil))))))))
      (pss_one (ps_ret (pv 1))))), ?_⟩
  have hlen : ks.length ≤ 1024 := Nat.le_trans (all.len wf) wf.univ_le
  obtain ⟨kvs, hnd, hks, hlv⟩ := km
  obtain ⟨zs, hd, lkf⟩ := lk_of hnd hks hlv
  refine ⟨d, _, hd, True.intro, fun od => ?_⟩
  have lk := lkf od
  refine ⟨_, rfl, d, od, zs, rfl, lk.sys, lk.frz, fun D nD hDs => ?_⟩
  have hDd : H D = none := lk.non _ nD
  have Dd : D ≠ d := fun e => by rw [e, lk.frz] at nD; cases nD
  have same0 : ∀ H9, Same (upd H d (.frz od (NDo P w d zs))) H9 → Same H (upd H9 d (NDo P w d zs)) := fun H9 s9 => Same.unlock hd s9
  generalize upd H d (.frz od (NDo P w d zs)) = Hl at *
  refine nc_all (E := EP) walk_nd ks lk.len.symm all.nd (fun pr i z H' => ∃ l, z = .ref l ∧ z ∉ pr ∧ H' l = some (.lst []) ∧ H l = none) nD hDs (by rw [lk.len]; exact sz _ (by omega)) (fun H1 s1 => s1 _ _ lk.frz) (fun i H x H' y => by rw [y.1]; exact Same.refl _)
    (fun pr i z H H' s' ⟨l, e, n, h1, h2⟩ => ⟨l, e, n, s' _ _ h1, h2⟩) (fun pr i z H o hn hl ⟨l, e, n, h1, h2⟩ => ⟨l, e, n, by rw [upd_ne (fun q => by subst q; exact hl _ h1)]; exact h1, h2⟩) ?_ ?_
  · intro i k x1 H1 H2 kv2 hi hk sm hn hkeys hr ⟨e, z, hz, ex⟩ Qy hy
    subst e ex
    obtain ⟨p, hp, hp2⟩ := lk.key hz
    rw [hk] at hp
    cases hp
    refine ⟨rfl, _, rfl, sz 0 (by decide), fun l hl => ?_⟩
    have s2 := same_new (o := .lst []) hl
    refine hy _ _ _ s2 (NK.tk (Tk.same (Same.trans sm s2)) _ _ hp2) ⟨l, rfl, fun hm => ?_, upd_same, lk.non _ (Same.free sm hl)⟩
    obtain ⟨qq, hqq, e⟩ := List.mem_map.mp hm
    obtain ⟨j, hj⟩ := List.mem_iff_getElem?.mp hqq
    obtain ⟨l2, e2, _, h2, _⟩ := hr j qq hj
    rw [e] at e2
    cases e2
    rw [hl] at h2
    cases h2
  · intro H9 fk sm9 hn9 hk9 hr9
    refine ⟨sm9 _ _ lk.frz, ?_⟩
    have sD := same0 _ sm9
    have sb9 : SB (· = d) H9 (upd H9 d (NDo P w d zs)) := (SB.refl (fun b e => by subst e; rw [sm9 _ _ lk.frz]; exact True.intro)).upd rfl
    have hfk := sb9.nd Dd hn9
    have hfv : ∀ j qq, fk[j]? = some qq → ∃ l, qq.2 = .ref l ∧ qq.2 ∉ (fk.take j).map (·.2) ∧ upd H9 d (NDo P w d zs) l = some (.lst []) ∧ H l = none := by
      intro j qq hj
      obtain ⟨l, e, n, h, h0⟩ := hr9 j qq hj
      exact ⟨l, e, n, sb9.out _ _ (fun q => by rw [q, sm9 _ _ lk.frz] at h; cases h) h, h0⟩
    have hnd2 := hnd.same sD
    have hlv2 := hlv.same sD
    generalize upd H9 d (NDo P w d zs) = Ha at *
    clear hr9 hn9 sm9 sb9 lk same0 lkf hd
    have inj : ∀ q1 ∈ fk, ∀ q2 ∈ fk, q1.2 = q2.2 → q1 = q2 := by
      intro q1 h1 q2 h2 e
      obtain ⟨i, hi⟩ := List.mem_iff_getElem?.mp h1
      obtain ⟨j, hj⟩ := List.mem_iff_getElem?.mp h2
      rcases Nat.lt_trichotomy i j with h | h | h
      · obtain ⟨l, e1, n, _⟩ := hfv j q2 hj
        refine absurd (List.mem_map.mpr ⟨q1, ?_, e⟩) n
        exact List.mem_iff_getElem?.mpr ⟨i, by rw [List.getElem?_take_of_lt h]; exact hi⟩
      · subst h
        rw [hi] at hj
        exact Option.some.inj hj
      · obtain ⟨l, e1, n, _⟩ := hfv i q1 hi
        refine absurd (List.mem_map.mpr ⟨q2, ?_, e.symm⟩) n
        exact List.mem_iff_getElem?.mpr ⟨j, by rw [List.getElem?_take_of_lt h]; exact hj⟩
    obtain ⟨zs2, hd2, lkf2⟩ := lk_of hnd2 hks hlv2
    refine ⟨d, _, hd2, True.intro, fun od2 => ?_⟩
    have lk2 := lkf2 od2
    have same2 : ∀ H9, Same (upd Ha d (.frz od2 (NDo P w d zs2))) H9 → Same Ha (upd H9 d (NDo P w d zs2)) := fun H9 s9 => Same.unlock hd2 s9
    have hfk2 : ND P w K (upd Ha d (.frz od2 (NDo P w d zs2))) EP D fk := hfk.upd Dd (by rw [hd2]; exact True.intro)
    have hfl : ∀ qq ∈ fk, ∃ l, qq.2 = .ref l ∧ upd Ha d (.frz od2 (NDo P w d zs2)) l = some (.lst []) ∧ H l = none ∧ l ≠ d ∧ l ≠ D := by
      intro qq hqq
      obtain ⟨j, hj⟩ := List.mem_iff_getElem?.mp hqq
      obtain ⟨l, e, _, h1, h2⟩ := hfv j qq hj
      have ld : l ≠ d := fun e => by rw [e, hd2] at h1; cases h1
      have lD : l ≠ D := fun e => by
        obtain ⟨_, _, zz, hzz, _⟩ := hfk
        rw [e, hzz] at h1
        cases h1
      exact ⟨l, e, by rw [upd_ne ld]; exact h1, h2, ld, lD⟩
    have lkoth := lk2.oth
    have lkfrz := lk2.frz
    generalize hHl : upd Ha d (.frz od2 (NDo P w d zs2)) = Hl2 at *
    let Wd : Addr → Prop := fun b => ∃ qq ∈ fk, qq.2 = .ref b
    have hWnt : ∀ b, Wd b → NoT (Hl2 b) := by
      rintro b ⟨qq, hqq, e⟩
      obtain ⟨l, e2, h, _⟩ := hfl qq hqq
      rw [e] at e2
      cases e2
      rw [h]
      exact True.intro
    have hWH : ∀ b, Wd b → H b = none ∧ b ≠ d ∧ b ≠ D := by
      rintro b ⟨qq, hqq, e⟩
      obtain ⟨l, e2, _, h⟩ := hfl qq hqq
      rw [e] at e2
      cases e2
      exact h
    have hWl : ∀ l us, Hl2 l = some (.lst us) → (∃ q ∈ kvs, q.2 = .ref l) → ¬ Wd l := by
      rintro l us _ ⟨qq, hqq, e⟩ hw
      obtain ⟨l2, us2, e2, _, h2, _⟩ := hlv qq hqq
      rw [e] at e2
      cases e2
      rw [(hWH _ hw).1] at h2
      cases h2
    let St2 : List (Ph × Ph) → Hp → Prop := fun es H' => ∀ qq ∈ fk, ∃ l us, qq.2 = .ref l ∧ H' l = some (.lst us) ∧ NKs K H' ((bkOf es qq.1).map phK) us
    refine ⟨_, rfl, d, od2, zs2, rfl, lk2.sys, lk2.frz, ?_⟩
    refine for_it walk_nd (fun i σ H1 => ∃ u2 u3, σ = [some (.ref d), some (.ref D), u2, u3] ∧ SB Wd Hl2 H1 ∧ St2 (edges L t (ks.take i)) H1) ?_ ?_ ?_ ?_
    · refine ⟨_, _, rfl, SB.refl hWnt, fun qq hqq => ?_⟩
      obtain ⟨l, e, h, _⟩ := hfl qq hqq
      exact ⟨l, [], e, h, .nil⟩
    · rintro i σ H1 hi ⟨_, _, _, sb, _⟩
      exact sb.out _ _ (fun w => (hWH _ w).2.1 rfl) lkfrz
    · rintro i x1 σ H1 H1' hi ⟨u2, u3, rfl, sb, hst⟩ ⟨e, z, hz, ex⟩
      subst e ex
      obtain ⟨p, hp, hp2⟩ := lk2.key hz
      have hin : p ∈ ks := List.mem_of_getElem? hp
      have hp2' := NK.tk sb.tk _ _ hp2
      obtain ⟨l, us, e, h4, h5⟩ := lk2.get sb hWl hin
      have hlW : ¬ Wd l := by
        intro hw
        obtain ⟨v, e9, m⟩ := valV_of_mem (kvs := kvs) (k := p) (by rw [hks]; exact hin)
        rw [e] at e9
        cases e9
        obtain ⟨l2, us2, e2, _, h2, _⟩ := hlv _ m
        cases e2
        rw [(hWH _ hw).1] at h2
        cases h2
      have hlne := h4
      have dW : ¬ Wd d := fun w => (hWH _ w).2.1 rfl
      have DW : ¬ Wd D := fun w => (hWH _ w).2.2 rfl
      have hul : us.length = (steps L t p).length := by have := h5.length; simpa [lineK] using this
      have hsl := steps_len L t p
      refine ⟨_, rfl, _, rfl, d, _, kvs, p, _, rfl, rfl, sb.ndr dW lk2.r, hp2', e, l, rfl, ⟨us, .inl (.inl h4)⟩, ?_⟩
      refine for_it (walk_list (xs := us)) (fun j σ H5 => (∃ u3, σ = [some (.ref d), some (.ref D), some (.ref z.2.1), u3]) ∧ SB Wd H1' H5 ∧ St2 (edges L t (ks.take i) ++ (edgesP L t p).take j) H5) ?_ ?_ ?_ ?_
      · refine ⟨⟨_, rfl⟩, SB.refl (fun b w => ?_), by rw [List.take_zero, List.append_nil]; exact hst⟩
        obtain ⟨qq, hqq, e⟩ := w
        obtain ⟨l, us, e2, h, _⟩ := hst qq hqq
        rw [e] at e2
        cases e2
        rw [h]
        exact True.intro
      · rintro j σ H5 hj ⟨_, sb5, _⟩
        exact .inl (.inl (sb5.out _ _ hlW h4))
      · rintro j x5 σ H5 H6 hj ⟨⟨u3, rfl⟩, sb5, hst5⟩ ⟨e1, ex⟩
        subst e1
        obtain ⟨k2, hk1, hk2⟩ := (NKs.tk sb5.tk _ _ h5).getV ex
        unfold lineK at hk1
        rw [List.getElem?_map] at hk1
        cases hsj : (steps L t p)[j]? with
        | none => rw [hsj] at hk1; cases hk1
        | some x0 =>
          rw [hsj] at hk1
          cases hk1
          have hx0 : x0.2 ∈ ks := all.step hin (List.mem_of_getElem? hsj)
          obtain ⟨b, e0, rfl, hb, he⟩ := ph_inv hk2
          obtain ⟨v, e9, m⟩ := valV_of_mem (kvs := fk) (k := x0.2) (by rw [hk9]; exact hx0)
          obtain ⟨fl, fus, e2, hf, hfn⟩ := hst5 _ m
          cases (show v = .ref fl from e2)
          have hflW : Wd fl := ⟨_, m, rfl⟩
          have hes : (edges L t (ks.take i) ++ (edgesP L t p).take j).length ≤ 4000 := by
            have h1 := edges_len L t (ks.take i)
            have h2 : (ks.take i).length ≤ 1024 := by rw [List.length_take]; omega
            have h3 : ((edgesP L t p).take j).length ≤ 3 := by
              rw [List.length_take]
              unfold edgesP
              rw [List.length_map]
              have := wf.l2
              omega
            have h4 : (L + 1) * (ks.take i).length ≤ 3 * 1024 := Nat.mul_le_mul (by have := wf.l2; omega) h2
            rw [List.length_append]
            omega
          have hfl2 : fus.length ≤ 4000 := by
            have h1 : fus.length = (bkOf (edges L t (ks.take i) ++ (edgesP L t p).take j) x0.2).length := by
              have := hfn.length
              rwa [List.length_map] at this
            have h2 := bkOf_len (edges L t (ks.take i) ++ (edgesP L t p).take j) x0.2
            omega
          refine ⟨_, rfl, _, rfl, D, b, fk, x0.2, _, rfl, rfl, (sb5.nd DW (sb.nd DW hfk2)).r, hk2, e9, .inl ⟨rfl, _, .inl (.inl hf)⟩, _, rfl, fl, fus, _, rfl, rfl, hf, Nat.lt_of_le_of_lt hfl2 (by decide), ?_⟩
          have tm := Tk.mut (o := .lst (fus ++ [.ref z.2.1])) hf True.intro
          refine ⟨⟨_, rfl⟩, sb5.upd hflW, fun qq hqq => ?_⟩
          have hej : (edgesP L t p).take (j + 1) = (edgesP L t p).take j ++ [(p, x0.2)] := by
            rw [List.take_succ]
            unfold edgesP
            rw [List.getElem?_map, hsj]
            rfl
          rw [hej, ← List.append_assoc, bkOf_snoc]
          obtain ⟨ql, qus, e3, h3, h3n⟩ := hst5 qq hqq
          by_cases hq : x0.2 = qq.1
          · have : qq = (x0.2, V.ref fl) := by
              have m' : (qq.1, V.ref fl) ∈ fk := hq ▸ m
              obtain ⟨i1, hi1⟩ := List.mem_iff_getElem?.mp hqq
              obtain ⟨i2, hi2⟩ := List.mem_iff_getElem?.mp m
              have hn := all.nd
              rw [← hk9] at hn
              have h1 := List.getElem?_eq_some_iff.mp hi1
              have h2 := List.getElem?_eq_some_iff.mp hi2
              obtain ⟨g1, g1'⟩ := h1
              obtain ⟨g2, g2'⟩ := h2
              have : i1 = i2 := by
                rcases Nat.lt_trichotomy i1 i2 with h | h | h
                · exact ((List.pairwise_iff_getElem.mp hn i1 i2 (by simpa using g1) (by simpa using g2) h) (by rw [List.getElem_map, List.getElem_map, g1', g2', hq])).elim
                · exact h
                · exact ((List.pairwise_iff_getElem.mp hn i2 i1 (by simpa using g2) (by simpa using g1) h) (by rw [List.getElem_map, List.getElem_map, g1', g2', hq])).elim
              subst this
              rw [hi1] at hi2
              exact Option.some.inj hi2
            subst this
            cases e3
            rw [hf] at h3
            cases h3
            refine ⟨fl, _, rfl, upd_same, ?_⟩
            rw [if_pos rfl, List.map_append]
            exact NKs.append (NKs.tk tm _ _ h3n) (.cons (NK.tk (Tk.trans sb5.tk tm) _ _ hp2') .nil)
          · have hne : ql ≠ fl := by
              intro e
              subst e
              have := inj _ hqq _ m e3
              exact hq (by rw [this])
            refine ⟨ql, qus, e3, by rw [upd_ne hne]; exact h3, ?_⟩
            rw [if_neg hq, List.append_nil]
            exact NKs.tk tm _ _ h3n
      · rintro σ H5 ⟨⟨u3, rfl⟩, sb5, hst5⟩
        refine ⟨_, _, rfl, sb.trans sb5, ?_⟩
        have : ks.take (i + 1) = ks.take i ++ [p] := by rw [List.take_succ, hp]; rfl
        rw [this, edges_snoc]
        rw [List.take_of_length_le (l := edgesP L t p) (by unfold edgesP; rw [List.length_map]; omega)] at hst5
        exact hst5
    · rintro σ H1 ⟨u2, u3, rfl, sb, hst⟩
      have dW : ¬ Wd d := fun w => (hWH _ w).2.1 rfl
      have DW : ¬ Wd D := fun w => (hWH _ w).2.2 rfl
      have hf1 := sb.out _ _ dW lkfrz
      refine ⟨hf1, _, rfl, ?_⟩
      have sbz : SB (· = d) H1 (upd H1 d (NDo P w d zs2)) := (SB.refl (fun b e => by subst e; rw [hf1]; exact True.intro)).upd rfl
      have sF : Same H (upd H1 d (NDo P w d zs2)) := by
        intro b o e
        by_cases hb : b = d
        · subst hb
          rw [upd_same]
          have := sD _ _ e
          rw [hd2] at this
          exact this
        · rw [upd_ne hb]
          refine sb.out _ _ (fun w => ?_) (lkoth _ _ hb (sD _ _ e))
          rw [(hWH _ w).1] at e
          cases e
      refine q D _ sF hDd ⟨fk, sbz.nd Dd (sb.nd DW hfk2), hk9, fun qq hqq => ?_⟩
      rw [List.take_of_length_le (by rw [lk2.len]; exact Nat.le_refl _)] at hst
      obtain ⟨l, us, e, h1, h2⟩ := hst qq hqq
      exact ⟨l, us, e, fun h => h, sbz.out _ _ (fun q => by rw [q, hf1] at h1; cases h1) h1, NKs.tk sbz.tk _ _ h2⟩
end
end G6

-- G6Me
namespace G6
open PySem PySem.Spec PyProof.Rows L2
/-! ### paths -/
inductive Pth (s : Ph → List Ph) : Ph → Ph → Prop where
  | nil {a : Ph} : Pth s a a
  | cons {a b c : Ph} : b ∈ s a → Pth s b c → Pth s a c
theorem Pth.trans {s : Ph → List Ph} {a b c : Ph} (h : Pth s a b) (k : Pth s b c) : Pth s a c := by
  induction h with
  | nil => exact k
  | cons e _ ih => exact .cons e (ih k)
theorem Pth.one {s : Ph → List Ph} {a b : Ph} (h : b ∈ s a) : Pth s a b := .cons h .nil
theorem Pth.leave {s : Ph → List Ph} {A : Ph → Prop} {v f : Ph} (h : Pth s v f) : A v → ¬ A f → ∃ x y, A x ∧ ¬ A y ∧ y ∈ s x ∧ Pth s v y ∧ Pth s y f := by
  induction h with
  | nil => exact fun h1 h2 => (h2 h1).elim
  | @cons a b c e t ih =>
    intro h1 h2
    by_cases hb : A b
    · obtain ⟨x, y, g1, g2, g3, g4, g5⟩ := ih hb h2
      exact ⟨x, y, g1, g2, g3, .cons e g4, g5⟩
    · exact ⟨a, b, h1, hb, e, .one e, t⟩
theorem Pth.closed {s : Ph → List Ph} {ks : List Ph} (hsk : ∀ p ∈ ks, ∀ q ∈ s p, q ∈ ks) {S : Ph → Prop} (hS : ∀ p q, q ∈ ks → p ∈ s q → S p → S q) {v y : Ph} (h : Pth s v y) : v ∈ ks → S y → S v := by
  induction h with
  | nil => exact fun _ => id
  | cons e _ ih => exact fun hv hy => hS _ _ hv e (ih (hsk _ hv _ e) hy)

/-! ### the order in which a flood by depth finishes -/
def QF (s : Ph → List Ph) (fo : List Ph) : Prop := ∀ i f, fo[i]? = some f → ∀ v ∈ fo.take (i + 1), ∀ w ∈ s v, w ∈ fo.take (i + 1) ∨ Pth s w f
theorem QF.snoc {s : Ph → List Ph} {fo : List Ph} {p : Ph} (h : QF s fo) (hp : ∀ v ∈ fo ++ [p], ∀ w ∈ s v, w ∈ fo ++ [p] ∨ Pth s w p) : QF s (fo ++ [p]) := by
  intro i f hf v hv w hw
  by_cases hi : i < fo.length
  · rw [List.getElem?_append_left hi] at hf
    rw [List.take_append_of_le_length (by omega)] at hv ⊢
    exact h i f hf v hv w hw
  · have hi2 : i = fo.length := by
      have := (List.getElem?_eq_some_iff.mp hf).1
      simp at this
      omega
    subst hi2
    simp at hf
    subst hf
    have e : (fo ++ [p]).take (fo.length + 1) = fo ++ [p] := List.take_of_length_le (by simp)
    rw [e] at hv ⊢
    exact hp v hv w hw
structure DF (s : Ph → List Ph) (ks kn fo : List Ph) (g : List (Ph × Nat)) (tl : Option Ph) : Prop where
  iff : ∀ p, p ∈ kn ↔ p ∈ fo ∨ p ∈ g.map (·.1)
  knd : kn.Nodup
  fnd : fo.Nodup
  gnd : (g.map (·.1)).Nodup
  dis : ∀ p ∈ g.map (·.1), p ∉ fo
  kks : ∀ p ∈ kn, p ∈ ks
  tks : ∀ c, tl = some c → c ∈ ks
  lim : ∀ x ∈ g, 1 ≤ x.2 ∧ x.2 ≤ (s x.1).length
  ch : g.Pairwise fun x y => Pth s x.1 y.1
  tlr : ∀ c, tl = some c → ∀ x ∈ g, Pth s x.1 c
  cl3 : ∀ x ∈ g, ∀ k, k < x.2 → ∀ w, (s x.1)[k]? = some w → w ∈ kn ∨ tl = some w
  cl4 : ∀ v ∈ fo, ∀ w ∈ s v, w ∈ kn
  q : QF s fo
section
variable {s : Ph → List Ph} {ks kn fo : List Ph} {g : List (Ph × Nat)} {tl : Option Ph} {c p : Ph} {a : Nat}
theorem DF.start (s : Ph → List Ph) (ks : List Ph) : DF s ks [] [] [] none :=
  ⟨by simp, .nil, .nil, .nil, by simp, by simp, by simp, by simp, .nil, by simp, by simp, by simp, by intro i f h; simp at h⟩
theorem DF.root (h : DF s ks kn fo [] none) (hc : c ∈ ks) : DF s ks kn fo [] (some c) :=
  ⟨h.iff, h.knd, h.fnd, h.gnd, h.dis, h.kks, fun x e => by cases e; exact hc, h.lim, .nil, by simp, by simp, h.cl4, h.q⟩
theorem DF.skip (h : DF s ks kn fo g (some c)) (hc : c ∈ kn) : DF s ks kn fo g none :=
  ⟨h.iff, h.knd, h.fnd, h.gnd, h.dis, h.kks, by simp, h.lim, h.ch, by simp, fun x hx k hk w hw => by
    rcases h.cl3 x hx k hk w hw with e | e
    · exact .inl e
    · cases e; exact .inl hc, h.cl4, h.q⟩
theorem not_kn (h : DF s ks kn fo g tl) (hc : c ∉ kn) : c ∉ fo ∧ c ∉ g.map (·.1) := ⟨fun x => hc ((h.iff c).mpr (.inl x)), fun x => hc ((h.iff c).mpr (.inr x))⟩
/-- a new phase without a step: finished at once -/
theorem DF.leaf (h : DF s ks kn fo g (some c)) (hc : c ∉ kn) (h0 : s c = []) : DF s ks (kn ++ [c]) (fo ++ [c]) g none := by
  obtain ⟨n1, n2⟩ := not_kn h hc
  refine ⟨fun p => ?_, nodup_snoc h.knd hc, nodup_snoc h.fnd n1, h.gnd, fun p hp hq => ?_, fun p hp => ?_, by simp, h.lim, h.ch, by simp, fun x hx k hk w hw => ?_, fun v hv w hw => ?_, h.q.snoc fun v hv w hw => ?_⟩
  · simp only [List.mem_append, List.mem_singleton, h.iff p]
    constructor
    · rintro ((h | h) | h)
      · exact .inl (.inl h)
      · exact .inr h
      · exact .inl (.inr h)
    · rintro ((h | h) | h)
      · exact .inl (.inl h)
      · exact .inr h
      · exact .inl (.inr h)
  · rcases List.mem_append.mp hq with e | e
    · exact h.dis p hp e
    · simp at e
      subst e
      exact n2 hp
  · rcases List.mem_append.mp hp with e | e
    · exact h.kks p e
    · simp at e
      subst e
      exact h.tks _ rfl
  · rcases h.cl3 x hx k hk w hw with e | e
    · exact .inl (List.mem_append_left _ e)
    · cases e; exact .inl (by simp)
  · rcases List.mem_append.mp hv with e | e
    · exact List.mem_append_left _ (h.cl4 v e w hw)
    · simp at e
      subst e
      rw [h0] at hw
      simp at hw
  · rcases List.mem_append.mp hv with e | e
    · rcases (h.iff w).mp (h.cl4 v e w hw) with z | z
      · exact .inl (List.mem_append_left _ z)
      · obtain ⟨x, hx, rfl⟩ := List.mem_map.mp z
        exact .inr (h.tlr c rfl x hx)
    · simp at e
      subst e
      rw [h0] at hw
      simp at hw
/-- a new phase with steps: grey -/
theorem DF.open (h : DF s ks kn fo g (some c)) (hc : c ∉ kn) {d : Ph} (h0 : (s c)[0]? = some d) (hd : d ∈ ks) : DF s ks (kn ++ [c]) fo (g ++ [(c, 1)]) (some d) := by
  obtain ⟨n1, n2⟩ := not_kn h hc
  have hd2 : d ∈ s c := List.mem_of_getElem? h0
  refine ⟨fun p => ?_, nodup_snoc h.knd hc, h.fnd, ?_, fun p hp => ?_, fun p hp => ?_, fun x e => by cases e; exact hd, fun x hx => ?_, ?_, fun x e y hy => ?_, fun x hx k hk w hw => ?_, fun v hv w hw => List.mem_append_left _ (h.cl4 v hv w hw), h.q⟩
  · simp only [List.map_append, List.mem_append, h.iff p, List.map_cons, List.map_nil, List.mem_singleton, or_assoc]
  · rw [List.map_append]
    exact nodup_snoc h.gnd n2
  · rw [List.map_append] at hp
    rcases List.mem_append.mp hp with e | e
    · exact h.dis p e
    · simp at e
      subst e
      exact n1
  · rcases List.mem_append.mp hp with e | e
    · exact h.kks p e
    · simp at e
      subst e
      exact h.tks _ rfl
  · rcases List.mem_append.mp hx with e | e
    · exact h.lim x e
    · simp at e
      subst e
      have := (List.getElem?_eq_some_iff.mp h0).1
      exact ⟨Nat.le_refl _, by show 1 ≤ (s c).length; omega⟩
  · rw [List.pairwise_append]
    refine ⟨h.ch, by simp, fun x hx y hy => ?_⟩
    simp at hy
    subst hy
    exact h.tlr c rfl x hx
  · cases e
    rcases List.mem_append.mp hy with e | e
    · exact (h.tlr c rfl y e).trans (.one hd2)
    · simp at e
      subst e
      exact .one hd2
  · rcases List.mem_append.mp hx with e | e
    · rcases h.cl3 x e k hk w hw with z | z
      · exact .inl (List.mem_append_left _ z)
      · cases z; exact .inl (by simp)
    · simp at e
      subst e
      have : k = 0 := by simpa using hk
      subst this
      rw [h0] at hw
      cases hw
      exact .inr rfl
/-- the top is done -/
theorem DF.close (h : DF s ks kn fo (g ++ [(p, a)]) none) (ha : a = (s p).length) : DF s ks kn (fo ++ [p]) g none := by
  have hpg : p ∈ (g ++ [(p, a)]).map (·.1) := by simp
  have n1 := h.dis p hpg
  have hgn := h.gnd
  rw [List.map_append] at hgn
  have hch := List.pairwise_append.mp h.ch
  have hps : ∀ w ∈ s p, w ∈ kn := fun w hw => by
    obtain ⟨k, hk⟩ := List.mem_iff_getElem?.mp hw
    have := (List.getElem?_eq_some_iff.mp hk).1
    rcases h.cl3 (p, a) (by simp) k (by show k < a; omega) w hk with z | z
    · exact z
    · cases z
  have grey : ∀ w ∈ kn, w ∈ fo ++ [p] ∨ Pth s w p := fun w hw => by
    rcases (h.iff w).mp hw with z | z
    · exact .inl (List.mem_append_left _ z)
    · rw [List.map_append] at z
      rcases List.mem_append.mp z with z | z
      · obtain ⟨x, hx, rfl⟩ := List.mem_map.mp z
        exact .inr (hch.2.2 x hx (p, a) (by simp))
      · simp at z
        subst z
        exact .inl (by simp)
  refine ⟨fun q => ?_, h.knd, nodup_snoc h.fnd n1, (List.nodup_append.mp hgn).1, fun q hq hm => ?_, h.kks, by simp, fun x hx => h.lim x (List.mem_append_left _ hx), hch.1, by simp, fun x hx k hk w hw => h.cl3 x (List.mem_append_left _ hx) k hk w hw, fun v hv w hw => ?_, h.q.snoc fun v hv w hw => ?_⟩
  · rw [h.iff q]
    simp only [List.map_append, List.mem_append, List.map_cons, List.map_nil, List.mem_singleton]
    constructor
    · rintro (h | h | h)
      · exact .inl (.inl h)
      · exact .inr h
      · exact .inl (.inr h)
    · rintro ((h | h) | h)
      · exact .inl h
      · exact .inr (.inr h)
      · exact .inr (.inl h)
  · rcases List.mem_append.mp hm with e | e
    · exact h.dis q (by rw [List.map_append]; exact List.mem_append_left _ hq) e
    · simp at e
      subst e
      exact (List.nodup_append.mp hgn).2.2 q hq q (by simp) rfl
  · rcases List.mem_append.mp hv with e | e
    · exact h.cl4 v e w hw
    · simp at e
      subst e
      exact hps w hw
  · rcases List.mem_append.mp hv with e | e
    · exact grey w (h.cl4 v e w hw)
    · simp at e
      subst e
      exact grey w (hps w hw)
/-- the top goes on -/
theorem DF.next (h : DF s ks kn fo (g ++ [(p, a)]) none) {d : Ph} (hd : (s p)[a]? = some d) (hk : d ∈ ks) : DF s ks kn fo (g ++ [(p, a + 1)]) (some d) := by
  have hd2 : d ∈ s p := List.mem_of_getElem? hd
  have hch := List.pairwise_append.mp h.ch
  have em : (g ++ [(p, a + 1)]).map (·.1) = (g ++ [(p, a)]).map (·.1) := by simp
  refine ⟨fun q => by rw [em]; exact h.iff q, h.knd, h.fnd, by rw [em]; exact h.gnd, by rw [em]; exact h.dis, h.kks, fun x e => by cases e; exact hk, fun x hx => ?_, ?_, fun x e y hy => ?_, fun x hx k hk' w hw => ?_, h.cl4, h.q⟩
  · rcases List.mem_append.mp hx with e | e
    · exact h.lim x (List.mem_append_left _ e)
    · simp at e
      subst e
      have := (List.getElem?_eq_some_iff.mp hd).1
      exact ⟨by show 1 ≤ a + 1; omega, by show a + 1 ≤ (s p).length; omega⟩
  · rw [List.pairwise_append]
    refine ⟨hch.1, by simp, fun x hx y hy => ?_⟩
    simp at hy
    subst hy
    exact hch.2.2 x hx (p, a) (by simp)
  · cases e
    rcases List.mem_append.mp hy with e | e
    · exact (hch.2.2 y e (p, a) (by simp)).trans (.one hd2)
    · simp at e
      subst e
      exact .one hd2
  · rcases List.mem_append.mp hx with e | e
    · rcases h.cl3 x (List.mem_append_left _ e) k hk' w hw with z | z
      · exact .inl z
      · cases z
    · simp at e
      subst e
      by_cases hka : k = a
      · subst hka
        rw [hd] at hw
        cases hw
        exact .inr rfl
      · rcases h.cl3 (p, a) (by simp) k (by show k < a; have : k < a + 1 := hk'; omega) w hw with z | z
        · exact .inl z
        · cases z
end
/-- a finished order -/
structure Fin (s : Ph → List Ph) (ks fo : List Ph) : Prop where
  nd : fo.Nodup
  mem : ∀ p, p ∈ fo ↔ p ∈ ks
  q : QF s fo
theorem DF.fin {s : Ph → List Ph} {ks kn fo : List Ph} (h : DF s ks kn fo [] none) (all : ∀ p ∈ ks, p ∈ kn) : Fin s ks fo := by
  refine ⟨h.fnd, fun p => ⟨fun hp => h.kks p ((h.iff p).mpr (.inl hp)), fun hp => ?_⟩, h.q⟩
  rcases (h.iff p).mp (all p hp) with e | e
  · exact e
  · simp at e
/-- Kosaraju: who reaches the last one that is unknown is reached by it -/
theorem Fin.back {s : Ph → List Ph} {ks fo : List Ph} (h : Fin s ks fo) (hsk : ∀ p ∈ ks, ∀ q ∈ s p, q ∈ ks) {S : Ph → Prop} (hS : ∀ p q, q ∈ ks → p ∈ s q → S p → S q) {i : Nat} {f : Ph} (hf : fo[i]? = some f) (hl : ∀ j x, i < j → fo[j]? = some x → S x) :
    ∀ (n : Nat) (v : Ph), v ∈ ks → ¬ S v → Pth s v f → (∀ j, fo[j]? = some v → i - j ≤ n) → Pth s f v := by
  intro n
  induction n with
  | zero =>
    intro v hv hns hp hn
    obtain ⟨j, hj⟩ := List.mem_iff_getElem?.mp ((h.mem v).mpr hv)
    have h0 := hn j hj
    have : ¬ i < j := fun q => hns (hl j v q hj)
    have : j = i := by omega
    subst this
    rw [hf] at hj
    cases hj
    exact .nil
  | succ n ih =>
    intro v hv hns hp hn
    obtain ⟨j, hj⟩ := List.mem_iff_getElem?.mp ((h.mem v).mpr hv)
    have hji : ¬ i < j := fun q => hns (hl j v q hj)
    by_cases he : j = i
    · subst he
      rw [hf] at hj
      cases hj
      exact .nil
    · have hvA : v ∈ fo.take (j + 1) := List.mem_iff_getElem?.mpr ⟨j, by rw [List.getElem?_take_of_lt (by omega)]; exact hj⟩
      have hfA : ¬ f ∈ fo.take (j + 1) := fun hm => by
        obtain ⟨k, hk, e⟩ := List.mem_take_iff_getElem.mp hm
        have h1 := List.getElem?_eq_some_iff.mp hf
        obtain ⟨g1, g2⟩ := h1
        exact (List.pairwise_iff_getElem.mp h.nd k i (by omega) g1 (by omega)) (by rw [e, g2])
      obtain ⟨x, y, hx, hy, hxy, hvy, hyf⟩ := hp.leave (A := fun z => z ∈ fo.take (j + 1)) hvA hfA
      have hyv : Pth s y v := by
        rcases h.q j v hj x hx y hxy with z | z
        · exact (hy z).elim
        · exact z
      have hyS : ¬ S y := fun z => hns (hvy.closed hsk hS hv z)
      have hyk : y ∈ ks := hsk x ((h.mem x).mp (List.mem_of_mem_take hx)) y hxy
      refine (ih y hyk hyS hyf fun j' hj' => ?_).trans hyv
      have h2 := hn j hj
      have : ¬ j' < j + 1 := fun q => hy (List.mem_iff_getElem?.mpr ⟨j', by rw [List.getElem?_take_of_lt q]; exact hj'⟩)
      omega
end G6

-- G6Mf
namespace G6
open PySem PySem.Spec PyProof.Rows L2
/-! ### the stack, one turn -/
def stk (g : List (Ph × Nat)) (tl : Option Ph) : List (Ph × Nat) := g ++ tl.toList.map fun c => (c, 0)
def gsum : List (Ph × Nat) → Nat
  | [] => 0
  | x :: g => (7 - 2 * x.2) + gsum g
theorem gsum_snoc (g : List (Ph × Nat)) (x : Ph × Nat) : gsum (g ++ [x]) = gsum g + (7 - 2 * x.2) := by
  induction g with
  | nil => simp [gsum]
  | cons y g ih =>
    rw [List.cons_append]
    simp only [gsum]
    omega
def mu (kn : List Ph) (g : List (Ph × Nat)) (tl : Option Ph) : Nat := (1025 - kn.length) * 9 + gsum g + tl.toList.length
def addK (kn : List Ph) (p : Ph) : List Ph := if p ∈ kn then kn else kn ++ [p]
theorem DF.pop {s : Ph → List Ph} {ks kn fo : List Ph} {g : List (Ph × Nat)} {tl : Option Ph} (h : DF s ks kn fo g tl) (hlen : ∀ p, (s p).length ≤ 3) (hk : ks.length ≤ 1024) (hsk : ∀ p ∈ ks, ∀ q ∈ s p, q ∈ ks) (hne : stk g tl ≠ []) :
    (∃ c, tl = some c ∧ c ∈ kn ∧ mu kn g none < mu kn g tl) ∨ ∃ p a g', stk g tl = g' ++ [(p, a)] ∧ p ∈ ks ∧ a ≤ (s p).length ∧ (a = 0 → p ∉ kn) ∧ (a ≠ 0 → p ∈ kn) ∧ (∀ c, tl = some c → c = p) ∧
      (a = (s p).length → DF s ks (addK kn p) (fo ++ [p]) g' none ∧ mu (addK kn p) g' none < mu kn g tl) ∧
      (∀ d, (s p)[a]? = some d → DF s ks (addK kn p) fo (g' ++ [(p, a + 1)]) (some d) ∧ mu (addK kn p) (g' ++ [(p, a + 1)]) (some d) < mu kn g tl) := by
  have hkl : kn.length ≤ 1024 := Nat.le_trans (nodup_len h.knd h.kks) hk
  cases tl with
  | some c =>
    by_cases hc : c ∈ kn
    · refine .inl ⟨c, rfl, hc, ?_⟩
      unfold mu
      simp
    · refine .inr ⟨c, 0, g, rfl, h.tks c rfl, Nat.zero_le _, fun _ => hc, fun z => (z rfl).elim, fun x e => by cases e; rfl, fun e => ?_, fun d hd => ?_⟩
      · have e0 : s c = [] := List.eq_nil_of_length_eq_zero e.symm
        have : addK kn c = kn ++ [c] := if_neg hc
        rw [this]
        refine ⟨h.leaf hc e0, ?_⟩
        unfold mu
        simp only [List.length_append, List.length_singleton, Option.toList, List.length_nil]
        omega
      · have : addK kn c = kn ++ [c] := if_neg hc
        rw [this]
        refine ⟨h.open hc hd (hsk c (h.tks c rfl) d (List.mem_of_getElem? hd)), ?_⟩
        unfold mu
        rw [gsum_snoc]
        simp only [List.length_append, List.length_singleton, Option.toList]
        omega
  | none =>
    right
    have hs : stk g none = g := by simp [stk]
    rw [hs] at hne ⊢
    rcases List.eq_nil_or_concat g with rfl | ⟨g', x, rfl⟩
    · exact (hne rfl).elim
    · rw [List.concat_eq_append] at *
      obtain ⟨p, a⟩ := x
      have hx : (p, a) ∈ g' ++ [(p, a)] := by simp
      have lim := h.lim _ hx
      have hpk : p ∈ kn := (h.iff p).mpr (.inr (List.mem_map.mpr ⟨_, hx, rfl⟩))
      have hadd : addK kn p = kn := if_pos hpk
      have hl3 := hlen p
      refine ⟨p, a, g', rfl, h.kks p hpk, lim.2, fun e => ?_, fun _ => hpk, fun _ e => (nomatch e), fun e => ⟨by rw [hadd]; exact h.close e, ?_⟩, fun d hd => ⟨by rw [hadd]; exact h.next hd (hsk p (h.kks p hpk) d (List.mem_of_getElem? hd)), ?_⟩⟩
      · have : 1 ≤ a := lim.1
        omega
      · have : a ≤ (s p).length := lim.2
        rw [hadd]
        unfold mu
        rw [gsum_snoc]
        simp only [Option.toList, List.length_nil]
        omega
      · have : a < (s p).length := (List.getElem?_eq_some_iff.mp hd).1
        rw [hadd]
        unfold mu
        rw [gsum_snoc, gsum_snoc]
        simp only [Option.toList, List.length_nil, List.length_singleton]
        omega
theorem DF.stk_len {s : Ph → List Ph} {ks kn fo : List Ph} {g : List (Ph × Nat)} {tl : Option Ph} (h : DF s ks kn fo g tl) (hk : ks.length ≤ 1024) : (stk g tl).length ≤ 1025 := by
  have h1 : g.length ≤ ks.length := by
    have := nodup_len h.gnd (m := ks) fun p hp => h.kks p ((h.iff p).mpr (.inr hp))
    rwa [List.length_map] at this
  unfold stk
  rw [List.length_append, List.length_map]
  cases tl <;> simp <;> omega
theorem stk_none (g : List (Ph × Nat)) : stk g none = g := by simp [stk]
theorem stk_some (g : List (Ph × Nat)) (c : Ph) : stk g (some c) = g ++ [(c, 0)] := rfl
theorem DF.nil_done {g : List (Ph × Nat)} {tl : Option Ph} (e : stk g tl = []) : g = [] ∧ tl = none := by
  unfold stk at e
  have := List.append_eq_nil_iff.mp e
  refine ⟨this.1, ?_⟩
  cases tl with
  | none => rfl
  | some c => simp at this
theorem mem_addK {kn : List Ph} {p q : Ph} : q ∈ addK kn p ↔ q ∈ kn ∨ q = p := by
  unfold addK
  by_cases h : p ∈ kn
  · rw [if_pos h]
    exact ⟨.inl, fun z => z.elim id fun e => e ▸ h⟩
  · rw [if_neg h]
    simp
/-- successors -/
def suc (L : Nat) (t : List Item) (p : Ph) : List Ph := (steps L t p).map (·.2)
theorem suc_len (L : Nat) (t : List Item) (hL : L ≤ 2) (p : Ph) : (suc L t p).length ≤ 3 := by
  have := steps_len L t p
  unfold suc
  rw [List.length_map]
  omega
theorem AllPh.suc {L : Nat} {t : List Item} {ks : List Ph} (h : AllPh L t ks) : ∀ p ∈ ks, ∀ q ∈ G6.suc L t p, q ∈ ks := by
  intro p hp q hq
  obtain ⟨x, hx, rfl⟩ := List.mem_map.mp hq
  exact h.step hp hx
theorem mem_bk' {L : Nat} {t : List Item} {ks : List Ph} {p q : Ph} : p ∈ bkOf (edges L t ks) q ↔ p ∈ ks ∧ q ∈ suc L t p := by
  rw [mem_bk]
  unfold suc
  simp only [List.mem_map]
end G6

-- G6F_Ak
namespace G6
open PySem PySem.Spec PyProof.Rows L2
section
variable {P : Program} {w : World} {K : PySem.W.Frag} {mg : Str → Option Value} {base : Heap}
theorem lineK_suc (L : Nat) (t : List Item) (p : Ph) : lineK L t p = (suc L t p).map phK := by
  unfold lineK suc
  rw [List.map_map]
  rfl
theorem keys_put {kvs : List (Ph × V)} {kn : List Ph} (h : kvs.map (·.1) = kn) (p : Ph) (v : V) : (putK kvs p v).map (·.1) = addK kn p := by
  subst h
  unfold addK
  by_cases hp : p ∈ kvs.map (·.1)
  · rw [if_pos hp]
    obtain ⟨v0, e, _⟩ := valV_of_mem hp
    unfold putK
    rw [if_pos (by rw [valV_any, e]; rfl), List.map_map]
    refine List.map_congr_left fun q _ => ?_
    show (if q.1 = p then (q.1, v) else q).1 = q.1
    split <;> rfl
  · rw [if_neg hp]
    exact (keys_put_new hp).1
abbrev N_finished : List Str := ["lines", "known", "found", "first", "waiting", "phase", "at"]
theorem sc_finished : FnScope N_finished ["lines"] (defScope s_finished) := ⟨rfl, rfl, rfl, by decide +kernel, rfl, by decide +kernel, by decide +kernel⟩
def sp_finished (P : Program) (w : World) (K : PySem.W.Frag) : Sp := fun vs H Q _ => ∃ (d : Addr) (t : List Item) (R L : Nat) (ks : List Ph), vs = [.ref d] ∧ KD P w K H EP d ks (lineK L t) ∧ AllPh L t ks ∧ WF R L t ∧
  ∀ l us fo H', Same H H' → H l = none → H' l = some (.lst us) → NKs K H' (fo.map phK) us → Fin (suc L t) ks fo → Q (.ref l) H'
theorem f_finished (c : Cn K mg) : C8.Cal P w K mg base 1 "finished" (sp_finished P w K) [] := by
  refine cal_of (N := N_finished) c.g_finished c.d_finished sc_finished (fun _ _ _ _ _ _ us hl => match us, hl with | [_], _ => rfl) (fun vs H Q E h => ?len) (fun cdv A outer s H vs Q E hr h => ?_)
  case len => obtain ⟨d, t, R, L, ks, rfl, _⟩ := h; rfl
  obtain ⟨d, t, R, L, ks, rfl, kd, all, wf, q⟩ := h
  refine ⟨_, (pss_cons (ps_set (i := 1) sc_finished.nd rfl (Or.inl rfl) (knnew P w))
      (pss_cons (ps_set (i := 2) sc_finished.nd rfl (Or.inl rfl) (pe_lst pa_nil))
      (pss_cons (ps_for PassesOwn.never rfl (kpi_list K (pe_callB (r := rSortN P w K) (kc_sorted P w K hr) (by rfl) c.z_sorted (by decide +kernel) (pa_cons (pv 0) pa_nil))) (pg_name (i := 3) sc_finished.nd rfl (Or.inl rfl)) (pss_cons (ps_set (i := 4) sc_finished.nd rfl (Or.inl rfl) (pe_lst (pa_cons (pe_tup (pa_cons (pv 3) (pa_cons pe_int pa_nil))) pa_nil)))
      (pss_one (ps_while PassesOwn.never (pt_cmpR op_gt (pe_callB (r := rLenA K) (kc_len K) (by rfl) c.z_len (by decide +kernel) (pa_cons (pv 4) pa_nil)) pe_int (nomark _)) (pss_cons (ps_asg (kpop K (pv 4)) (kpg_tup K (pgs_cons (pg_name (i := 5) sc_finished.nd rfl (Or.inl rfl)) (pgs_cons (pg_name (i := 6) sc_finished.nd rfl (Or.inl rfl)) pgs_nil))))
      (pss_cons (ps_if (PW.pt (pw_and (pt_cmpR op_eq (pv 6) pe_int (nomark _)) (pw_and1 (pt_cmp (knin P w K EP hr (pv 5) (pv 1)))))) (pss_one (ps_continue)) pss_nil)
      (pss_cons (knput P w K EP hr (pv 1) (pv 5) pe_bl)
      (pss_one (ps_if (pt_cmpR op_eq (pv 6) (pe_callB (r := rLenA K) (kc_len K) (by rfl) c.z_len (by decide +kernel) (pa_cons (knget P w K EP hr (pv 0) (pv 5)) pa_nil)) (nomark _)) (pss_one (ps_expr (kbm K PySem.F.slot_list_append PySem.F.type_list_append mt_append (pv 2) (pa_cons (pv 5) pa_nil)))) (pss_cons (ps_expr (kbm K PySem.F.slot_list_append PySem.F.type_list_append mt_append (pv 4) (pa_cons (pe_tup (pa_cons (pv 5) (pa_cons (pe_op op_add (pv 6) pe_int) pa_nil))) pa_nil)))
      (pss_one (ps_expr (kbm K PySem.F.slot_list_append PySem.F.type_list_append mt_append (pv 4) (pa_cons (pe_tup (pa_cons (kixL K (knget P w K EP hr (pv 0) (pv 5)) (pv 6)) (pa_cons pe_int pa_nil))) pa_nil))))))))))))))
      (pss_one (ps_ret (pv 2)))))), ?_⟩
  have hlen : ks.length ≤ 1024 := Nat.le_trans (all.len wf) wf.univ_le
  have hs3 := suc_len L t wf.l2
  intro nd nnd hsys
  refine ⟨sz 0 (by decide), fun fl nfl => ?_⟩
  have s1 := Same.trans (same_new (o := NDo P w nd []) nnd) (same_new (o := .lst []) nfl)
  have ndfl : nd ≠ fl := fun e => by subst e; rw [upd_same] at nfl; cases nfl
  have Hfl : H fl = none := Same.free (same_new nnd) nfl
  obtain ⟨kvs, hkv, hks, hlv⟩ := kd.same s1
  obtain ⟨xs, hsrc, hxs⟩ := hkv.src
  rw [hks] at hxs
  replace hxs : NKs K _ (ks.map phK) xs := hxs
  have hxl : xs.length = ks.length := by have := hxs.length; simpa using this
  refine ⟨_, rfl, d, xs, ks.map phK, rfl, hsrc, hxs, alk_ph ks, by rw [hxl]; exact sz _ (by omega), fun p np => ?_⟩
  obtain ⟨es, hperm, hes⟩ := sortN_out hxs (PySem.W.dataLe false fun b => b.1.data)
  generalize hys : (((ks.map phK).zip xs).mergeSort (PySem.W.dataLe false fun b => b.1.data)).map (·.2) = ys at hes
  refine ⟨p, rfl, ⟨ys, .inl (.inl upd_same)⟩, ?_⟩
  have s2 := Same.trans s1 (same_new (o := .lst ys) np)
  have hyl : ys.length = ks.length := by
    have h1 := hes.length
    have h2 := hperm.length_eq
    simp at h2
    omega
  have ndp : nd ≠ p := fun e => by subst e; rw [upd_ne ndfl, upd_same] at np; cases np
  have flp : fl ≠ p := fun e => by subst e; rw [upd_same] at np; cases np
  have Hp' : H p = none := Same.free s1 np
  have hes2 := NKs.tk (Tk.new (o := .lst ys) np) _ _ hes
  refine for_it (walk_list (xs := ys)) (fun i σ H1 => ∃ (kk : List (Ph × V)) (kn fo : List Ph) (fs : List V) (u3 u4 u5 u6 : Option V), σ = [some (.ref d), some (.ref nd), some (.ref fl), u3, u4, u5, u6] ∧ Same H H1 ∧ H1 p = some (.lst ys) ∧ NKs K H1 es ys ∧ ND P w K H1 EP nd kk ∧ kk.map (·.1) = kn ∧ H1 fl = some (.lst fs) ∧ NKs K H1 (fo.map phK) fs ∧
    DF (suc L t) ks kn fo [] none ∧ ∀ j, j < i → ∀ b, es[j]? = some (phK b) → b ∈ kn) ?_ ?_ ?_ ?_
  · refine ⟨[], [], [], [], _, _, _, _, rfl, s2, upd_same, hes2, ND.empty hsys (by rw [upd_ne ndp, upd_ne ndfl]; exact upd_same), rfl, by rw [upd_ne flp]; exact upd_same, .nil, DF.start _ _, by intro j hj; omega⟩
  · rintro i σ H1 _ ⟨_, _, _, _, _, _, _, _, _, _, h, _⟩
    exact .inl (.inl h)
  · rintro i v σ H1 H1' hi ⟨kk, kn, fo, fs, u3, u4, u5, u6, rfl, sm, hp, hes1, hnd, hkk, hfl, hfs, df, hdone⟩ ⟨e1, ex⟩
    subst e1
    obtain ⟨k, hk1, hk2⟩ := hes1.getV ex
    have hkm : k ∈ ks.map phK := hperm.mem_iff.mp (List.mem_of_getElem? hk1)
    obtain ⟨b0, hb0, rfl⟩ := List.mem_map.mp hkm
    refine ⟨_, rfl, sz 2 (by decide), fun tp ntp => ⟨sz 1 (by decide), fun W nW => ?_⟩⟩
    have s3 := Same.trans (same_new (o := .tup [v, .int 0]) ntp) (same_new (o := .lst [.ref tp]) nW)
    have nW0 : H1' W = none := Same.free (same_new ntp) nW
    have HW : H W = none := Same.free sm nW0
    have pW : p ≠ W := fun e => by subst e; rw [hp] at nW0; cases nW0
    have flW : fl ≠ W := fun e => by subst e; rw [hfl] at nW0; cases nW0
    have ndW : nd ≠ W := fun e => by
      subst e
      obtain ⟨o, ho⟩ := hnd.some
      rw [ho] at nW0
      cases nW0
    refine ⟨fun m σ H2 => ∃ (kk : List (Ph × V)) (kn2 fo : List Ph) (fs : List V) (g : List (Ph × Nat)) (tl : Option Ph) (vs : List V) (u5 u6 : Option V), σ = [some (.ref d), some (.ref nd), some (.ref fl), some v, some (.ref W), u5, u6] ∧ Same H H2 ∧ H2 p = some (.lst ys) ∧ NKs K H2 es ys ∧ ND P w K H2 EP nd kk ∧ kk.map (·.1) = kn2 ∧ H2 fl = some (.lst fs) ∧ NKs K H2 (fo.map phK) fs ∧
      H2 W = some (.lst vs) ∧ NKs K H2 ((stk g tl).map nodeK) vs ∧ DF (suc L t) ks kn2 fo g tl ∧ (∀ x ∈ kn, x ∈ kn2) ∧ (b0 ∈ kn2 ∨ tl = some b0) ∧ m = mu kn2 g tl,
      ⟨_, kk, kn, fo, fs, [], some b0, [.ref tp], _, _, rfl, Same.trans sm s3, s3 _ _ hp, NKs.tk (Tk.same s3) _ _ hes1, hnd.same s3, hkk, s3 _ _ hfl, NKs.tk (Tk.same s3) _ _ hfs, upd_same, ?_, df.root hb0, fun x h => h, .inr rfl, rfl⟩, ?_⟩
    · exact .cons (two_mk (.inl (.inl (same_new nW _ _ upd_same))) (NK.tk (Tk.same s3) _ _ hk2) (.num _)) .nil
    rintro m σ H2 ⟨kk2, kn2, fo2, fs2, g, tl, ws, u5, u6, rfl, sm2, hp2, hes2, hnd2, hkk2, hfl2, hfs2, hW2, hws, df2, hmono, hb, hm⟩
    have hwl : ws.length = (stk g tl).length := by have := hws.length; simpa using this
    refine ⟨_, rfl, _, _, rfl, .inl (.inl (.inl hW2)), _, _, rfl, rfl, _, rfl, ?_⟩
    by_cases hne : stk g tl = []
    · obtain ⟨rfl, rfl⟩ := DF.nil_done hne
      rw [hwl, hne]
      refine iteF ?_
      have hb' : b0 ∈ kn2 := hb.resolve_right (by simp)
      refine ⟨kk2, kn2, fo2, fs2, _, _, _, _, rfl, sm2, hp2, hes2, hnd2, hkk2, hfl2, hfs2, df2, fun j hj b hjb => ?_⟩
      by_cases e : j = i
      · subst e
        rw [hk1] at hjb
        have := phK_inj _ _ (Option.some.inj hjb)
        exact this ▸ hb'
      · exact hmono _ (hdone j (by omega) b hjb)
    · have hpos : 0 < ws.length := by rw [hwl]; exact List.length_pos_iff.mpr hne
      rw [decide_eq_true (by omega)]
      have hsl := df2.stk_len hlen
      refine iteT ⟨fun σ' H' => ∃ m', m' < m ∧ _, fun σ' H' h => h, ?_⟩
      -- the top entry
      obtain ⟨st', x, hst⟩ : ∃ st' x, stk g tl = st' ++ [x] := by
        rcases List.eq_nil_or_concat (stk g tl) with h | ⟨a, b, h⟩
        · exact (hne h).elim
        · exact ⟨a, b, by rw [h, List.concat_eq_append]⟩
      have hws' := hws
      rw [hst, List.map_append] at hws'
      obtain ⟨ws', vt, rfl, hws1, hvt⟩ := NKs.snoc_inv hws'
      refine ⟨_, rfl, .inl ⟨rfl, _, .inl (.inl hW2)⟩, W, ws' ++ [vt], vt, rfl, rfl, hW2, by simp, ?_⟩
      rw [List.dropLast_concat]
      have tm := Tk.mut (o := .lst ws') hW2 True.intro
      have sb3 : SB (· = W) H2 (upd H2 W (.lst ws')) := (SB.refl (fun b e => by subst e; rw [hW2]; exact True.intro)).upd rfl
      have sm3 : Same H (upd H2 W (.lst ws')) := Same.mut sm2 HW
      obtain ⟨ta, u, z, rfl, h1, h2, h3⟩ := two_inv (NK.tk tm _ _ hvt)
      have hz := num_inv h3
      subst hz
      obtain ⟨p0, a0⟩ := x
      obtain ⟨bb, ee, rfl, hbb, hee⟩ := ph_inv h2
      refine ⟨ta, _, rfl, h1, rfl, _, _, rfl, _, _, rfl, rfl, ?_⟩
      have hp3 := sb3.out _ _ pW hp2
      have hfl3 := sb3.out _ _ flW hfl2
      have hnd3 := sb3.nd ndW hnd2
      have hes3 := NKs.tk tm _ _ hes2
      have hfs3 := NKs.tk tm _ _ hfs2
      have hws3 := NKs.tk tm _ _ hws1
      have hW3 : upd H2 W (.lst ws') W = some (.lst ws') := upd_same
      generalize upd H2 W (.lst ws') = H3 at *
      rcases df2.pop hs3 hlen all.suc hne with ⟨c0, htl, hc, hmu⟩ | ⟨p, a, g', hst2, hpks, hal, ha0, ha1, htp, hdo, hgo⟩
      · subst htl
        rw [stk_some] at hst
        obtain ⟨e1, e2⟩ := List.append_inj' hst rfl
        simp at e2
        obtain ⟨rfl, rfl⟩ := e2
        subst e1
        refine ⟨_, rfl, rfl, true, rfl, iteT ⟨_, rfl, _, rfl, nd, bb, kk2, _, rfl, rfl, hnd3.r, h2, _, rfl, ?_⟩⟩
        rw [isSome_in hkk2 hc]
        refine iteT ?_
        refine ⟨_, ?_, kk2, kn2, fo2, fs2, _, none, ws', _, _, rfl, sm3, hp3, hes3, hnd3, hkk2, hfl3, hfs3, hW3, by rw [stk_none]; exact hws3, df2.skip hc, hmono, ?_, rfl⟩
        · rw [hm]; exact hmu
        · rcases hb with h | h
          · exact .inl h
          · cases h; exact .inl hc
      · rw [hst] at hst2
        obtain ⟨e1, e2⟩ := List.append_inj' hst2 rfl
        simp at e2
        obtain ⟨rfl, rfl⟩ := e2
        subst e1
        have hmono' : ∀ x ∈ kn, x ∈ addK kn2 p0 := fun x hx => mem_addK.mpr (.inl (hmono x hx))
        have hb' : b0 ∈ addK kn2 p0 := by
          rcases hb with h | h
          · exact mem_addK.mpr (.inl h)
          · exact mem_addK.mpr (.inr (htp _ h))
        have okp := (all.mem _).mp hpks
        have test : ∀ (Qt : Bool → Hp → Prop), Qt false H3 → tAnd (tTest (tOp rEq (tVar 6) (tC (V.int 0)))) (tB (tNIn P w K EP (tVar 5) (tVar 1))) [some (.ref d), some (.ref nd), some (.ref fl), some v, some (.ref W), some (.ref bb), some (.int (a0 : Int))] H3 Qt := by
          intro Qt hq
          by_cases h0 : a0 = 0
          · refine ⟨_, rfl, rfl, true, congrArg V.bl (decide_eq_true (by rw [h0]; rfl)), iteT ⟨_, rfl, _, rfl, nd, bb, kk2, _, rfl, rfl, hnd3.r, h2, _, rfl, ?_⟩⟩
            rw [isSome_out hkk2 (ha0 h0)]
            exact hq
          · exact ⟨_, rfl, rfl, false, congrArg V.bl (decide_eq_false (fun e => h0 (by injection e with e; omega))), iteF hq⟩
        refine test _ (iteF ?_)
        have hkl : kk2.length = kn2.length := by rw [← hkk2, List.length_map]
        have hkl2 : kn2.length ≤ 1024 := Nat.le_trans (nodup_len df2.knd df2.kks) hlen
        refine ⟨_, rfl, _, rfl, nd, bb, kk2, p0, rfl, rfl, hnd3, h2, by rw [hkl]; exact Nat.lt_of_le_of_lt hkl2 (by decide), fun ob hno => ?_⟩
        have hkeys := keys_put hkk2 p0 (.bl true)
        have hnot := hnd3.not
        have tk4 : Tk H3 (upd H3 nd ob) := Tk.upd hnot
        have sm4 : Same H (upd H3 nd ob) := Same.mut sm3 nnd
        have hp4 : upd H3 nd ob p = some (.lst ys) := by rw [upd_ne (Ne.symm ndp)]; exact hp3
        have hfl4 : upd H3 nd ob fl = some (.lst fs2) := by rw [upd_ne (Ne.symm ndfl)]; exact hfl3
        have hW4 : upd H3 nd ob W = some (.lst ws') := by rw [upd_ne (Ne.symm ndW)]; exact hW3
        have hes4 := NKs.tk tk4 _ _ hes3
        have hfs4 := NKs.tk tk4 _ _ hfs3
        have hws4 := NKs.tk tk4 _ _ hws3
        have h24 := NK.tk tk4 _ _ h2
        generalize upd H3 nd ob = H4 at *
        obtain ⟨kv4, l, us, hkd, hval, hl, hus⟩ := (KD.same sm4 kd).get hpks
        rw [lineK_suc] at hus
        have hul : us.length = (suc L t p0).length := by have := hus.length; simpa using this
        refine ⟨_, rfl, _, rfl, _, rfl, d, bb, kv4, p0, _, rfl, rfl, hkd, h24, hval, _, _, rfl, .inl (.inl (.inl hl)), rfl, _, rfl, ?_⟩
        have hfol : fo2.length ≤ 1024 := Nat.le_trans (nodup_len df2.fnd (fun x hx => df2.kks x ((df2.iff x).mpr (.inl hx)))) hlen
        have hfsl : fs2.length = fo2.length := by have := hfs4.length; simpa using this
        have hwsl : ws'.length ≤ 1025 := by
          have := hws4.length
          rw [List.length_map] at this
          rw [hst, List.length_append] at hsl
          simp at hsl
          omega
        by_cases he : a0 = (suc L t p0).length
        · rw [decide_eq_true (by rw [he, hul])]
          refine iteT ⟨_, rfl, .inl ⟨rfl, _, .inl (.inl hfl4)⟩, _, rfl, fl, fs2, _, rfl, rfl, hfl4, by rw [hfsl]; exact Nat.lt_of_le_of_lt hfol (by decide), ?_⟩
          have tm5 := Tk.mut (o := .lst (fs2 ++ [.ref bb])) hfl4 True.intro
          have sb5 : SB (· = fl) H4 (upd H4 fl (.lst (fs2 ++ [.ref bb]))) := (SB.refl (fun b e => by subst e; rw [hfl4]; exact True.intro)).upd rfl
          obtain ⟨hdf, hmu⟩ := hdo he
          refine ⟨_, ?_, _, _, fo2 ++ [p0], _, st', none, ws', _, _, rfl, Same.mut sm4 Hfl, sb5.out _ _ (Ne.symm flp) hp4, NKs.tk tm5 _ _ hes4, sb5.nd ndfl hno, hkeys, upd_same, ?_, sb5.out _ _ (Ne.symm flW) hW4, by rw [stk_none]; exact NKs.tk tm5 _ _ hws4, hdf, hmono', .inl hb', rfl⟩
          · rw [hm]; exact hmu
          · rw [List.map_append]
            exact NKs.append (NKs.tk tm5 _ _ hfs4) (.cons (NK.tk tm5 _ _ h24) .nil)
        · rw [decide_eq_false (by rw [hul]; intro e; injection e with e; omega)]
          refine iteF ?_
          have hlt : a0 < (suc L t p0).length := by omega
          refine ⟨_, rfl, .inl ⟨rfl, _, .inl (.inl hW4)⟩, _, rfl, _, rfl, _, _, rfl, rfl, sz 2 (by decide), fun t1 n1 => ?_⟩
          have sA := same_new (o := .tup [.ref bb, .int ((a0 : Int) + 1)]) n1
          refine ⟨W, ws', _, rfl, rfl, sA _ _ hW4, Nat.lt_of_le_of_lt hwsl (by decide), ?_⟩
          have hWA := sA _ _ hW4
          have sbB : SB (· = W) H4 (upd (upd H4 t1 (.tup [.ref bb, .int ((a0 : Int) + 1)])) W (.lst (ws' ++ [.ref t1]))) := ((SB.refl (fun b e => by subst e; rw [hW4]; exact True.intro)).new n1).upd rfl
          have t1W : t1 ≠ W := fun e => by subst e; rw [hW4] at n1; cases n1
          have hT1 : upd (upd H4 t1 (.tup [.ref bb, .int ((a0 : Int) + 1)])) W (.lst (ws' ++ [.ref t1])) t1 = some (.tup [.ref bb, .int ((a0 : Int) + 1)]) := by rw [upd_ne t1W]; exact upd_same
          have hWB : upd (upd H4 t1 (.tup [.ref bb, .int ((a0 : Int) + 1)])) W (.lst (ws' ++ [.ref t1])) W = some (.lst (ws' ++ [.ref t1])) := upd_same
          have smB : Same H (upd (upd H4 t1 (.tup [.ref bb, .int ((a0 : Int) + 1)])) W (.lst (ws' ++ [.ref t1]))) := sbB.back sm4 (fun b e => by subst e; exact HW)
          generalize upd (upd H4 t1 (.tup [.ref bb, .int ((a0 : Int) + 1)])) W (.lst (ws' ++ [.ref t1])) = HB at *
          obtain ⟨kv6, l6, us6, hkd6, hval6, hl6, hus6⟩ := (KD.same smB kd).get hpks
          rw [lineK_suc] at hus6
          have hda : (suc L t p0)[a0]? = some ((suc L t p0)[a0]) := List.getElem?_eq_getElem hlt
          obtain ⟨dv, hdv1, hdv2⟩ := hus6.get (i := a0) (k := phK ((suc L t p0)[a0])) (by rw [List.getElem?_map, hda]; rfl)
          obtain ⟨hdf, hmu⟩ := hgo _ hda
          refine ⟨_, rfl, .inl ⟨rfl, _, .inl (.inl hWB)⟩, _, rfl, _, rfl, d, bb, kv6, p0, _, rfl, rfl, hkd6, NK.tk sbB.tk _ _ h24, hval6, _, rfl, _, us6, _, _, rfl, rfl, .inl (.inl hl6), atI_nat hdv1, sz 2 (by decide), fun t2 n2 => ?_⟩
          have sC := same_new (o := .tup [dv, .int 0]) n2
          refine ⟨W, ws' ++ [.ref t1], _, rfl, rfl, sC _ _ hWB, Nat.lt_of_le_of_lt (m := 1026) (by simp; omega) (by decide), ?_⟩
          have sbD : SB (· = W) HB (upd (upd HB t2 (.tup [dv, .int 0])) W (.lst (ws' ++ [.ref t1] ++ [.ref t2]))) := ((SB.refl (fun b e => by subst e; rw [hWB]; exact True.intro)).new n2).upd rfl
          have t2W : t2 ≠ W := fun e => by subst e; rw [hWB] at n2; cases n2
          have hT2 : upd (upd HB t2 (.tup [dv, .int 0])) W (.lst (ws' ++ [.ref t1] ++ [.ref t2])) t2 = some (.tup [dv, .int 0]) := by rw [upd_ne t2W]; exact upd_same
          have tkBD : Tk H4 _ := Tk.trans sbB.tk sbD.tk
          refine ⟨_, ?_, _, _, fo2, fs2, _, some ((suc L t p0)[a0]), _, _, _, rfl, sbD.back smB (fun b e => by subst e; exact HW), sbD.out _ _ pW (sbB.out _ _ pW hp4), NKs.tk tkBD _ _ hes4, sbD.nd ndW (sbB.nd ndW hno), hkeys, sbD.out _ _ flW (sbB.out _ _ flW hfl4), NKs.tk tkBD _ _ hfs4, upd_same, ?_, hdf, hmono', .inl hb', rfl⟩
          · rw [hm]; exact hmu
          · rw [stk_some, List.map_append, List.map_append]
            refine NKs.append (NKs.append (NKs.tk tkBD _ _ hws4) (.cons ?_ .nil)) (.cons ?_ .nil)
            · refine two_mk (sbD.tk.sqt (.inl (.inl hT1))) (NK.tk tkBD _ _ h24) ?_
              have : ((a0 : Int) + 1) = ((a0 + 1 : Nat) : Int) := by simp
              rw [this]
              exact .num _
            · exact two_mk (.inl (.inl hT2)) (NK.tk sbD.tk _ _ hdv2) (.num _)
  · rintro σ H1 ⟨kk, kn, fo, fs, u3, u4, u5, u6, rfl, sm, hp, hes1, hnd, hkk, hfl, hfs, df, hdone⟩
    refine ⟨_, rfl, q fl fs fo H1 sm Hfl hfl hfs (df.fin fun b hb => ?_)⟩
    have : phK b ∈ es := hperm.mem_iff.mpr (List.mem_map.mpr ⟨b, hb, rfl⟩)
    obtain ⟨j, hj⟩ := List.mem_iff_getElem?.mp this
    have hjl := (List.getElem?_eq_some_iff.mp hj).1
    have : es.length = ys.length := hes.length.symm
    exact hdone j (by omega) b hj
end
end G6

-- G6Mg
namespace G6
open PySem PySem.Spec PyProof.Rows L2
/-! ### the flood backwards -/
def Clo (s : Ph → List Ph) (ks kn : List Ph) : Prop := ∀ p ∈ kn, ∀ q ∈ ks, p ∈ s q → q ∈ kn
structure BF (s : Ph → List Ph) (ks kn0 lot ws : List Ph) (f : Ph) : Prop where
  knd : (kn0 ++ lot).Nodup
  kks : ∀ p ∈ kn0 ++ lot, p ∈ ks
  pl : ∀ v ∈ lot, Pth s v f
  pw : ∀ v ∈ ws, Pth s v f ∧ v ∈ ks
  cl : ∀ p ∈ kn0 ++ lot, ∀ q ∈ ks, p ∈ s q → q ∈ kn0 ++ lot ∨ q ∈ ws
  fr : f ∈ kn0 ++ lot ∨ f ∈ ws
section
variable {s : Ph → List Ph} {ks kn0 lot ws ws' : List Ph} {f p : Ph}
theorem BF.start (nd : kn0.Nodup) (hk : ∀ p ∈ kn0, p ∈ ks) (hc : Clo s ks kn0) (hf : f ∈ ks) : BF s ks kn0 [] [f] f := by
  refine ⟨by simpa using nd, by simpa using hk, by simp, fun v hv => ?_, fun p hp q hq e => ?_, .inr (by simp)⟩
  · simp at hv
    subst hv
    exact ⟨.nil, hf⟩
  · rw [List.append_nil] at hp ⊢
    exact .inl (hc p hp q hq e)
theorem BF.skip (h : BF s ks kn0 lot (ws ++ [p]) f) (hp : p ∈ kn0 ++ lot) : BF s ks kn0 lot ws f := by
  refine ⟨h.knd, h.kks, h.pl, fun v hv => h.pw v (List.mem_append_left _ hv), fun x hx q hq e => ?_, ?_⟩
  · rcases h.cl x hx q hq e with z | z
    · exact .inl z
    · rcases List.mem_append.mp z with z | z
      · exact .inr z
      · simp at z
        subst z
        exact .inl hp
  · rcases h.fr with z | z
    · exact .inl z
    · rcases List.mem_append.mp z with z | z
      · exact .inr z
      · simp at z
        subst z
        exact .inl hp
theorem BF.take (h : BF s ks kn0 lot (ws ++ [p]) f) (hp : p ∉ kn0 ++ lot) {bk : List Ph} (hb : ∀ q, q ∈ bk ↔ q ∈ ks ∧ p ∈ s q) : BF s ks kn0 (lot ++ [p]) (ws ++ bk) f := by
  have hpw := h.pw p (by simp)
  have e : kn0 ++ (lot ++ [p]) = (kn0 ++ lot) ++ [p] := by simp
  refine ⟨by rw [e]; exact nodup_snoc h.knd hp, fun x hx => ?_, fun v hv => ?_, fun v hv => ?_, fun x hx q hq e2 => ?_, ?_⟩
  · rw [e] at hx
    rcases List.mem_append.mp hx with z | z
    · exact h.kks x z
    · simp at z
      subst z
      exact hpw.2
  · rcases List.mem_append.mp hv with z | z
    · exact h.pl v z
    · simp at z
      subst z
      exact hpw.1
  · rcases List.mem_append.mp hv with z | z
    · exact h.pw v (List.mem_append_left _ z)
    · obtain ⟨z1, z2⟩ := (hb v).mp z
      exact ⟨.cons z2 hpw.1, z1⟩
  · rw [e] at hx ⊢
    rcases List.mem_append.mp hx with z | z
    · rcases h.cl x z q hq e2 with y | y
      · exact .inl (List.mem_append_left _ y)
      · rcases List.mem_append.mp y with y | y
        · exact .inr (List.mem_append_left _ y)
        · simp at y
          subst y
          exact .inl (by simp)
    · simp at z
      subst z
      exact .inr (List.mem_append_right _ ((hb q).mpr ⟨hq, e2⟩))
  · rw [e]
    rcases h.fr with z | z
    · exact .inl (List.mem_append_left _ z)
    · rcases List.mem_append.mp z with y | y
      · exact .inr (List.mem_append_left _ y)
      · simp at y
        subst y
        exact .inl (by simp)
structure LotOk (s : Ph → List Ph) (ks lot : List Ph) : Prop where
  nd : lot.Nodup
  kks : ∀ p ∈ lot, p ∈ ks
  sc : ∀ u ∈ lot, ∀ v ∈ lot, Pth s u v
theorem BF.done (h : BF s ks kn0 lot [] f) : Clo s ks (kn0 ++ lot) ∧ f ∈ kn0 ++ lot := by
  refine ⟨fun p hp q hq e => ?_, ?_⟩
  · rcases h.cl p hp q hq e with z | z
    · exact z
    · simp at z
  · rcases h.fr with z | z
    · exact z
    · simp at z
theorem BF.lotOk {fo : List Ph} (h : BF s ks kn0 lot ws f) (F : Fin s ks fo) (hsk : ∀ p ∈ ks, ∀ q ∈ s p, q ∈ ks) (hc : Clo s ks kn0) {i : Nat} (hf : fo[i]? = some f) (hl : ∀ j x, i < j → fo[j]? = some x → x ∈ kn0) : LotOk s ks lot := by
  have hn := List.nodup_append.mp h.knd
  refine ⟨hn.2.1, fun p hp => h.kks p (List.mem_append_right _ hp), fun u hu v hv => ?_⟩
  refine (h.pl u hu).trans ?_
  refine F.back hsk (S := fun x => x ∈ kn0) (fun p q hq e hp => hc p hp q hq e) hf hl i v (h.kks v (List.mem_append_right _ hv)) (fun z => hn.2.2 v z v hv rfl) (h.pl v hv) (fun j _ => Nat.sub_le _ _)
end
theorem NKs.reverse {K : PySem.W.Frag} {H : Hp} : ∀ {ks : List NestedKey} {vs : List V}, NKs K H ks vs → NKs K H ks.reverse vs.reverse
  | [], _, h => by cases h; exact .nil
  | k :: ks, _, h => by
    cases h with
    | cons h1 h2 =>
      rw [List.reverse_cons, List.reverse_cons]
      exact NKs.append (NKs.reverse h2) (.cons h1 .nil)
end G6

-- G6F_Al
namespace G6
open PySem PySem.Spec PyProof.Rows L2
section
variable {H H' H0 H1 : Hp} {W : Addr → Prop} {a : Addr}
theorem SB.fresh {o : HO} (h : SB W H H1) (n : H a = none) : SB W H (L2.upd H1 a o) := ⟨fun b x nb e => by
  rw [upd_ne (ne_of_none e n)]
  exact h.out b x nb e, h.nt⟩
theorem SB.step {o : HO} (h : SB W H H1) (n : W a ∨ H a = none) : SB W H (L2.upd H1 a o) := n.elim h.upd h.fresh
end
section
variable {P : Program} {w : World} {K : PySem.W.Frag} {mg : Str → Option Value} {base : Heap}
/-- a list of phases -/
def LotAt (K : PySem.W.Frag) (H : Hp) (W : Addr → Prop) (lot : List Ph) (v : V) : Prop := ∃ a vs, v = .ref a ∧ ¬ W a ∧ H a = some (.lst vs) ∧ NKs K H (lot.map phK) vs
theorem LotAt.sb {H H' : Hp} {W W' : Addr → Prop} {lot : List Ph} {v : V} (h : LotAt K H W lot v) (sb : SB W' H H') (hw : ∀ b us, ¬ W b → H b = some (.lst us) → ¬ W' b) : LotAt K H' W lot v := by
  obtain ⟨a, vs, e, n, h1, h2⟩ := h
  exact ⟨a, vs, e, n, sb.out _ _ (hw a vs n h1) h1, NKs.tk sb.tk _ _ h2⟩
theorem LotAt.same {H H' : Hp} {W : Addr → Prop} {lot : List Ph} {v : V} (s : Same H H') (h : LotAt K H W lot v) : LotAt K H' W lot v := by
  obtain ⟨a, vs, e, n, h1, h2⟩ := h
  exact ⟨a, vs, e, n, s _ _ h1, NKs.tk (Tk.same s) _ _ h2⟩
theorem lots_snoc {α β : Type} {R : α → β → Prop} {l : List α} {m : List β} {a : α} {b : β} (h : Paired R l m) (r : R a b) : Paired R (l ++ [a]) (m ++ [b]) := Paired.snoc' h r
abbrev N_lots_of : List Str := ["lines", "back", "known", "found", "first", "lot", "waiting", "phase"]
theorem sc_lots_of : FnScope N_lots_of ["lines"] (defScope s_lots_of) := ⟨rfl, rfl, rfl, by decide +kernel, rfl, by decide +kernel, by decide +kernel⟩
def sp_lots_of (P : Program) (w : World) (K : PySem.W.Frag) : Sp := fun vs H Q _ => ∃ (d : Addr) (t : List Item) (R L : Nat) (ks : List Ph), vs = [.ref d] ∧ KM P w K H EP d ks (lineK L t) ∧ AllPh L t ks ∧ WF R L t ∧
  ∀ l us lots H', Same H H' → H l = none → H' l = some (.lst us) → Paired (LotAt K H' (· = l)) lots us → (∀ lot ∈ lots, LotOk (suc L t) ks lot ∧ lot ≠ []) → lots.length ≤ 1024 → Q (.ref l) H'
theorem f_lots_of (c : Cn K mg) : C8.Cal P w K mg base 2 "lots_of" (sp_lots_of P w K) [] := by
  have h_turned := f_turned (P := P) (w := w) (base := base) c
  have h_finished := f_finished (P := P) (w := w) (base := base) c
  refine cal_of (N := N_lots_of) c.g_lots_of c.d_lots_of sc_lots_of (fun _ _ _ _ _ _ us hl => match us, hl with | [_], _ => rfl) (fun vs H Q E h => ?len) (fun cdv A outer s H vs Q E hr h => ?_)
  case len => obtain ⟨d, t, R, L, ks, rfl, _⟩ := h; rfl
  obtain ⟨d, t, R, L, ks, rfl, km, all, wf, q⟩ := h
  refine ⟨_, (pss_cons (ps_set (i := 1) sc_lots_of.nd rfl (Or.inl rfl) (C8.pe_c h_turned hr (by decide) (by rfl) (pa_cons (pv 0) pa_nil)))
      (pss_cons (ps_set (i := 2) sc_lots_of.nd rfl (Or.inl rfl) (knnew P w))
      (pss_cons (ps_set (i := 3) sc_lots_of.nd rfl (Or.inl rfl) (pe_lst pa_nil))
      (pss_cons (ps_for PassesOwn.never rfl (kpi_list K (krev K (C8.pe_c h_finished hr (by decide) (by rfl) (pa_cons (pv 0) pa_nil)))) (pg_name (i := 4) sc_lots_of.nd rfl (Or.inl rfl)) (pss_cons (ps_set (i := 5) sc_lots_of.nd rfl (Or.inl rfl) (pe_lst pa_nil))
      (pss_cons (ps_set (i := 6) sc_lots_of.nd rfl (Or.inl rfl) (pe_lst (pa_cons (pv 4) pa_nil)))
      (pss_cons (ps_while PassesOwn.never (pt_cmpR op_gt (pe_callB (r := rLenA K) (kc_len K) (by rfl) c.z_len (by decide +kernel) (pa_cons (pv 6) pa_nil)) pe_int (nomark _)) (pss_cons (ps_set (i := 7) sc_lots_of.nd rfl (Or.inl rfl) (kpop K (pv 6)))
      (pss_one (ps_if (pt_cmp (knnotin P w K EP hr (pv 7) (pv 2))) (pss_cons (knput P w K EP hr (pv 2) (pv 7) pe_bl)
      (pss_cons (ps_expr (kbm K PySem.F.slot_list_append PySem.F.type_list_append mt_append (pv 5) (pa_cons (pv 7) pa_nil)))
      (pss_one (ps_expr (kbm K PySem.F.slot_list_extend PySem.F.type_list_extend mt_extend (pv 6) (pa_cons (knget P w K EP hr (pv 1) (pv 7)) pa_nil)))))) pss_nil))))
      (pss_one (ps_if (pt_cmpR op_gt (pe_callB (r := rLenA K) (kc_len K) (by rfl) c.z_len (by decide +kernel) (pa_cons (pv 5) pa_nil)) pe_int (nomark _)) (pss_one (ps_expr (kbm K PySem.F.slot_list_append PySem.F.type_list_append mt_append (pv 3) (pa_cons (pv 5) pa_nil)))) pss_nil))))))
      (pss_one (ps_ret (pv 3))))))), ?_⟩
  have hlen : ks.length ≤ 1024 := Nat.le_trans (all.len wf) wf.univ_le
  refine ⟨_, rfl, d, t, R, L, ks, rfl, km, all, wf, fun bk Hb sB nbk kmb => ?_⟩
  intro nd nnd hsys
  refine ⟨sz 0 (by decide), fun fl nfl => ?_⟩
  have s1 := Same.trans (same_new (o := NDo P w nd []) nnd) (same_new (o := .lst []) nfl)
  have ndfl : nd ≠ fl := fun e => by subst e; rw [upd_same] at nfl; cases nfl
  have Hbfl : Hb fl = none := Same.free (same_new nnd) nfl
  refine ⟨_, rfl, d, t, R, L, ks, rfl, (km.same (Same.trans sB s1)).r, all, wf, fun l us fo H2 s2 nl hl hus fin => ?_⟩
  refine ⟨l, us, rfl, .inl (.inl hl), fun rl nrl => ?_⟩
  have s3 : Same Hb (upd H2 rl (.lst us.reverse)) := Same.trans s1 (Same.trans s2 (same_new nrl))
  have sx := Same.trans s2 (same_new (o := .lst us.reverse) nrl)
  have hus3 := NKs.tk (Tk.new (o := .lst us.reverse) nrl) _ _ hus
  have husl : us.length = fo.length := by have := hus.length; simpa using this
  have hfr : upd H2 rl (.lst us.reverse) rl = some (.lst us.reverse) := upd_same
  have Hbrl : Hb rl = none := Same.free (Same.trans s1 s2) nrl
  have hfl3 : upd H2 rl (.lst us.reverse) fl = some (.lst []) := sx _ _ upd_same
  have hnd3 : ND P w K (upd H2 rl (.lst us.reverse)) EP nd ([] : List (Ph × V)) := ND.empty hsys (sx _ _ (by rw [upd_ne ndfl]; exact upd_same))
  have rlfl : rl ≠ fl := fun e => by
    subst e
    have := s2 _ _ (upd_same (H := upd Hb nd (NDo P w nd [])) (a := rl) (o := HO.lst []))
    rw [this] at nrl
    cases nrl
  generalize upd H2 rl (.lst us.reverse) = H3 at *
  refine ⟨rl, rfl, ⟨us.reverse, .inl (.inl hfr)⟩, ?_⟩
  refine for_it (walk_list (xs := us.reverse)) (fun i σ H1 => ∃ (kk : List (Ph × V)) (kn : List Ph) (lots : List (List Ph)) (fs : List V) (u4 u5 u6 u7 : Option V), σ = [some (.ref d), some (.ref bk), some (.ref nd), some (.ref fl), u4, u5, u6, u7] ∧ Same Hb H1 ∧ H1 rl = some (.lst us.reverse) ∧ NKs K H1 (fo.map phK) us ∧ ND P w K H1 EP nd kk ∧ kk.map (·.1) = kn ∧ H1 fl = some (.lst fs) ∧
    Paired (LotAt K H1 (· = fl)) lots fs ∧ (∀ lot ∈ lots, LotOk (suc L t) ks lot ∧ lot ≠ []) ∧ lots.length ≤ i ∧ kn.Nodup ∧ (∀ p ∈ kn, p ∈ ks) ∧ Clo (suc L t) ks kn ∧ ∀ j x, fo.length - 1 - i < j → fo[j]? = some x → x ∈ kn) ?_ ?_ ?_ ?_
  · refine ⟨[], [], [], [], _, _, _, _, rfl, s3, hfr, hus3, hnd3, rfl, hfl3, .nil, by simp, by simp, .nil, by simp, by simp [Clo], fun j x hj hx => ?_⟩
    have := (List.getElem?_eq_some_iff.mp hx).1
    omega
  · rintro i σ H1 _ ⟨_, _, _, _, _, _, _, _, _, _, h, _⟩
    exact .inl (.inl h)
  · rintro i v σ H1 H1' hi ⟨kk, kn, lots, fs, u4, u5, u6, u7, rfl, sm, hrl, hus1, hnd, hkk, hfl, hlots, hok, hll, hkn, hks, hclo, hlate⟩ ⟨e1, ex⟩
    subst e1
    rw [List.length_reverse, husl] at hi
    rw [List.getElem?_reverse (by omega)] at ex
    rw [husl] at ex
    obtain ⟨k, hk1, hk2⟩ := hus1.getV ex
    rw [List.getElem?_map] at hk1
    obtain ⟨f, hf, rfl⟩ := Option.map_eq_some_iff.mp hk1
    have hfk : f ∈ ks := (fin.mem f).mp (List.mem_of_getElem? hf)
    have ndT : ∀ b, b = nd → NoT (H1' b) := fun b e => by subst e; exact hnd.not
    refine ⟨sz 0 (by decide), fun ll nll => ⟨_, rfl, sz 1 (by decide), fun W nW => ?_⟩⟩
    have llW : ll ≠ W := fun e => by subst e; rw [upd_same] at nW; cases nW
    have nW0 : H1' W = none := Same.free (same_new nll) nW
    have HbL : Hb ll = none := Same.free sm nll
    have HbW : Hb W = none := Same.free sm nW0
    have sb0 : SB (· = nd) H1' (upd (upd H1' ll (.lst [])) W (.lst [v])) := ((SB.refl ndT).new nll).new nW
    have nlst : ∀ b us, H1' b = some (.lst us) → b ≠ nd := fun b us h e => by
      subst e
      obtain ⟨_, _, zz, hzz, _⟩ := hnd
      rw [hzz] at h
      cases h
    have ndll : nd ≠ ll := fun e => by
      subst e
      obtain ⟨o, ho⟩ := hnd.some
      rw [ho] at nll
      cases nll
    have ndW : nd ≠ W := fun e => by
      subst e
      obtain ⟨o, ho⟩ := hnd.some
      rw [ho] at nW0
      cases nW0
    refine ⟨fun m σ H2 => ∃ (kk : List (Ph × V)) (lot ws : List Ph) (lv wv : List V) (u7 : Option V), σ = [some (.ref d), some (.ref bk), some (.ref nd), some (.ref fl), some v, some (.ref ll), some (.ref W), u7] ∧ Same Hb H2 ∧ SB (· = nd) H1' H2 ∧ ND P w K H2 EP nd kk ∧ kk.map (·.1) = kn ++ lot ∧
      H2 ll = some (.lst lv) ∧ NKs K H2 (lot.map phK) lv ∧ H2 W = some (.lst wv) ∧ NKs K H2 (ws.map phK) wv ∧ BF (suc L t) ks kn lot ws f ∧ ws.length ≤ 1 + 4000 * lot.length ∧ m = (1025 - (kn ++ lot).length) * 4001 + ws.length,
      ⟨_, kk, [], [f], [], [v], _, rfl, Same.mut (Same.mut sm HbL) HbW, sb0, (hnd.upd ndll (by rw [nll]; exact True.intro)).upd ndW (by rw [nW]; exact True.intro), by rw [List.append_nil]; exact hkk, by rw [upd_ne llW]; exact upd_same, .nil, upd_same, .cons (NK.tk sb0.tk _ _ hk2) .nil, BF.start hkn hks hclo hfk, by simp, rfl⟩, ?_⟩
    rintro m σ H2 ⟨kk2, lot, ws, lv, wv, u7, rfl, sm2, sb2, hnd2, hkk2, hL2, hlv2, hW2, hwv2, bf, hwl, hm⟩
    have hwvl : wv.length = ws.length := by have := hwv2.length; simpa using this
    have hlvl : lv.length = lot.length := by have := hlv2.length; simpa using this
    have hknl : (kn ++ lot).length ≤ 1024 := Nat.le_trans (nodup_len bf.knd bf.kks) hlen
    have hlotl : lot.length ≤ 1024 := by rw [List.length_append] at hknl; omega
    refine ⟨_, rfl, _, _, rfl, .inl (.inl (.inl hW2)), _, _, rfl, rfl, _, rfl, ?_⟩
    rcases List.eq_nil_or_concat ws with rfl | ⟨ws', p, rfl⟩
    · have : wv = [] := List.eq_nil_of_length_eq_zero (by simpa using hwvl)
      subst this
      refine iteF ?_
      have hfl2 := sb2.out _ _ (nlst _ _ hfl) hfl
      have hrl2 := sb2.out _ _ (nlst _ _ hrl) hrl
      have hus2 := NKs.tk sb2.tk _ _ hus1
      have hlots2 : Paired (LotAt K H2 (· = fl)) lots fs := Paired.mapP hlots fun _ _ z => z.sb sb2 fun b us _ h => nlst b us h
      obtain ⟨hclo2, hf2⟩ := bf.done
      have hlate2 : ∀ j x, fo.length - 1 - (i + 1) < j → fo[j]? = some x → x ∈ kn ++ lot := by
        intro j x hj hx
        by_cases e : fo.length - 1 - i < j
        · exact List.mem_append_left _ (hlate j x e hx)
        · have : j = fo.length - 1 - i := by omega
          subst this
          rw [hf] at hx
          cases hx
          exact hf2
      have hfsl : fs.length = lots.length := (Paired.length hlots).symm
      have hi1 : i < 1024 := by
        have := nodup_len fin.nd fun x hx => (fin.mem x).mp hx
        omega
      refine ⟨_, rfl, _, _, rfl, .inl (.inl (.inl hL2)), _, _, rfl, rfl, _, rfl, ?_⟩
      by_cases hlot : lot = []
      · subst hlot
        have : lv = [] := List.eq_nil_of_length_eq_zero (by simpa using hlvl)
        subst this
        refine iteF ?_
        exact ⟨kk2, kn ++ [], lots, fs, _, _, _, _, rfl, sm2, hrl2, hus2, hnd2, hkk2, hfl2, hlots2, hok, by omega, bf.knd, bf.kks, hclo2, hlate2⟩
      · have hpos : 0 < lot.length := List.length_pos_iff.mpr hlot
        rw [decide_eq_true (by omega)]
        refine iteT ?_
        refine ⟨_, rfl, .inl ⟨rfl, _, .inl (.inl hfl2)⟩, _, rfl, fl, fs, _, rfl, rfl, hfl2, by rw [hfsl]; exact Nat.lt_of_le_of_lt (m := 1024) (by omega) (by decide), ?_⟩
        have flll : ll ≠ fl := fun e => by subst e; rw [hfl] at nll; cases nll
        have sb5 : SB (· = fl) H2 (upd H2 fl (.lst (fs ++ [.ref ll]))) := (SB.refl (fun b e => by subst e; rw [hfl2]; exact True.intro)).upd rfl
        have ndfl' : nd ≠ fl := ndfl
        have rlfl' : rl ≠ fl := rlfl
        refine ⟨kk2, kn ++ lot, lots ++ [lot], fs ++ [.ref ll], _, _, _, _, rfl, Same.mut sm2 Hbfl, sb5.out _ _ rlfl' hrl2, NKs.tk sb5.tk _ _ hus2, sb5.nd ndfl' hnd2, hkk2, upd_same, ?_, ?_, by simp; omega, bf.knd, bf.kks, hclo2, hlate2⟩
        · refine lots_snoc (Paired.mapP hlots2 fun _ _ z => z.sb sb5 fun b us n _ => n) ⟨ll, lv, rfl, flll, sb5.out _ _ flll hL2, NKs.tk sb5.tk _ _ hlv2⟩
        · intro x hx
          rcases List.mem_append.mp hx with h | h
          · exact hok x h
          · simp at h
            subst h
            exact ⟨bf.lotOk fin all.suc hclo hf hlate, hlot⟩
    · rw [List.concat_eq_append] at *
      rw [List.map_append] at hwv2
      obtain ⟨wv', pv', rfl, hwv', hp⟩ := NKs.snoc_inv hwv2
      rw [decide_eq_true (by simp)]
      refine iteT ⟨fun σ' H' => ∃ m', m' < m ∧ _, fun σ' H' h => h, _, rfl, .inl ⟨rfl, _, .inl (.inl hW2)⟩, W, wv' ++ [pv'], pv', rfl, rfl, hW2, by simp, ?_⟩
      rw [List.dropLast_concat]
      have tm := Tk.mut (o := .lst wv') hW2 True.intro
      have sm3 : Same Hb (upd H2 W (.lst wv')) := Same.mut sm2 HbW
      have sb3 : SB (· = nd) H1' (upd H2 W (.lst wv')) := sb2.fresh nW0
      have hnd3' : ND P w K (upd H2 W (.lst wv')) EP nd kk2 := hnd2.upd ndW (by rw [hW2]; exact True.intro)
      have hL3 : upd H2 W (.lst wv') ll = some (.lst lv) := by rw [upd_ne llW]; exact hL2
      have hlv3 := NKs.tk tm _ _ hlv2
      have hp3 := NK.tk tm _ _ hp
      have hwv3 := NKs.tk tm _ _ hwv'
      have hW3 : upd H2 W (.lst wv') W = some (.lst wv') := upd_same
      have hwl' : ws'.length + 1 ≤ 1 + 4000 * lot.length := by
        rw [List.length_append] at hwl
        simpa using hwl
      have l1 : (ws' ++ [p]).length = ws'.length + 1 := by simp
      generalize upd H2 W (.lst wv') = H4 at *
      obtain ⟨b, e, rfl, hb, he⟩ := ph_inv hp3
      have hpk : p ∈ ks := (bf.pw p (by simp)).2
      refine ⟨_, rfl, _, rfl, nd, b, kk2, p, rfl, rfl, hnd3'.r, hp3, _, rfl, ?_⟩
      by_cases hin : p ∈ kn ++ lot
      · rw [isSome_in hkk2 hin]
        refine iteF ?_
        refine ⟨_, ?_, kk2, lot, ws', lv, wv', _, rfl, sm3, sb3, hnd3', hkk2, hL3, hlv3, hW3, hwv3, bf.skip hin, by omega, rfl⟩
        omega
      · rw [isSome_out hkk2 hin]
        refine iteT ?_
        have hkkl : kk2.length ≤ 1024 := by rw [← List.length_map (f := (·.1)), hkk2]; exact hknl
        have hlt : (kn ++ lot).length < 1024 := by
          have := nodup_len (nodup_snoc bf.knd hin) (m := ks) (by
            intro x hx
            rcases List.mem_append.mp hx with h | h
            · exact bf.kks x h
            · simp at h
              subst h
              exact hpk)
          simp at this
          simp
          omega
        refine ⟨_, rfl, _, rfl, nd, b, kk2, p, rfl, rfl, hnd3', hp3, Nat.lt_of_le_of_lt hkkl (by decide), fun ob hno => ?_⟩
        have hk := keys_put_new (kvs := kk2) (k := p) (v := .bl true) (by rw [hkk2]; exact hin)
        have tk5 : Tk H4 (upd H4 nd ob) := Tk.upd hnd3'.not
        have sm5 : Same Hb (upd H4 nd ob) := Same.mut sm3 nnd
        have sb5 : SB (· = nd) H1' (upd H4 nd ob) := sb3.upd rfl
        have hL5 : upd H4 nd ob ll = some (.lst lv) := by rw [upd_ne (Ne.symm ndll)]; exact hL3
        have hW5 : upd H4 nd ob W = some (.lst wv') := by rw [upd_ne (Ne.symm ndW)]; exact hW3
        have hlv5 := NKs.tk tk5 _ _ hlv3
        have hwv5 := NKs.tk tk5 _ _ hwv3
        have hp5 := NK.tk tk5 _ _ hp3
        generalize upd H4 nd ob = H5 at *
        refine ⟨_, rfl, .inl ⟨rfl, _, .inl (.inl hL5)⟩, _, rfl, ll, lv, _, rfl, rfl, hL5, by rw [hlvl]; exact Nat.lt_of_le_of_lt hlotl (by decide), ?_⟩
        have tm6 := Tk.mut (o := .lst (lv ++ [.ref b])) hL5 True.intro
        have sm6 : Same Hb (upd H5 ll (.lst (lv ++ [.ref b]))) := Same.mut sm5 HbL
        have sb6 : SB (· = nd) H1' (upd H5 ll (.lst (lv ++ [.ref b]))) := sb5.fresh nll
        have hnd6 : ND P w K (upd H5 ll (.lst (lv ++ [.ref b]))) EP nd (putK kk2 p (.bl true)) := hno.upd ndll (by rw [hL5]; exact True.intro)
        have hW6 : upd H5 ll (.lst (lv ++ [.ref b])) W = some (.lst wv') := by rw [upd_ne (Ne.symm llW)]; exact hW5
        have hL6 : upd H5 ll (.lst (lv ++ [.ref b])) ll = some (.lst (lv ++ [.ref b])) := upd_same
        have hlv6 : NKs K (upd H5 ll (.lst (lv ++ [.ref b]))) ((lot ++ [p]).map phK) (lv ++ [.ref b]) := by
          rw [List.map_append]
          exact NKs.append (NKs.tk tm6 _ _ hlv5) (.cons (NK.tk tm6 _ _ hp5) .nil)
        have hwv6 := NKs.tk tm6 _ _ hwv5
        have hp6 := NK.tk tm6 _ _ hp5
        generalize upd H5 ll (.lst (lv ++ [.ref b])) = H6 at *
        obtain ⟨kv6, l6, us6, hkd6, hval6, hl6, hus6⟩ := ((kmb.same sm6).r).get hpk
        have hu6 : us6.length ≤ 4000 := by
          have h1 := hus6.length
          unfold bkK at h1
          rw [List.length_map] at h1
          have h2 := bkOf_len (edges L t ks) p
          have h3 := edges_len L t ks
          have h4 : (L + 1) * ks.length ≤ 3 * 1024 := Nat.mul_le_mul (by have := wf.l2; omega) hlen
          omega
        have hwvl' : wv'.length = ws'.length := by have := hwv'.length; simpa using this
        refine ⟨_, rfl, .inl ⟨rfl, _, .inl (.inl hW6)⟩, _, rfl, _, rfl, bk, b, kv6, p, _, rfl, rfl, hkd6, hp6, hval6, W, l6, wv', us6, rfl, rfl, hW6, hl6, Nat.le_trans (m := 5000000) (by rw [hwvl']; omega) (by decide), ?_⟩
        have tm7 := Tk.mut (o := .lst (wv' ++ us6)) hW6 True.intro
        have hus6' : us6.length = (bkOf (edges L t ks) p).length := by have := hus6.length; simpa [bkK] using this
        refine ⟨_, ?_, _, lot ++ [p], ws' ++ bkOf (edges L t ks) p, lv ++ [.ref b], wv' ++ us6, _, rfl, Same.mut sm6 HbW, sb6.fresh nW0, hnd6.upd ndW (by rw [hW6]; exact True.intro), by rw [hk.1, hkk2, List.append_assoc], by rw [upd_ne llW]; exact hL6, NKs.tk tm7 _ _ hlv6, upd_same, ?_, bf.take hin fun x => mem_bk', ?_, rfl⟩
        · rw [← List.append_assoc, List.length_append (as := kn ++ lot), List.length_append (as := ws'), List.length_singleton]
          have e1 : (1025 - (kn ++ lot).length) * 4001 = (1025 - ((kn ++ lot).length + 1)) * 4001 + 4001 := by omega
          omega
        · rw [List.map_append]
          exact NKs.append (NKs.tk tm7 _ _ hwv6) (NKs.tk tm7 _ _ hus6)
        · rw [List.length_append, List.length_append, List.length_singleton]
          omega
  · rintro σ H1 ⟨kk, kn, lots, fs, u4, u5, u6, u7, rfl, sm, hrl, hus1, hnd, hkk, hfl, hlots, hok, hll, hkn, hks, hclo, hlate⟩
    refine ⟨_, rfl, q fl fs lots H1 (Same.trans sB sm) (Same.free sB Hbfl) hfl hlots hok ?_⟩
    have := nodup_len fin.nd fun x hx => (fin.mem x).mp hx
    rw [List.length_reverse, husl] at hll
    omega
end
end G6

-- G6Mh
namespace G6
/-! ### four looks by turns -/
abbrev Nd := Ph × Nat
def isLookI (e : List Nat) (r : Nat) : Item → Bool
  | .look r' _ => decide (r' ∉ e) && decide (r' = r)
  | _ => false
def isLook (t : List Item) (p : Ph) (r : Nat) : Bool := isLookI p.2 r (itemAt t p.1)
def trn (a b m : Nat) : Nat := if m % 2 = 0 then a else b
def adv (t : List Item) (a b : Nat) (n : Nd) : Nat := n.2 + (isLook t n.1 (trn a b n.2)).toNat
inductive NR (L : Nat) (t : List Item) (a b : Nat) : Nd → Prop where
  | start : NR L t a b ((0, []), 0)
  | step {n : Nd} {x : Sg × Ph} : NR L t a b n → x ∈ steps L t n.1 → adv t a b n < 4 → NR L t a b (x.2, adv t a b n)
def Acr (L : Nat) (t : List Item) (a b : Nat) : Prop := ∃ n, NR L t a b n ∧ adv t a b n = 4
section
variable {R L : Nat} {t : List Item} {a b : Nat} {n : Nd} {ms : List Nd} {ks : List Ph}
theorem adv_le (t : List Item) (a b : Nat) (n : Nd) : n.2 ≤ adv t a b n ∧ adv t a b n ≤ n.2 + 1 := by
  unfold adv
  cases isLook t n.1 (trn a b n.2) <;> simp [Bool.toNat]
theorem NR.lt (h : NR L t a b n) : n.2 < 4 := by
  cases h with
  | start => decide
  | step _ _ h => exact h
theorem NR.rch (h : NR L t a b n) : Rch L t n.1 := by
  induction h with
  | start => exact .start
  | step _ hx _ ih => exact .step ih hx
theorem NR.adv4 (h : NR L t a b n) : adv t a b n ≤ 4 := by
  have h1 := h.lt
  have h2 := adv_le t a b n
  omega
/-- the queue of nodes, the first so many done -/
structure NQ (L : Nat) (t : List Item) (a b : Nat) (ms : List Nd) (i : Nat) : Prop where
  nd : ms.Nodup
  rk : ∀ n ∈ ms, NR L t a b n
  st : ((0, []), 0) ∈ ms
  cl : ∀ n ∈ ms.take i, adv t a b n < 4 ∧ ∀ x ∈ steps L t n.1, (x.2, adv t a b n) ∈ ms
theorem NQ.init (L : Nat) (t : List Item) (a b : Nat) : NQ L t a b [((0, []), 0)] 0 := ⟨by simp, by simp [NR.start], by simp, by simp⟩
theorem NQ.done {i : Nat} (h : NQ L t a b ms i) (hi : ms.length ≤ i) : ¬ Acr L t a b := by
  have e : ms.take i = ms := List.take_of_length_le hi
  have all : ∀ n, NR L t a b n → n ∈ ms := by
    intro n hn
    induction hn with
    | start => exact h.st
    | step _ hx _ ih => exact (h.cl _ (by rw [e]; exact ih)).2 _ hx
  rintro ⟨n, hn, h4⟩
  have := (h.cl n (by rw [e]; exact all n hn)).1
  omega
theorem NQ.hit {i : Nat} (h : NQ L t a b ms i) {n : Nd} (hn : ms[i]? = some n) (h4 : adv t a b n = 4) : Acr L t a b := ⟨n, h.rk n (List.mem_of_getElem? hn), h4⟩
def addN (ms : List Nd) (n : Nd) : List Nd := if n ∈ ms then ms else ms ++ [n]
/-- a node's steps, the first so many met -/
structure NP (L : Nat) (t : List Item) (a b : Nat) (ms : List Nd) (i : Nat) (n : Nd) (j : Nat) (ms' : List Nd) : Prop where
  nd : ms'.Nodup
  rk : ∀ n ∈ ms', NR L t a b n
  pre : ∃ r, ms' = ms ++ r
  got : ∀ x ∈ (steps L t n.1).take j, (x.2, adv t a b n) ∈ ms'
theorem NP.init {i : Nat} (h : NQ L t a b ms i) (n : Nd) : NP L t a b ms i n 0 ms := ⟨h.nd, h.rk, ⟨[], by simp⟩, by simp⟩
theorem NP.add {i j : Nat} {ms' : List Nd} {x : Sg × Ph} (q : NQ L t a b ms i) (h : NP L t a b ms i n j ms') (hn : ms[i]? = some n) (h4 : adv t a b n < 4) (hx : (steps L t n.1)[j]? = some x) : NP L t a b ms i n (j + 1) (addN ms' (x.2, adv t a b n)) := by
  have hxm : x ∈ steps L t n.1 := List.mem_of_getElem? hx
  have hnr : NR L t a b (x.2, adv t a b n) := .step (q.rk n (List.mem_of_getElem? hn)) hxm h4
  obtain ⟨r, hr⟩ := h.pre
  have sub : ∀ y ∈ ms', y ∈ addN ms' (x.2, adv t a b n) := fun y hy => by
    unfold addN
    split
    · exact hy
    · exact List.mem_append_left _ hy
  have self : (x.2, adv t a b n) ∈ addN ms' (x.2, adv t a b n) := by
    unfold addN
    split
    · assumption
    · simp
  refine ⟨?_, ?_, ?_, ?_⟩
  · unfold addN
    split
    · exact h.nd
    · rename_i hh; exact nodup_snoc h.nd hh
  · intro y hy
    unfold addN at hy
    split at hy
    · exact h.rk y hy
    · rcases List.mem_append.mp hy with z | z
      · exact h.rk y z
      · simp at z
        subst z
        exact hnr
  · unfold addN
    split
    · exact ⟨r, hr⟩
    · exact ⟨r ++ [(x.2, adv t a b n)], by rw [hr, List.append_assoc]⟩
  · intro y hy
    rw [List.take_succ, hx] at hy
    rcases List.mem_append.mp hy with z | z
    · exact sub _ (h.got y z)
    · simp at z
      subst z
      exact self
theorem NP.len {i j : Nat} {ms' : List Nd} (h : NP L t a b ms i n j ms') : ms.length ≤ ms'.length := by
  obtain ⟨r, rfl⟩ := h.pre
  simp
theorem NP.fin {i : Nat} {ms' : List Nd} (q : NQ L t a b ms i) (h : NP L t a b ms i n (steps L t n.1).length ms') (hn : ms[i]? = some n) (h4 : adv t a b n < 4) : NQ L t a b ms' (i + 1) := by
  obtain ⟨r, hr⟩ := h.pre
  have hil : i < ms.length := (List.getElem?_eq_some_iff.mp hn).1
  refine ⟨h.nd, h.rk, by rw [hr]; exact List.mem_append_left _ q.st, fun m hm => ?_⟩
  rw [hr, List.take_append_of_le_length (by omega), List.take_succ, hn] at hm
  rcases List.mem_append.mp hm with z | z
  · exact ⟨(q.cl m z).1, fun x hx => by rw [hr]; exact List.mem_append_left _ ((q.cl m z).2 x hx)⟩
  · simp at z
    subst z
    refine ⟨h4, fun x hx => h.got x ?_⟩
    rw [List.take_length]
    exact hx
theorem nds_len (h : ms.Nodup) (hk : ∀ n ∈ ms, n.1 ∈ ks ∧ n.2 < 4) : ms.length ≤ 4 * ks.length := by
  have e : (ks.flatMap fun p => [(p, 0), (p, 1), (p, 2), (p, 3)]).length = 4 * ks.length := by
    clear h hk
    induction ks with
    | nil => rfl
    | cons x l ih =>
      rw [List.flatMap_cons, List.length_append, ih]
      simp only [List.length_cons, List.length_nil]
      omega
  rw [← e]
  refine nodup_len h fun n hn => ?_
  obtain ⟨h1, h2⟩ := hk n hn
  rw [List.mem_flatMap]
  refine ⟨n.1, h1, ?_⟩
  obtain ⟨p, m⟩ := n
  have : m = 0 ∨ m = 1 ∨ m = 2 ∨ m = 3 := by
    have : m < 4 := h2
    omega
  rcases this with rfl | rfl | rfl | rfl <;> simp
theorem NQ.len {i : Nat} (h : NQ L t a b ms i) (all : AllPh L t ks) : ms.length ≤ 4 * ks.length := nds_len h.nd fun n hn => ⟨(all.mem _).mpr (h.rk n hn).rch, (h.rk n hn).lt⟩
theorem NP.lenK {i j : Nat} {ms' : List Nd} (h : NP L t a b ms i n j ms') (all : AllPh L t ks) : ms'.length ≤ 4 * ks.length := nds_len h.nd fun n hn => ⟨(all.mem _).mpr (h.rk n hn).rch, (h.rk n hn).lt⟩

/-! ### rows of one piece cross -/
def Prog (L : Nat) (t : List Item) (a b m : Nat) (p : Ph) : Prop := Acr L t a b ∨ ∃ k, m ≤ k ∧ NR L t a b (p, k)
theorem Prog.step {m : Nat} {p q : Ph} (h : Prog L t a b m p) (hq : q ∈ suc L t p) : Prog L t a b m q := by
  rcases h with h | ⟨k, hk, h⟩
  · exact .inl h
  · obtain ⟨x, hx, rfl⟩ := List.mem_map.mp hq
    by_cases h4 : adv t a b (p, k) = 4
    · exact .inl ⟨_, h, h4⟩
    · have h1 := h.adv4
      have h2 := adv_le t a b (p, k)
      have h3 : k ≤ adv t a b (p, k) := h2.1
      exact .inr ⟨_, by omega, .step h hx (by omega)⟩
theorem Prog.path {m : Nat} {p q : Ph} (h : Prog L t a b m p) (w : Pth (suc L t) p q) : Prog L t a b m q := by
  induction w with
  | nil => exact h
  | cons e _ ih => exact ih (h.step e)
/-- a look moves on -/
theorem Prog.look {m : Nat} {p q : Ph} (h : Prog L t a b m p) (hl : isLook t p (trn a b m) = true) (hq : q ∈ suc L t p) : Prog L t a b (m + 1) q := by
  rcases h with h | ⟨k, hk, h⟩
  · exact .inl h
  · obtain ⟨x, hx, rfl⟩ := List.mem_map.mp hq
    by_cases h4 : adv t a b (p, k) = 4
    · exact .inl ⟨_, h, h4⟩
    · have h1 := h.adv4
      have h2 : k ≤ adv t a b (p, k) := (adv_le t a b (p, k)).1
      by_cases e : k = m
      · subst e
        have : adv t a b (p, k) = k + 1 := by
          unfold adv
          show k + (isLook t p (trn a b k)).toNat = k + 1
          rw [hl]
          rfl
        exact .inr ⟨_, by omega, .step h hx (by omega)⟩
      · exact .inr ⟨_, by omega, .step h hx (by omega)⟩
theorem prog_rch {p : Ph} (h : Rch L t p) : Prog L t a b 0 p := by
  induction h with
  | start => exact .inr ⟨0, Nat.le_refl _, .start⟩
  | step _ hx ih => exact ih.step (List.mem_map.mpr ⟨_, hx, rfl⟩)
/-- a row at which a step by a letter within a lot looks -/
def RowIn (L : Nat) (t : List Item) (lot : List Ph) (r : Nat) : Prop := ∃ p ∈ lot, ∃ q ∈ lot, q ∈ suc L t p ∧ isLook t p r = true
theorem piece_acr {lot : List Ph} (h : LotOk (suc L t) ks lot) (all : AllPh L t ks) {r s : Nat} (hr : RowIn L t lot r) (hs : RowIn L t lot s) : Acr L t r s := by
  obtain ⟨p, hp, p', hp', ep, lp⟩ := hr
  obtain ⟨q, hq, q', hq', eq, lq⟩ := hs
  have h0 : Prog L t r s 0 p := prog_rch ((all.mem p).mp (h.kks p hp))
  have h1 : Prog L t r s 1 q := (h0.look (m := 0) lp ep).path (h.sc _ hp' _ hq)
  have h2 : Prog L t r s 2 p := (h1.look (m := 1) lq eq).path (h.sc _ hq' _ hp)
  have h3 : Prog L t r s 3 q := (h2.look (m := 2) lp ep).path (h.sc _ hp' _ hq)
  have h4 : Prog L t r s 4 q' := h3.look (m := 3) lq eq
  rcases h4 with h | ⟨k, hk, h⟩
  · exact h
  · have : k < 4 := h.lt
    omega
end
end G6

-- G6Lm
namespace G6
open PySem PySem.Spec PyProof.Rows L2
/-! ### a list or a tuple, walked -/
def iSeq (K : PySem.W.Frag) (tl : TE) : TI := fun σ H R => tl σ H fun x H1 => ∃ a, x = .ref a ∧ (((∃ xs, SqL K H1 a xs) ∧ R (Itl K a) H1) ∨ ((∃ xs, SqT K H1 a xs) ∧ R (Itt K a) H1))
theorem kpi_seq {X : Cx} (K : PySem.W.Frag) {l tg : Expr} {tl : TE} (hl : PE X l tl) (hK : X.K = K := by rfl) : PI X tg l (iSeq K tl) := by
  subst hK
  refine ⟨fun pins s σ H R I h => ?_⟩
  refine thn (hl.run pins s σ H _ I h) fun v s1 ⟨x, H1, I1, r1, q1⟩ => ?_
  obtain ⟨a, e, q⟩ := q1
  subst e
  cases r1
  have fin : ∀ b ∈ [s1.heap.objs.size], FpOk X pins H1 b := fun b hb => by
    have e : b = s1.heap.objs.size := by simpa using hb
    subst e
    exact I1.fpOk (Nat.le_refl _) (I1.hok.fresh (Nat.le_refl _))
  rcases q with ⟨⟨xs, hq⟩, q⟩ | ⟨⟨xs, hq⟩, q⟩
  · obtain ⟨its, rv, p, hz⟩ := I1.list hq
    refine wpAny_pyIter_list p.isList ?_
    exact ⟨s1.heap.objs.size, [s1.heap.objs.size], _, _, H1, rfl, I1.kept (t' := s1.toks) fun b o e => Heap.get?_push_of_some _ e, turn_list a _, ⟨_, Heap.get?_push_size _ rfl, rfl, rfl⟩, fin, q⟩
  · obtain ⟨its, rv, p, hz⟩ := I1.tuple hq
    refine wpAny_pyIter_tuple (show s1.heap.IsTuple a its.toArray from p) ?_
    exact ⟨s1.heap.objs.size, [s1.heap.objs.size], _, _, H1, rfl, I1.kept (t' := s1.toks) fun b o e => Heap.get?_push_of_some _ e, turn_tuple a _, ⟨_, Heap.get?_push_size _ rfl, rfl, rfl⟩, fin, q⟩
/-- the yield of enumerate: a new pair -/
def YEn (xs : List V) : Nat → Hp → V → Hp → Prop := fun i H v H' => ∃ T x, v = .ref T ∧ H T = none ∧ H' = upd H T (.tup [.int (i : Nat), x]) ∧ xs[i]? = some x
section
variable {K : PySem.W.Frag} {a : Addr} {xs : List V}
theorem walk_enL : Walk (Ite K a) xs.length (fun H => SqL K H a xs) (YEn xs) := by
  refine ⟨fun i _ hi q => ⟨xs, xs[i], q, by simp [hi]⟩, fun _ q => ⟨xs, q, Nat.le_refl _⟩, fun i H v H' _ q y => ?_⟩
  obtain ⟨T, x, h1, h2, h3, h4⟩ := y
  exact ⟨T, x, h1, h2, h3, h4 xs q⟩
theorem walk_enT : Walk (IteT K a) xs.length (fun H => SqT K H a xs) (YEn xs) := by
  refine ⟨fun i _ hi q => ⟨xs, xs[i], q, by simp [hi]⟩, fun _ q => ⟨xs, q, rfl⟩, fun i H v H' _ q y => ?_⟩
  obtain ⟨T, x, h1, h2, h3, h4⟩ := y
  exact ⟨T, x, h1, h2, h3, h4 xs q⟩
end
/-! ### comprehensions with two walks -/
section
variable {J J1 : It} {n n1 : Nat} {G G1 : Hp → Prop} {Y Y1 : Nat → Hp → V → Hp → Prop}
/-- the inner walk -/
theorem lc_in (w : Walk J1 n1 G1 Y1) {g : TG} {tt : TT} {te : TE} {vs : List Nat} {σ : L2.St} {H1 : Hp} {D : Addr} {Qd : Hp → Prop} (Pv : Nat → Hp → Prop) (h0 : Pv 0 H1) (hG : ∀ i H, i ≤ n1 → Pv i H → G1 H)
    (hs : ∀ i x H H', i < n1 → Pv i H → Y1 i H x H' → g x (wipe σ vs) H' fun σ2 H2 => wipe σ2 vs = wipe σ vs ∧ tt σ2 H2 fun b H3 =>
      if b = true then te σ2 H3 fun y H4 => ∃ acc, H4 D = some (.lst acc) ∧ acc.length < sizeLine ∧ Pv (i + 1) (upd H4 D (.lst (acc ++ [y]))) else Pv (i + 1) H3) (hd : ∀ H, Pv n1 H → Qd H) :
    ∃ W : Nat → Nat → Hp → Prop, (∃ m, W 0 m H1) ∧ ∀ i m H, W i m H →
      (J1.stop i H ∧ Qd H) ∨ (J1.go i H ∧ ∃ Nx : Hp → Prop, (∀ H', Nx H' → ∃ m', m' < m ∧ W (i + 1) m' H') ∧ ∀ x H', J1.yld i H x H' → g x (wipe σ vs) H' fun σ2 H2 => wipe σ2 vs = wipe σ vs ∧ tt σ2 H2 fun b H3 =>
        if b = true then te σ2 H3 fun y H4 => ∃ acc, H4 D = some (.lst acc) ∧ acc.length < sizeLine ∧ Nx (upd H4 D (.lst (acc ++ [y]))) else Nx H3) := by
  refine ⟨fun i m H => m = n1 - i ∧ i ≤ n1 ∧ Pv i H, ⟨n1, by simp, Nat.zero_le _, h0⟩, ?_⟩
  rintro i m H ⟨rfl, hi, p⟩
  have q := hG i H hi p
  by_cases hlt : i < n1
  · refine .inr ⟨w.goes i H hlt q, Pv (i + 1), fun H' p' => ⟨n1 - (i + 1), by omega, rfl, hlt, p'⟩, fun x H' y => hs i x H H' hlt p (w.yields i H x H' hlt q y)⟩
  · have e : i = n1 := by omega
    subst e
    exact .inl ⟨w.stops H q, hd H p⟩
/-- the outer walk: R is what its turn's reading is -/
theorem lc2_it (w : Walk J n G Y) {g : TG} {R : (Hp → Prop) → L2.St → Hp → Prop} {vs : List Nat} {σ : L2.St} {H1 : Hp} {D : Addr} {Qd : Hp → Prop} (Pv : Nat → Hp → Prop) (h0 : Pv 0 (upd H1 D (.lst []))) (hG : ∀ i H, i ≤ n → Pv i H → G H)
    (hs : ∀ i x H H', i < n → Pv i H → Y i H x H' → g x (wipe σ vs) H' fun σ2 H2 => wipe σ2 vs = wipe σ vs ∧ R (Pv (i + 1)) σ2 H2) (hd : ∀ H, Pv n H → Qd H) :
    ∃ W : Nat → Nat → Hp → Prop, (∃ m, W 0 m (upd H1 D (.lst []))) ∧ ∀ i m H, W i m H →
      (J.stop i H ∧ Qd H) ∨ (J.go i H ∧ ∃ Nx : Hp → Prop, (∀ H', Nx H' → ∃ m', m' < m ∧ W (i + 1) m' H') ∧ ∀ x H', J.yld i H x H' → g x (wipe σ vs) H' fun σ2 H2 => wipe σ2 vs = wipe σ vs ∧ R Nx σ2 H2) := by
  refine ⟨fun i m H => m = n - i ∧ i ≤ n ∧ Pv i H, ⟨n, by simp, Nat.zero_le _, h0⟩, ?_⟩
  rintro i m H ⟨rfl, hi, p⟩
  have q := hG i H hi p
  by_cases hlt : i < n
  · refine .inr ⟨w.goes i H hlt q, Pv (i + 1), fun H' p' => ⟨n - (i + 1), by omega, rfl, hlt, p'⟩, fun x H' y => hs i x H H' hlt p (w.yields i H x H' hlt q y)⟩
  · have e : i = n := by omega
    subst e
    exact .inl ⟨w.stops H q, hd H p⟩
end
/-- an arrangement of an image is the image of an arrangement -/
theorem perm_map {α β : Type} {f : α → β} : ∀ {m es : List β}, m.Perm es → ∀ l : List α, m = l.map f → ∃ l', l.Perm l' ∧ es = l'.map f := by
  intro m es h
  induction h with
  | nil =>
    intro l e
    have : l = [] := by cases l with | nil => rfl | cons => simp at e
    subst this
    exact ⟨[], .nil, rfl⟩
  | cons x _ ih =>
    intro l e
    cases l with
    | nil => simp at e
    | cons a l =>
      simp only [List.map_cons, List.cons.injEq] at e
      obtain ⟨l', p, q⟩ := ih l e.2
      exact ⟨a :: l', p.cons a, by rw [List.map_cons, ← q, e.1]⟩
  | swap x y l0 =>
    intro l e
    match l, e with
    | [], e => simp at e
    | [a], e => simp at e
    | a :: b :: l, e =>
      simp only [List.map_cons, List.cons.injEq] at e
      exact ⟨b :: a :: l, List.Perm.swap b a l, by rw [List.map_cons, List.map_cons, ← e.1, ← e.2.1, ← e.2.2]⟩
  | trans _ _ ih1 ih2 =>
    intro l e
    obtain ⟨l1, p1, e1⟩ := ih1 l e
    obtain ⟨l2, p2, e2⟩ := ih2 l1 e1
    exact ⟨l2, p1.trans p2, e2⟩
section
variable {κ : Type} [DecidableEq κ] {P : Program} {w : World} {K : PySem.W.Frag} {H H' : Hp} {E : Enc κ} {d : Addr} {kvs : List (κ × V)}
theorem ND.nl (h : ND P w K H E d kvs) : ∀ us, H d ≠ Option.some (HO.lst us) := fun us e => by
  obtain ⟨_, _, zs, hzs, _⟩ := h
  rw [hzs] at e
  cases e
end
end G6

-- G6F_Ap
namespace G6
open PySem PySem.Spec PyProof.Rows L2
/-! ### pairs of some rows -/
def prsN (rs : List Nat) (i : Nat) : List (Nat × Nat) := (List.range i).flatMap fun j => (rs.take j).map fun r => (r, rs.getD j 0)
def prs (rs : List Nat) : List (Nat × Nat) := prsN rs rs.length
theorem prsN_succ (rs : List Nat) (i : Nat) : prsN rs (i + 1) = prsN rs i ++ (rs.take i).map fun r => (r, rs.getD i 0) := by
  unfold prsN
  rw [List.range_succ, List.flatMap_append]
  simp
theorem prsN_len (rs : List Nat) : ∀ i, (prsN rs i).length ≤ i * rs.length
  | 0 => by simp [prsN]
  | i + 1 => by
    have := prsN_len rs i
    rw [prsN_succ, List.length_append, List.length_map, List.length_take, Nat.succ_mul]
    omega
theorem mem_prs {rs : List Nat} {r s : Nat} (h : (r, s) ∈ prs rs) : r ∈ rs ∧ s ∈ rs := by
  unfold prs prsN at h
  rw [List.mem_flatMap] at h
  obtain ⟨j, hj, h⟩ := h
  obtain ⟨x, hx, e⟩ := List.mem_map.mp h
  have hj := List.mem_range.mp hj
  cases e
  refine ⟨List.mem_of_mem_take hx, ?_⟩
  rw [List.getD_eq_getElem?_getD, List.getElem?_eq_getElem hj]
  exact List.getElem_mem hj
theorem mem_prs_range {R r s : Nat} : (r, s) ∈ prs (List.range R) ↔ r < s ∧ s < R := by
  unfold prs prsN
  rw [List.mem_flatMap]
  simp only [List.mem_range, List.length_range, List.mem_map, List.take_range]
  constructor
  · rintro ⟨j, hj, x, hx, e⟩
    rw [List.getD_eq_getElem?_getD, List.getElem?_range hj] at e
    cases e
    have : min j R = j := by omega
    exact ⟨by rw [this] at hx; exact hx, hj⟩
  · rintro ⟨h1, h2⟩
    refine ⟨s, h2, r, by omega, ?_⟩
    rw [List.getD_eq_getElem?_getD, List.getElem?_range h2]
    rfl
theorem vI_take (rs : List Nat) (i : Nat) : (vI rs).take i = vI (rs.take i) := by
  unfold vI
  rw [List.map_take]
theorem cut_take (rs : List Nat) (i : Nat) : cutV (vI rs) none (some (i : Int)) = vI (rs.take i) := by
  unfold cutV
  rw [HT.sIx_none, HT.sIx_nat, List.drop_zero, Nat.sub_zero, vI_len, ← vI_take]
  by_cases h : i ≤ rs.length
  · rw [Nat.min_eq_left h]
  · rw [Nat.min_eq_right (by omega), List.take_of_length_le (by rw [vI_len]; exact Nat.le_refl _), List.take_of_length_le (by rw [vI_len]; omega)]
theorem yesT {σ : L2.St} {H : Hp} {Q : Bool → Hp → Prop} (h : Q true H) : tYes σ H Q := h
theorem seqL_upd {K : PySem.W.Frag} {H : Hp} {p D : Addr} {xs : List V} {o : HO} (h : SqL K H p xs) (n : p ≠ D) : SqL K (upd H D o) p xs := by
  rcases h with (h | ⟨ob, h⟩) | h
  · exact .inl (.inl (by rw [upd_ne n]; exact h))
  · exact .inl (.inr ⟨ob, by rw [upd_ne n]; exact h⟩)
  · exact .inr h
section
variable {P : Program} {w : World} {K : PySem.W.Frag} {mg : Str → Option Value} {base : Heap}
theorem keys_putG {κ : Type} [DecidableEq κ] {kvs : List (κ × V)} {kn : List κ} (h : kvs.map (·.1) = kn) (p : κ) (v : V) : (putK kvs p v).map (·.1) = if p ∈ kn then kn else kn ++ [p] := by
  subst h
  by_cases hp : p ∈ kvs.map (·.1)
  · rw [if_pos hp]
    obtain ⟨v0, e, _⟩ := valV_of_mem hp
    unfold putK
    rw [if_pos (by rw [valV_any, e]; rfl), List.map_map]
    refine List.map_congr_left fun q _ => ?_
    show (if q.1 = p then (q.1, v) else q).1 = q.1
    split <;> rfl
  · rw [if_neg hp]
    exact (keys_put_new hp).1
abbrev N_pairs_among : List Str := ["rows", "at", "other", "one"]
theorem sc_pairs_among : FnScope N_pairs_among ["rows"] (defScope s_pairs_among) := ⟨rfl, rfl, rfl, by decide +kernel, rfl, by decide +kernel, by decide +kernel⟩
def sp_pairs_among (K : PySem.W.Frag) : Sp := fun vs H Q _ => ∃ (a : Addr) (rs : List Nat), vs = [.ref a] ∧ (SqL K H a (vI rs) ∨ SqT K H a (vI rs)) ∧ rs.length ≤ 1000 ∧
  ∀ l us H', Same H H' → H l = none → H' l = some (.lst us) → NKs K H' ((prs rs).map pairK) us → Q (.ref l) H'
theorem f_pairs_among (c : Cn K mg) : C8.Cal P w K mg base 1 "pairs_among" (sp_pairs_among K) [] := by
  refine cal_of (N := N_pairs_among) c.g_pairs_among c.d_pairs_among sc_pairs_among (fun _ _ _ _ _ _ us hl => match us, hl with | [_], _ => rfl) (fun vs H Q E h => ?len) (fun cdv A outer s H vs Q E hr h => ?_)
  case len => obtain ⟨a, rs, rfl, _⟩ := h; rfl
  obtain ⟨a, rs, rfl, hs, hl, q⟩ := h
  refine ⟨_, (pss_one (ps_ret (pe_lc2 (own := [("at", 1), ("other", 2), ("one", 3)]) (vs1 := [3]) (g := gTup K 2 (gCons (gName 1) (gCons (gName 2) gNil))) (g1 := gName 3) (tt := tYes) (tt1 := tYes) rfl sc_pairs_among.nd (pi_enumA (by rfl) c.z_enumerate (pa_cons (pv 0) pa_nil)) (blkOk_by (own := [("at", 1), ("other", 2), ("one", 3)]) (N := N_pairs_among) (sc := defScope s_pairs_among) (by decide +kernel)) (by decide) (fun _ _ _ _ _ => (kpg_tup K (pgs_cons (pg_name (i := 1) sc_pairs_among.nd rfl (Or.inl rfl)) (pgs_cons (pg_name (i := 2) sc_pairs_among.nd rfl (Or.inl rfl)) pgs_nil)))) (fun _ _ _ _ _ => pts_nil) (fun _ _ _ _ _ => (kpi_seq K (pe_slice (kslA K) (pv 0) po_none (po_some (pv 1))))) (fun _ _ _ _ _ => (pg_name (i := 3) sc_pairs_among.nd rfl (Or.inl rfl))) (fun _ _ _ _ _ => pts_nil) (fun _ _ _ _ _ => (pe_tup (pa_cons (pv 3) (pa_cons (pv 2) pa_nil))))))), ?_⟩
  have small : ∀ i j, i < rs.length → j < i → i * rs.length + j < sizeLine := by
    intro i j hi hj
    have : i * rs.length ≤ 1000 * 1000 := Nat.mul_le_mul (by omega) hl
    exact Nat.lt_of_le_of_lt (m := 2000000) (by omega) (by decide)
  refine ⟨_, rfl, a, vI rs, rfl, ?_⟩
  rcases hs with hs | hs
  · refine .inl ⟨hs, fun D nD => ?_⟩
    refine lc2_it walk_enL (fun i H1 => Same H H1 ∧ ∃ ys, H1 D = some (.lst ys) ∧ NKs K H1 ((prsN rs i).map pairK) ys) ⟨same_new nD, [], upd_same, .nil⟩ (fun i H1 _ h => Same.seq h.1 hs) ?_ ?_
    · rintro i v H1 H2 hi ⟨sm, ys, hys, hk⟩ ⟨T, x, rfl, nT, rfl, hx⟩
      rw [vI_len] at hi
      rw [vI_get hi] at hx
      cases hx
      have sT := same_new (o := .tup [.int (i : Int), .int ((rs.getD i 0 : Nat) : Int)]) nT
      refine ⟨T, _, rfl, .inl (.inl upd_same), rfl, _, _, rfl, _, _, rfl, rfl, ⟨rfl, yesT (iteT ?_)⟩⟩
      have s2 := Same.trans sm sT
      have hys2 := sT _ _ hys
      have hk2 := NKs.tk (Tk.same sT) _ _ hk
      generalize upd H1 T (.tup [.int (i : Int), .int ((rs.getD i 0 : Nat) : Int)]) = H3 at *
      have hsl : HT.sIx (vI rs).length (vI rs).length (some (i : Int)) = i := by rw [HT.sIx_nat, vI_len]; omega
      refine ⟨_, rfl, _, rfl, _, rfl, .inl ⟨a, vI rs, rfl, Same.seq s2 hs, fun p np => ?_⟩⟩
      rw [cut_take] at *
      have sp := same_new (o := .lst (vI (rs.take i))) np
      have hp : upd H3 p (.lst (vI (rs.take i))) p = some (.lst (vI (rs.take i))) := upd_same
      have pD : p ≠ D := fun e => by subst e; rw [hys2] at np; cases np
      refine ⟨p, rfl, .inl ⟨⟨_, .inl (.inl hp)⟩, ?_⟩⟩
      refine lc_in (walk_list (xs := vI (rs.take i))) (fun j H5 => Same H H5 ∧ SqL K H5 p (vI (rs.take i)) ∧ ∃ ys, H5 D = some (.lst ys) ∧ NKs K H5 ((prsN rs i ++ (rs.take j).map fun r => (r, rs.getD i 0)).map pairK) ys) ⟨Same.trans s2 sp, .inl (.inl hp), ys, sp _ _ hys2, by rw [List.take_zero, List.map_nil, List.append_nil]; exact NKs.tk (Tk.same sp) _ _ hk2⟩ (fun j H5 _ h => h.2.1) ?_ ?_
      · rintro j x H5 H6 hj ⟨sm5, ho5, ys5, hys5, hk5⟩ ⟨e, ex⟩
        subst e
        rw [vI_len, List.length_take] at hj
        rw [vI_get (by rw [List.length_take]; exact hj)] at ex
        cases ex
        refine ⟨rfl, yesT (iteT ⟨_, rfl, _, rfl, sz 2 (by decide), fun t1 n1 => ?_⟩)⟩
        have s1 := same_new (o := .tup [.int (((rs.take i).getD j 0 : Nat) : Int), .int ((rs.getD i 0 : Nat) : Int)]) n1
        have hlen := hk5.length
        rw [List.length_map, List.length_append, List.length_map, List.length_take] at hlen
        have hpl := prsN_len rs i
        refine ⟨ys5, s1 _ _ hys5, Nat.lt_of_le_of_lt (by omega) (small i j hi (by omega)), Same.mut (Same.trans sm5 s1) nD, ?_, _, upd_same, ?_⟩
        · have := Same.seq (K := K) s1 ho5
          exact seqL_upd this pD
        · have tm := Tk.mut (o := .lst (ys5 ++ [.ref t1])) (s1 _ _ hys5) True.intro
          have e1 : (rs.take i).getD j 0 = rs.getD j 0 := by
            rw [List.getD_eq_getElem?_getD, List.getElem?_take_of_lt (by omega), ← List.getD_eq_getElem?_getD]
          have e2 : rs.take (j + 1) = rs.take j ++ [rs.getD j 0] := by
            rw [List.take_succ, List.getD_eq_getElem?_getD, List.getElem?_eq_getElem (by omega)]
            rfl
          rw [e2, List.map_append (f := fun r => (r, rs.getD i 0)), ← List.append_assoc, List.map_append (f := pairK)]
          refine NKs.append (NKs.tk (Tk.trans (Tk.same s1) tm) _ _ hk5) (.cons (NK.tk tm _ _ ?_) .nil)
          rw [e1]
          exact two_mk (.inl (.inl (by rw [← e1]; exact upd_same))) (.num _) (.num _)
      · rintro H5 ⟨sm5, ho5, ys5, hys5, hk5⟩
        rw [vI_len, List.length_take, Nat.min_eq_left (by omega), ← prsN_succ] at hk5
        exact ⟨sm5, ys5, hys5, hk5⟩
    · rintro H1 ⟨sm, ys, hys, hk⟩
      rw [vI_len] at hk
      exact q D ys H1 sm nD hys hk
  · refine .inr ⟨hs, fun D nD => ?_⟩
    refine lc2_it walk_enT (fun i H1 => Same H H1 ∧ ∃ ys, H1 D = some (.lst ys) ∧ NKs K H1 ((prsN rs i).map pairK) ys) ⟨same_new nD, [], upd_same, .nil⟩ (fun i H1 _ h => sqT h.1 hs) ?_ ?_
    · rintro i v H1 H2 hi ⟨sm, ys, hys, hk⟩ ⟨T, x, rfl, nT, rfl, hx⟩
      rw [vI_len] at hi
      rw [vI_get hi] at hx
      cases hx
      have sT := same_new (o := .tup [.int (i : Int), .int ((rs.getD i 0 : Nat) : Int)]) nT
      refine ⟨T, _, rfl, .inl (.inl upd_same), rfl, _, _, rfl, _, _, rfl, rfl, ⟨rfl, yesT (iteT ?_)⟩⟩
      have s2 := Same.trans sm sT
      have hys2 := sT _ _ hys
      have hk2 := NKs.tk (Tk.same sT) _ _ hk
      generalize upd H1 T (.tup [.int (i : Int), .int ((rs.getD i 0 : Nat) : Int)]) = H3 at *
      have hsl : HT.sIx (vI rs).length (vI rs).length (some (i : Int)) = i := by rw [HT.sIx_nat, vI_len]; omega
      refine ⟨_, rfl, _, rfl, _, rfl, .inr ⟨a, vI rs, rfl, sqT s2 hs, fun h => ?_, fun _ p np => ?_⟩⟩
      · have h2 := h.2
        rw [hsl, vI_len] at h2
        omega
      rw [cut_take] at *
      have sp := same_new (o := .tup (vI (rs.take i))) np
      have hp : upd H3 p (.tup (vI (rs.take i))) p = some (.tup (vI (rs.take i))) := upd_same
      have pD : p ≠ D := fun e => by subst e; rw [hys2] at np; cases np
      refine ⟨p, rfl, .inr ⟨⟨_, .inl (.inl hp)⟩, ?_⟩⟩
      refine lc_in (walk_tup (xs := vI (rs.take i))) (fun j H5 => Same H H5 ∧ SqT K H5 p (vI (rs.take i)) ∧ ∃ ys, H5 D = some (.lst ys) ∧ NKs K H5 ((prsN rs i ++ (rs.take j).map fun r => (r, rs.getD i 0)).map pairK) ys) ⟨Same.trans s2 sp, .inl (.inl hp), ys, sp _ _ hys2, by rw [List.take_zero, List.map_nil, List.append_nil]; exact NKs.tk (Tk.same sp) _ _ hk2⟩ (fun j H5 _ h => h.2.1) ?_ ?_
      · rintro j x H5 H6 hj ⟨sm5, ho5, ys5, hys5, hk5⟩ ⟨e, ex⟩
        subst e
        rw [vI_len, List.length_take] at hj
        rw [vI_get (by rw [List.length_take]; exact hj)] at ex
        cases ex
        refine ⟨rfl, yesT (iteT ⟨_, rfl, _, rfl, sz 2 (by decide), fun t1 n1 => ?_⟩)⟩
        have s1 := same_new (o := .tup [.int (((rs.take i).getD j 0 : Nat) : Int), .int ((rs.getD i 0 : Nat) : Int)]) n1
        have hlen := hk5.length
        rw [List.length_map, List.length_append, List.length_map, List.length_take] at hlen
        have hpl := prsN_len rs i
        refine ⟨ys5, s1 _ _ hys5, Nat.lt_of_le_of_lt (by omega) (small i j hi (by omega)), Same.mut (Same.trans sm5 s1) nD, ?_, _, upd_same, ?_⟩
        · exact (Tk.mut (s1 _ _ hys5) True.intro).sqt (sqT s1 ho5)
        · have tm := Tk.mut (o := .lst (ys5 ++ [.ref t1])) (s1 _ _ hys5) True.intro
          have e1 : (rs.take i).getD j 0 = rs.getD j 0 := by
            rw [List.getD_eq_getElem?_getD, List.getElem?_take_of_lt (by omega), ← List.getD_eq_getElem?_getD]
          have e2 : rs.take (j + 1) = rs.take j ++ [rs.getD j 0] := by
            rw [List.take_succ, List.getD_eq_getElem?_getD, List.getElem?_eq_getElem (by omega)]
            rfl
          rw [e2, List.map_append (f := fun r => (r, rs.getD i 0)), ← List.append_assoc, List.map_append (f := pairK)]
          refine NKs.append (NKs.tk (Tk.trans (Tk.same s1) tm) _ _ hk5) (.cons (NK.tk tm _ _ ?_) .nil)
          rw [e1]
          exact two_mk (.inl (.inl (by rw [← e1]; exact upd_same))) (.num _) (.num _)
      · rintro H5 ⟨sm5, ho5, ys5, hys5, hk5⟩
        rw [vI_len, List.length_take, Nat.min_eq_left (by omega), ← prsN_succ] at hk5
        exact ⟨sm5, ys5, hys5, hk5⟩
    · rintro H1 ⟨sm, ys, hys, hk⟩
      rw [vI_len] at hk
      exact q D ys H1 sm nD hys hk
end
end G6

-- G6Mi
namespace G6
/-! ### dealings -/
def top1 (d : List Nat) : Nat := d.foldl (fun m x => max m (x + 1)) 0
def okAdd (bad : Nat → Nat → Bool) (d : List Nat) (h : Nat) : Bool := (List.range d.length).all fun i => !(bad i d.length && d.getD i 0 == h)
def apart (bad : Nat → Nat → Bool) (d : List Nat) : Bool := (List.range d.length).all fun j => (List.range j).all fun i => !(bad i j && d.getD i 0 == d.getD j 0)
/-- what the program does -/
def dealt (bad : Nat → Nat → Bool) (most : Nat) : Nat → List Nat → Option (List Nat)
  | 0, d => some d
  | n + 1, d => (List.range (min most (top1 d + 1))).findSome? fun h => if okAdd bad d h then dealt bad most n (d ++ [h]) else none
def hueF (bad : Nat → Nat → Bool) (R m : Nat) : Option (Nat × List Nat) := (dealt bad m R []).map fun d => (m, d)
def hue (bad : Nat → Nat → Bool) (R : Nat) : Nat × List Nat := ((List.range R).findSome? fun m => hueF bad R (m + 1)).getD (R, List.range R)
/-- all dealings by order that the program could try -/
def rgs (most : Nat) : Nat → List Nat → List (List Nat)
  | 0, d => [d]
  | n + 1, d => (List.range (min most (top1 d + 1))).flatMap fun h => rgs most n (d ++ [h])
/-- the law's -/
def grow (R : Nat) (ds : List (List Nat)) : List (List Nat) := ds.flatMap fun d => (List.range (if R < 5 then R else top1 d + 1)).map fun h => d ++ [h]
def growN (R : Nat) : Nat → List (List Nat)
  | 0 => [[]]
  | n + 1 => grow R (growN R n)
def full (d : List Nat) : Bool := (List.range (top1 d)).all fun h => d.contains h
def dealings (R : Nat) : List (List Nat) := (growN R R).filter full
theorem apart_snoc (bad : Nat → Nat → Bool) (d : List Nat) (h : Nat) : apart bad (d ++ [h]) = (apart bad d && okAdd bad d h) := by
  unfold apart okAdd
  rw [List.length_append, List.length_singleton, List.range_succ, List.all_append]
  have e1 : ∀ i, i < d.length → (d ++ [h]).getD i 0 = d.getD i 0 := fun i hi => by
    rw [List.getD_eq_getElem?_getD, List.getD_eq_getElem?_getD, List.getElem?_append_left hi]
  have e2 : (d ++ [h]).getD d.length 0 = h := by simp [List.getD_eq_getElem?_getD]
  congr 1
  · rw [Bool.eq_iff_iff]
    simp only [List.all_eq_true, List.mem_range]
    constructor
    · intro q j hj i hi
      have := q j hj i hi
      rwa [e1 i (by omega), e1 j hj] at this
    · intro q j hj i hi
      have := q j hj i hi
      rwa [e1 i (by omega), e1 j hj]
  · simp only [List.all_cons, List.all_nil, Bool.and_true]
    rw [Bool.eq_iff_iff]
    simp only [List.all_eq_true, List.mem_range]
    constructor
    · intro q i hi
      have := q i hi
      rwa [e1 i hi, e2] at this
    · intro q i hi
      have := q i hi
      rwa [e1 i hi, e2]
theorem rgs_not (bad : Nat → Nat → Bool) (most : Nat) : ∀ (n : Nat) (d : List Nat), apart bad d = false → (rgs most n d).find? (apart bad) = none
  | 0, d, h => by
    simp [rgs, h]
  | n + 1, d, h => by
    unfold rgs
    rw [List.find?_flatMap, List.findSome?_eq_none_iff]
    intro x _
    exact rgs_not bad most n _ (by rw [apart_snoc, h]; rfl)
theorem findSome_congr {α β : Type} {f g : α → Option β} : ∀ {l : List α}, (∀ x ∈ l, f x = g x) → l.findSome? f = l.findSome? g
  | [], _ => rfl
  | x :: l, h => by
    rw [List.findSome?_cons, List.findSome?_cons, h x List.mem_cons_self, findSome_congr fun y hy => h y (List.mem_cons_of_mem _ hy)]
theorem dealt_find (bad : Nat → Nat → Bool) (most : Nat) : ∀ (n : Nat) (d : List Nat), apart bad d = true → dealt bad most n d = (rgs most n d).find? (apart bad)
  | 0, d, h => by simp [dealt, rgs, h]
  | n + 1, d, h => by
    unfold dealt rgs
    rw [List.find?_flatMap]
    refine findSome_congr fun x _ => ?_
    by_cases e : okAdd bad d x = true
    · rw [if_pos e]
      exact dealt_find bad most n _ (by rw [apart_snoc, h, e]; rfl)
    · rw [if_neg e, rgs_not bad most n _ (by rw [apart_snoc, Bool.eq_false_iff.mpr e, Bool.and_false])]
/-- the same rows together, the hands in order -/
def canon (d : List Nat) : List Nat := d.foldl (fun acc x => acc ++ [(acc.zip d).findSome? (fun p => if p.2 = x then some p.1 else none) |>.getD (top1 acc)]) []
def sameP (d e : List Nat) : Bool := decide (d.length = e.length) && (List.range d.length).all fun j => (List.range j).all fun i => (d.getD i 0 == d.getD j 0) == (e.getD i 0 == e.getD j 0)
theorem same_apart (bad : Nat → Nat → Bool) {d e : List Nat} (h : sameP d e = true) : apart bad d = apart bad e := by
  unfold sameP at h
  simp only [Bool.and_eq_true, decide_eq_true_eq] at h
  obtain ⟨hl, h⟩ := h
  unfold apart
  rw [← hl, Bool.eq_iff_iff]
  simp only [List.all_eq_true, List.mem_range] at h ⊢
  constructor
  · intro q j hj i hi
    have a := h j hj i hi
    have b := q j hj i hi
    rw [beq_iff_eq] at a
    rwa [← a]
  · intro q j hj i hi
    have a := h j hj i hi
    have b := q j hj i hi
    rw [beq_iff_eq] at a
    rwa [a]
def isRgs (R : Nat) (d : List Nat) : Bool := (rgs R R []).contains d
/-- what is looked up of the dealings of so many rows -/
structure DOk (R : Nat) : Prop where
  can : ∀ (i : Nat) (d : List Nat), (dealings R)[i]? = some d → ∃ j e, j ≤ i ∧ (dealings R)[j]? = some e ∧ isRgs R e = true ∧ sameP d e = true ∧ top1 e = top1 d
  rg : ∀ m, 1 ≤ m → m ≤ R → rgs m R [] = (dealings R).filter fun d => isRgs R d && decide (top1 d ≤ m)
  tp : ∀ d ∈ dealings R, 1 ≤ top1 d ∧ top1 d ≤ R
  one : List.range R ∈ rgs R R []
  len : ∀ d ∈ dealings R, d.length = R
def canB (R : Nat) : Bool := (List.range (dealings R).length).all fun i => match (dealings R)[i]? with
  | some d => (List.range (i + 1)).any fun j => match (dealings R)[j]? with
    | some e => isRgs R e && (sameP d e && decide (top1 e = top1 d))
    | none => false
  | none => false
theorem can_ok {R : Nat} (h : canB R = true) (i : Nat) (d : List Nat) (hd : (dealings R)[i]? = some d) : ∃ j e, j ≤ i ∧ (dealings R)[j]? = some e ∧ isRgs R e = true ∧ sameP d e = true ∧ top1 e = top1 d := by
  unfold canB at h
  rw [List.all_eq_true] at h
  have := h i (List.mem_range.mpr (List.getElem?_eq_some_iff.mp hd).1)
  rw [hd] at this
  simp only [List.any_eq_true, List.mem_range] at this
  obtain ⟨j, hj, hq⟩ := this
  split at hq
  · rename_i e he
    simp only [Bool.and_eq_true, decide_eq_true_eq] at hq
    exact ⟨j, e, by omega, he, hq.1, hq.2.1, hq.2.2⟩
  · cases hq
theorem can_big {R : Nat} (h : dealings R = rgs R R []) (i : Nat) (d : List Nat) (hd : (dealings R)[i]? = some d) : ∃ j e, j ≤ i ∧ (dealings R)[j]? = some e ∧ isRgs R e = true ∧ sameP d e = true ∧ top1 e = top1 d := by
  refine ⟨i, d, Nat.le_refl _, hd, ?_, ?_, rfl⟩
  · unfold isRgs
    rw [← h]
    have := List.mem_of_getElem? hd
    simpa using this
  · unfold sameP
    simp
theorem rg_big {R : Nat} (h : dealings R = rgs R R []) (h2 : ∀ m, 1 ≤ m → m ≤ R → rgs m R [] = (rgs R R []).filter fun d => decide (top1 d ≤ m)) : ∀ m, 1 ≤ m → m ≤ R → rgs m R [] = (dealings R).filter fun d => isRgs R d && decide (top1 d ≤ m) := by
  intro m h1 hm
  rw [h2 m h1 hm, h]
  refine List.filter_congr fun d hd => ?_
  unfold isRgs
  have : (rgs R R []).contains d = true := by simpa using hd
  rw [this]
  rfl
theorem dok {R : Nat} (h1 : 1 ≤ R) (h6 : R ≤ 6) : DOk R := by
  have : R = 1 ∨ R = 2 ∨ R = 3 ∨ R = 4 ∨ R = 5 ∨ R = 6 := by omega
  rcases this with rfl | rfl | rfl | rfl | rfl | rfl
  · exact ⟨can_ok (by decide +kernel), fun m a b => (by decide +kernel : ∀ m, m ≤ 1 → 1 ≤ m → rgs m 1 [] = (dealings 1).filter fun d => isRgs 1 d && decide (top1 d ≤ m)) m b a, by decide +kernel, by decide +kernel, by decide +kernel⟩
  · exact ⟨can_ok (by decide +kernel), fun m a b => (by decide +kernel : ∀ m, m ≤ 2 → 1 ≤ m → rgs m 2 [] = (dealings 2).filter fun d => isRgs 2 d && decide (top1 d ≤ m)) m b a, by decide +kernel, by decide +kernel, by decide +kernel⟩
  · exact ⟨can_ok (by decide +kernel), fun m a b => (by decide +kernel : ∀ m, m ≤ 3 → 1 ≤ m → rgs m 3 [] = (dealings 3).filter fun d => isRgs 3 d && decide (top1 d ≤ m)) m b a, by decide +kernel, by decide +kernel, by decide +kernel⟩
  · exact ⟨can_ok (by decide +kernel), fun m a b => (by decide +kernel : ∀ m, m ≤ 4 → 1 ≤ m → rgs m 4 [] = (dealings 4).filter fun d => isRgs 4 d && decide (top1 d ≤ m)) m b a, by decide +kernel, by decide +kernel, by decide +kernel⟩
  · have e : dealings 5 = rgs 5 5 [] := by decide +kernel
    exact ⟨can_big e, rg_big e fun m a b => (by decide +kernel : ∀ m, m ≤ 5 → 1 ≤ m → rgs m 5 [] = (rgs 5 5 []).filter fun d => decide (top1 d ≤ m)) m b a, by decide +kernel, by decide +kernel, by decide +kernel⟩
  · have e : dealings 6 = rgs 6 6 [] := by decide +kernel
    exact ⟨can_big e, rg_big e fun m a b => (by decide +kernel : ∀ m, m ≤ 6 → 1 ≤ m → rgs m 6 [] = (rgs 6 6 []).filter fun d => decide (top1 d ≤ m)) m b a, by decide +kernel, by decide +kernel, by decide +kernel⟩
theorem findSome_range {β : Type} {f : Nat → Option β} {R i : Nat} {b : β} (hi : i < R) (h : f i = some b) (h0 : ∀ k, k < i → f k = none) : (List.range R).findSome? f = some b := by
  have e : R = i + (R - i - 1 + 1) := by omega
  rw [e, List.range_add, List.findSome?_append]
  have e1 : (List.range i).findSome? f = none := List.findSome?_eq_none_iff.mpr fun x hx => h0 x (List.mem_range.mp hx)
  rw [e1, List.range_succ_eq_map]
  simp [h]
theorem exists_min {α : Type} (f : α → Nat) : ∀ l : List α, l ≠ [] → ∃ e ∈ l, ∀ x ∈ l, f e ≤ f x
  | [], h => (h rfl).elim
  | [a], _ => ⟨a, by simp, by simp⟩
  | a :: b :: l, _ => by
    obtain ⟨e, he, hm⟩ := exists_min f (b :: l) (by simp)
    by_cases h : f a ≤ f e
    · refine ⟨a, by simp, fun x hx => ?_⟩
      rcases List.mem_cons.mp hx with rfl | hx
      · exact Nat.le_refl _
      · exact Nat.le_trans h (hm x hx)
    · refine ⟨e, List.mem_cons_of_mem _ he, fun x hx => ?_⟩
      rcases List.mem_cons.mp hx with rfl | hx
      · omega
      · exact hm x hx
theorem apart_range (bad : Nat → Nat → Bool) (R : Nat) : apart bad (List.range R) = true := by
  unfold apart
  simp only [List.all_eq_true, List.mem_range, List.length_range]
  intro j hj i hi
  have e1 : (List.range R).getD i 0 = i := by rw [List.getD_eq_getElem?_getD, List.getElem?_range (by omega)]; rfl
  have e2 : (List.range R).getD j 0 = j := by rw [List.getD_eq_getElem?_getD, List.getElem?_range (by omega)]; rfl
  rw [e1, e2]
  have : (i == j) = false := by simp; omega
  rw [this]
  simp
/-- the law's dealings without crossing rows -/
def apartOf (bad : Nat → Nat → Bool) (R : Nat) : List (List Nat) := (dealings R).filter (apart bad)
structure HueIs (bad : Nat → Nat → Bool) (R m : Nat) (d : List Nat) : Prop where
  eq : hue bad R = (m, d)
  lo : 1 ≤ m
  hi : m ≤ R
  le : ∀ e ∈ apartOf bad R, m ≤ top1 e
  ex : ∃ e ∈ apartOf bad R, top1 e = m
  hd : ((apartOf bad R).filter fun e => decide (top1 e = m)).head? = some d
  at' : ∀ k, k < m → 1 ≤ k → dealt bad k R [] = none
  dl : dealt bad m R [] = some d
theorem hue_is (bad : Nat → Nat → Bool) {R : Nat} (h1 : 1 ≤ R) (h6 : R ≤ 6) : ∃ m d, HueIs bad R m d := by
  have D := dok h1 h6
  have nil : apart bad [] = true := by simp [apart]
  have dt : ∀ m, 1 ≤ m → m ≤ R → dealt bad m R [] = (dealings R).find? fun d => (isRgs R d && decide (top1 d ≤ m)) && apart bad d := by
    intro m a b
    rw [dealt_find bad m R [] nil, D.rg m a b, List.find?_filter]
    congr 1
    funext d
    rw [Bool.eq_iff_iff]
    simp only [decide_eq_true_eq, Bool.and_eq_true]
  have hne : apartOf bad R ≠ [] := by
    have h := D.one
    rw [D.rg R h1 (Nat.le_refl _)] at h
    have : List.range R ∈ apartOf bad R := List.mem_filter.mpr ⟨(List.mem_filter.mp h).1, apart_range bad R⟩
    intro e
    rw [e] at this
    simp at this
  obtain ⟨e0, he0, hmin⟩ := exists_min top1 _ hne
  have hin : ∀ e ∈ apartOf bad R, e ∈ dealings R ∧ apart bad e = true := fun e he => List.mem_filter.mp he
  have tp0 := D.tp e0 (hin e0 he0).1
  have none' : ∀ k, k < top1 e0 → 1 ≤ k → dealt bad k R [] = none := by
    intro k hk h1k
    rw [dt k h1k (by omega), List.find?_eq_none]
    intro x hx hp
    simp only [Bool.and_eq_true, decide_eq_true_eq] at hp
    have := hmin x (List.mem_filter.mpr ⟨hx, hp.2⟩)
    omega
  have hfil : (apartOf bad R).filter (fun e => decide (top1 e = top1 e0)) = (dealings R).filter fun e => decide (top1 e = top1 e0) && apart bad e := by
    unfold apartOf
    rw [List.filter_filter]
  have hfd : ∃ d, (dealings R).find? (fun e => decide (top1 e = top1 e0) && apart bad e) = some d := by
    cases h : (dealings R).find? (fun e => decide (top1 e = top1 e0) && apart bad e) with
    | some d => exact ⟨d, rfl⟩
    | none =>
      rw [List.find?_eq_none] at h
      exact absurd (by simp [(hin e0 he0).2]) (h e0 (hin e0 he0).1)
  obtain ⟨d, hd⟩ := hfd
  have hdl : dealt bad (top1 e0) R [] = some d := by
    rw [dt _ tp0.1 tp0.2]
    rw [List.find?_eq_some_iff_getElem] at hd ⊢
    obtain ⟨hp, i, hi, hx, hbef⟩ := hd
    simp only [Bool.and_eq_true, decide_eq_true_eq] at hp
    obtain ⟨j, e, hj, he, hr, hs, ht⟩ := D.can i d (by rw [List.getElem?_eq_getElem hi, hx])
    have hji : j = i := by
      by_cases h : j = i
      · exact h
      · have hjl : j < (dealings R).length := by omega
        have := hbef j (by omega)
        rw [List.getElem?_eq_getElem hjl] at he
        rw [Option.some.inj he, ← same_apart bad hs, hp.2, ht, hp.1] at this
        simp at this
    subst hji
    rw [List.getElem?_eq_getElem hi, hx] at he
    have := Option.some.inj he
    subst this
    refine ⟨by rw [hr, hp.2, hp.1]; simp, j, hi, hx, fun k hk => ?_⟩
    have := hbef k hk
    simp only [Bool.not_eq_true', Bool.and_eq_false_iff, decide_eq_false_iff_not] at this ⊢
    by_cases ha : apart bad (dealings R)[k] = true
    · have h3 := hmin _ (List.mem_filter.mpr ⟨List.getElem_mem (by omega), ha⟩)
      rcases this with h | h
      · exact .inl (.inr (by omega))
      · rw [ha] at h
        cases h
    · exact .inr (Bool.eq_false_iff.mpr ha)
  refine ⟨top1 e0, d, ?_, tp0.1, tp0.2, hmin, ⟨e0, he0, rfl⟩, ?_, none', hdl⟩
  · unfold hue
    rw [findSome_range (i := top1 e0 - 1) (b := (top1 e0, d)) (by omega)]
    · rfl
    · unfold hueF
      rw [Nat.sub_add_cancel tp0.1, hdl]
      rfl
    · intro k hk
      unfold hueF
      rw [none' (k + 1) (by omega) (by omega)]
      rfl
  · rw [hfil, List.head?_filter]
    exact hd
theorem hue_mono {bad bad' : Nat → Nat → Bool} {R : Nat} (h1 : 1 ≤ R) (h6 : R ≤ 6) (h : ∀ i j, i < j → j < R → bad i j = true → bad' i j = true) : (hue bad R).1 ≤ (hue bad' R).1 := by
  obtain ⟨m, d, q⟩ := hue_is bad h1 h6
  obtain ⟨m', d', q'⟩ := hue_is bad' h1 h6
  rw [q.eq, q'.eq]
  show m ≤ m'
  obtain ⟨e, he, ht⟩ := q'.ex
  rw [← ht]
  refine q.le e ?_
  obtain ⟨hm, ha⟩ := List.mem_filter.mp he
  refine List.mem_filter.mpr ⟨hm, ?_⟩
  have hl := (dok h1 h6).len e hm
  unfold apart at ha ⊢
  simp only [List.all_eq_true, List.mem_range, Bool.not_eq_true', Bool.and_eq_false_iff] at ha ⊢
  intro j hj i hi
  rcases ha j hj i hi with z | z
  · left
    cases e : bad i j with
    | false => rfl
    | true => rw [h i j hi (by omega) e] at z; cases z
  · exact .inr z
end G6

-- G6F_As
namespace G6
open PySem PySem.Spec PyProof.Rows L2
def badP (ps : List (Nat × Nat)) (i j : Nat) : Bool := decide ((i, j) ∈ ps)
theorem paired_fn {g : Nat → V} : ∀ {l : List Nat} {ys : List V}, Paired (fun i y => y = g i) l ys → ys = l.map g
  | _, _, .nil => rfl
  | _, _, .cons r t => by rw [r, paired_fn t]; rfl
theorem intKs_pair : ∀ l : List (Nat × Nat), intKs (l.map pairK) = true
  | [] => rfl
  | p :: l => by
    show (intK (pairK p) && intKs (l.map pairK)) = true
    rw [intKs_pair l]
    rfl
theorem mem_pairK {p : Nat × Nat} {ps : List (Nat × Nat)} : decide (pairK p ∈ ps.map pairK) = decide (p ∈ ps) := by
  have : pairK p ∈ ps.map pairK ↔ p ∈ ps := by
    rw [List.mem_map]
    exact ⟨fun ⟨x, h, e⟩ => pairK_inj _ _ e ▸ h, fun h => ⟨p, h, rfl⟩⟩
  simp [this]
section
variable {K : PySem.W.Frag} {H : Hp} {a b : Addr} {xs ys : List V} {Q : VK}
theorem catA_all (ha : SqT K H a xs) (hb : SqT K H b ys) (hl : xs.length + ys.length ≤ sizeLine) (q : ∀ p H2, Same H H2 → SqT K H2 p (xs ++ ys) → Q (.ref p) H2) : rCatA K (.ref a) (.ref b) H Q :=
  ⟨a, b, xs, ys, rfl, rfl, ha, hb, hl, fun e => q b H (Same.refl _) (by rw [e]; exact hb), fun _ e => q a H (Same.refl _) (by rw [e, List.append_nil]; exact ha), fun _ _ p np => q p _ (same_new np) (.inl (.inl upd_same))⟩
theorem foldl_top (l : List Nat) : ∀ m : Nat, (((l.map fun n : Nat => (n : Int)) ++ [-1]).foldl max ((m : Int) - 1)) = ((l.foldl (fun m x => max m (x + 1)) m : Nat) : Int) - 1 ∨ m = 0 := by
  induction l with
  | nil =>
    intro m
    by_cases h : m = 0
    · exact .inr h
    · left
      simp
      omega
  | cons x l ih =>
    intro m
    left
    rw [List.map_cons, List.cons_append, List.foldl_cons, List.foldl_cons]
    have e : max ((m : Int) - 1) (x : Int) = ((max m (x + 1) : Nat) : Int) - 1 := by omega
    rw [e]
    rcases ih (max m (x + 1)) with h | h
    · exact h
    · omega
theorem max_told {told : List Nat} (h : SqT K H a (vI told ++ [.int (-1)])) (q : Q (.int ((top1 told : Nat) - 1)) H) : rMaxT K [.ref a] H Q := by
  cases told with
  | nil => exact ⟨a, -1, [], rfl, h, q⟩
  | cons x r =>
    refine ⟨a, (x : Int), (r.map fun n : Nat => (n : Int)) ++ [-1], rfl, ?_, ?_⟩
    · have : ((x : Int) :: ((r.map fun n : Nat => (n : Int)) ++ [-1])).map V.int = vI (x :: r) ++ [.int (-1)] := by
        rw [List.map_cons, List.map_append, ← vI_int]
        rfl
      rw [this]
      exact h
    · have := foldl_top r (x + 1)
      rcases this with e | e
      · have e0 : ((x + 1 : Nat) : Int) - 1 = (x : Int) := by omega
        rw [e0] at e
        rw [e]
        have : r.foldl (fun m x => max m (x + 1)) (x + 1) = top1 (x :: r) := by
          unfold top1
          rw [List.foldl_cons]
          congr 1
        rw [this]
        exact q
      · omega
end
theorem tNil_rd {σ : L2.St} {H : Hp} {Q : List V → Hp → Prop} (h : Q [] H) : tNil σ H Q := h
theorem vI_snoc (l : List Nat) (x : Nat) : vI (l ++ [x]) = vI l ++ [.int (x : Int)] := by
  unfold vI
  rw [List.map_append]
  rfl
def DealV (K : PySem.W.Frag) (H : Hp) : Option (List Nat) → V → Prop
  | none, v => v = .non
  | some d, v => ∃ a, v = .ref a ∧ SqT K H a (vI d)
section
variable {P : Program} {w : World} {K : PySem.W.Frag} {mg : Str → Option Value} {base : Heap}
abbrev N_dealt_on : List Str := ["many", "pairs", "told", "most", "hand", "found", "row"]
theorem sc_dealt_on : FnScope N_dealt_on ["many", "pairs", "told", "most"] (defScope s_dealt_on) := ⟨rfl, rfl, rfl, by decide +kernel, rfl, by decide +kernel, by decide +kernel⟩
def sp_dealt_on (K : PySem.W.Frag) (n : Nat) : Sp := fun vs H Q _ => ∃ (R most : Nat) (pa ta : Addr) (pvs : List V) (ps : List (Nat × Nat)) (told : List Nat), vs = [.int (R : Int), .ref pa, .ref ta, .int (most : Int)] ∧ SqT K H pa pvs ∧ NKs K H (ps.map pairK) pvs ∧ SqT K H ta (vI told) ∧ told.length + n = R ∧ R ≤ 6 ∧ most ≤ 6 ∧
  ∀ v H', Same H H' → DealV K H' (dealt (badP ps) most n told) v → Q v H'
theorem f_dealt_on (c : Cn K mg) : ∀ n, C8.Cal P w K mg base (n + 1) "dealt_on" (sp_dealt_on K n) []
  | 0 => by
    refine cal_of (N := N_dealt_on) c.g_dealt_on c.d_dealt_on sc_dealt_on (fun _ _ _ _ _ _ us hl => match us, hl with | [_, _, _, _], _ => rfl) (fun vs H Q E h => ?len) (fun cdv A outer s H vs Q E hr h => ?_)
    case len => obtain ⟨R, most, pa, ta, pvs, ps, told, rfl, _⟩ := h; rfl
    obtain ⟨R, most, pa, ta, pvs, ps, told, rfl, hpa, hps, hta, hn, hR, hm, q⟩ := h
    refine ⟨_, (pss_cons (ps_if (pt_cmpR op_eq (pe_callB (r := rLenA K) (kc_len K) (by rfl) c.z_len (by decide +kernel) (pa_cons (pv 2) pa_nil)) (pv 0) (nomark _)) (pss_one (ps_ret (pv 2))) pss_nil) pss_never), ?_⟩
    refine ⟨_, rfl, _, _, rfl, .inr hta, _, rfl, rfl, true, congrArg V.bl (decide_eq_true (by rw [vI_len]; congr 1; omega)), iteT ⟨_, rfl, q _ _ (Same.refl _) ⟨ta, rfl, hta⟩⟩⟩
  | n + 1 => by
    have h_dealt_on := f_dealt_on c n
    have hlv : n + 1 ≤ n + 1 := Nat.le_refl _
    refine cal_of (N := N_dealt_on) c.g_dealt_on c.d_dealt_on sc_dealt_on (fun _ _ _ _ _ _ us hl => match us, hl with | [_, _, _, _], _ => rfl) (fun vs H Q E h => ?len) (fun cdv A outer s H vs Q E hr h => ?_)
    case len => obtain ⟨R, most, pa, ta, pvs, ps, told, rfl, _⟩ := h; rfl
    obtain ⟨R, most, pa, ta, pvs, ps, told, rfl, hpa, hps, hta, hn, hR, hm, q⟩ := h
    refine ⟨_, (pss_cons (ps_if (pt_cmpR op_eq (pe_callB (r := rLenA K) (kc_len K) (by rfl) c.z_len (by decide +kernel) (pa_cons (pv 2) pa_nil)) (pv 0) (nomark _)) (pss_one (ps_ret (pv 2))) pss_nil)
      (pss_cons (ps_for PassesOwn.never rfl (pi_range1 (by rfl) c.z_range (pa_cons (pe_callB (r := rMin2) kc_min2 (by rfl) c.z_min (by decide +kernel) (pa_cons (pv 3) (pa_cons (pe_op op_add (pe_callB (r := rMaxT K) (kc_maxT K hr) (by rfl) c.z_max (by decide +kernel) (pa_cons (pe_op (r := rCatA K) (kcat K) (pv 2) (pe_tup (pa_cons (pe_un un_neg pe_int) pa_nil))) pa_nil)) pe_int) pa_nil))) pa_nil)) (pg_name (i := 4) sc_dealt_on.nd rfl (Or.inr rfl)) (pss_one (ps_if (pt_not (pt_val (pe_callB (r := rAny K) (kc_any K) (by rfl) c.z_any (by decide +kernel) (pa_cons (pe_lc (own := [("row", 6)]) (g := gName 6) (tt := tYes) rfl sc_dealt_on.nd (pi_range1 (by rfl) c.z_range (pa_cons (pe_callB (r := rLenA K) (kc_len K) (by rfl) c.z_len (by decide +kernel) (pa_cons (pv 2) pa_nil)) pa_nil)) (blkOk_by (own := [("row", 6)]) (N := N_dealt_on) (sc := defScope s_dealt_on) (by decide +kernel)) (fun _ _ _ _ _ => (pg_name (i := 6) sc_dealt_on.nd rfl (Or.inl rfl))) (fun _ _ _ _ _ => pts_nil) (fun _ _ _ _ _ => (pe_and (pe_cmpR (r := rInN K) (kop_in K hr) (pe_tup (pa_cons (pv 6) (pa_cons (pe_callB (r := rLenA K) (kc_len K) (by rfl) c.z_len (by decide +kernel) (pa_cons (pv 2) pa_nil)) pa_nil))) (pv 1) (by rfl)) (pe_one (pe_cmpR op_eq (kixT K (pv 2) (pv 6)) (pv 4) (nomark _)))))) pa_nil)))) (pss_cons (ps_set (i := 5) sc_dealt_on.nd rfl (Or.inl rfl) (C8.pe_c h_dealt_on hr hlv (by rfl) (pa_cons (pv 0) (pa_cons (pv 1) (pa_cons (pe_op (r := rCatA K) (kcat K) (pv 2) (pe_tup (pa_cons (pv 4) pa_nil))) (pa_cons (pv 3) pa_nil))))))
      (pss_one (ps_if (pt_cmp (pc_notN (pv 5))) (pss_one (ps_ret (pv 5))) pss_nil))) pss_nil)))
      (pss_one (ps_ret pe_non)))), ?_⟩
    have hpvl : pvs.length = ps.length := by have := hps.length; simpa using this
    refine ⟨_, rfl, _, _, rfl, .inr hta, _, rfl, rfl, false, congrArg V.bl (decide_eq_false (by rw [vI_len]; intro e; injection e with e; omega)), iteF ?_⟩
    -- the bound
    refine ⟨_, rfl, _, rfl, _, rfl, sz 1 (by decide), fun t1 n1 => ?_⟩
    have s1 := same_new (o := .tup [.int (-1)]) n1
    refine catA_all (sqT s1 hta) (.inl (.inl upd_same)) (by rw [vI_len]; exact sz _ (by simp; omega)) fun p H2 s2 hp => ?_
    refine tNil_rd (max_told hp ?_)
    have s12 := Same.trans s1 s2
    have emin : (if ((top1 told : Nat) : Int) - 1 + 2 < (most : Int) then ((top1 told : Nat) : Int) - 1 + 2 else (most : Int)) = ((min most (top1 told + 1) : Nat) : Int) := by split <;> omega
    have hM : min most (top1 told + 1) ≤ 6 := by omega
    refine ⟨_, _, rfl, rfl, _, _, rfl, ((min most (top1 told + 1) : Nat) : Int), by rw [emin], by omega, by omega, ?_⟩
    generalize hMM : min most (top1 told + 1) = M at *
    have hdl : dealt (badP ps) most (n + 1) told = (List.range M).findSome? fun h => if okAdd (badP ps) told h then dealt (badP ps) most n (told ++ [h]) else none := by rw [← hMM]; rfl
    refine for_it walk_range (fun i σ H1 => ∃ u4 u5 u6 : Option V, σ = [some (.int (R : Int)), some (.ref pa), some (.ref ta), some (.int (most : Int)), u4, u5, u6] ∧ Same H H1 ∧ ∀ k, k < i → (if okAdd (badP ps) told k then dealt (badP ps) most n (told ++ [k]) else none) = none) ?_ (fun _ _ _ _ _ => True.intro) ?_ ?_
    · exact ⟨_, _, _, rfl, s12, by intro k hk; omega⟩
    · rintro i x σ H1 H1' hi ⟨u4, u5, u6, rfl, sm, hno⟩ ⟨e1, ex⟩
      subst e1 ex
      have hi' : i < M := by simpa using hi
      dsimp only
      rw [Int.zero_add]
      have hta1 := sqT sm hta
      refine ⟨_, rfl, _, _, rfl, .inr hta1, ((vI told).length : Int), rfl, by omega, by rw [vI_len]; omega, fun D nD => ?_⟩
      refine lc_map walk_range (fun r y _ => y = .bl (badP ps r told.length && told.getD r 0 == i)) nD (by rw [vI_len]; exact sz _ (by simp; omega)) (fun _ _ => True.intro) (fun i H x H' y => by rw [y.1]; exact Same.refl _) (fun _ _ _ _ _ h => h) (fun _ _ _ _ _ _ h => h) ?_ (mono_name _) ?_
      · intro r x H2 H3 hr2 sm2 _ ⟨e1, ex⟩ Qy hy
        subst e1 ex
        rw [vI_len] at hr2
        have hr3 : r < told.length := by simpa using hr2
        dsimp only
        rw [Int.zero_add]
        have sm3 := Same.trans sm sm2
        refine ⟨rfl, _, rfl, _, rfl, _, _, rfl, .inr (sqT sm3 hta), sz 2 (by decide), fun t4 n4 => ?_⟩
        have s4 := same_new (o := .tup [.int (r : Int), .int ((vI told).length : Int)]) n4
        rw [vI_len] at *
        refine ⟨_, rfl, pairK (r, told.length), ps.map pairK, pa, pvs, two_mk (.inl (.inl upd_same)) (.num _) (.num _), rfl, .inl (sqT (Same.trans sm3 s4) hpa), NKs.tk (Tk.same (Same.trans sm3 s4)) _ _ hps, rfl, intKs_pair _, Nat.le_trans (EQ.dp (r, told.length)) (by decide), _, rfl, ?_⟩
        rw [mem_pairK]
        by_cases hb : (r, told.length) ∈ ps
        · rw [decide_eq_true hb]
          refine iteT ⟨_, rfl, _, rfl, _, _, _, _, rfl, rfl, sqT (Same.trans sm3 s4) hta, vI_get' hr3, _, rfl, rfl, ?_⟩
          refine hy _ _ s4 ?_
          have : badP ps r told.length = true := decide_eq_true hb
          rw [this, Bool.true_and]
          congr 1
          by_cases e : told.getD r 0 = i
          · rw [e]; simp
          · rw [decide_eq_false (fun z => e (by injection z with z; omega))]
            exact (beq_eq_false_iff_ne.mpr e).symm
        · rw [decide_eq_false hb]
          refine iteF (hy _ _ s4 ?_)
          have : badP ps r told.length = false := decide_eq_false hb
          rw [this, Bool.false_and]
      · intro H2 ys sm2 hys hp
        have hye := paired_fn hp
        have hbs : ys = ((List.range told.length).map fun r => (badP ps r told.length && told.getD r 0 == i)).map V.bl := by
          rw [hye, List.map_map, vI_len]
          simp
        have sm3 := Same.trans sm sm2
        refine ⟨D, (List.range told.length).map fun r => (badP ps r told.length && told.getD r 0 == i), rfl, .inl (.inl (by rw [← hbs]; exact hys)), _, rfl, ?_⟩
        have hany : (!((List.range told.length).map fun r => (badP ps r told.length && told.getD r 0 == i)).any id) = okAdd (badP ps) told i := by
          unfold okAdd
          rw [List.any_map, ← List.not_any_eq_all_not]
          rfl
        show (if (!((List.range told.length).map fun r => (badP ps r told.length && told.getD r 0 == i)).any id) = true then _ else _)
        rw [hany]
        by_cases hok : okAdd (badP ps) told i = true
        · rw [if_pos hok]
          refine ⟨_, rfl, _, rfl, _, rfl, _, rfl, sz 1 (by decide), fun t5 n5 => ?_⟩
          have s5 := same_new (o := .tup [.int (i : Int)]) n5
          refine catA_all (sqT (Same.trans sm3 s5) hta) (.inl (.inl upd_same)) (by rw [vI_len]; exact sz _ (by simp; omega)) fun p5 H5 s6 hp5 => ?_
          rw [← vI_snoc] at hp5
          have sm5 := Same.trans sm3 (Same.trans s5 s6)
          refine ⟨_, rfl, R, most, pa, p5, pvs, ps, told ++ [i], rfl, sqT sm5 hpa, NKs.tk (Tk.same sm5) _ _ hps, hp5, by simp; omega, hR, hm, fun v H7 s7 hv => ?_⟩
          have sm7 := Same.trans sm5 s7
          cases hd : dealt (badP ps) most n (told ++ [i]) with
          | none =>
            rw [hd] at hv
            have : v = .non := hv
            subst this
            refine ⟨_, rfl, false, rfl, iteF ⟨_, _, _, rfl, sm7, fun k hk => ?_⟩⟩
            by_cases e : k = i
            · subst e
              rw [if_pos hok, hd]
            · exact hno k (by omega)
          | some d =>
            rw [hd] at hv
            obtain ⟨a7, rfl, ha7⟩ := hv
            refine ⟨_, rfl, true, rfl, iteT ⟨_, rfl, q _ _ sm7 ?_⟩⟩
            rw [hdl, findSome_range hi' (b := d) (by rw [if_pos hok, hd]) hno]
            exact ⟨a7, rfl, ha7⟩
        · rw [if_neg hok]
          refine ⟨_, _, _, rfl, sm3, fun k hk => ?_⟩
          by_cases e : k = i
          · subst e
            rw [if_neg hok]
          · exact hno k (by omega)
    · rintro σ H1 ⟨u4, u5, u6, rfl, sm, hno⟩
      refine q _ _ sm ?_
      have : (List.range M).findSome? (fun h => if okAdd (badP ps) told h then dealt (badP ps) most n (told ++ [h]) else none) = none := List.findSome?_eq_none_iff.mpr fun x hx => hno x (by have := List.mem_range.mp hx; simpa using this)
      rw [hdl, this]
      rfl
abbrev N_hues : List Str := ["many", "pairs", "most", "found"]
theorem sc_hues : FnScope N_hues ["many", "pairs"] (defScope s_hues) := ⟨rfl, rfl, rfl, by decide +kernel, rfl, by decide +kernel, by decide +kernel⟩
def sp_hues (K : PySem.W.Frag) : Sp := fun vs H Q _ => ∃ (R : Nat) (pa : Addr) (pvs : List V) (ps : List (Nat × Nat)), vs = [.int (R : Int), .ref pa] ∧ SqT K H pa pvs ∧ NKs K H (ps.map pairK) pvs ∧ 1 ≤ R ∧ R ≤ 6 ∧
  ∀ a b m d H', Same H H' → hue (badP ps) R = (m, d) → SqT K H' a [.int ((m : Nat) : Int), .ref b] → SqT K H' b (vI d) → Q (.ref a) H'
theorem f_hues (c : Cn K mg) : C8.Cal P w K mg base 9 "hues" (sp_hues K) [] := by
  refine cal_of (N := N_hues) c.g_hues c.d_hues sc_hues (fun _ _ _ _ _ _ us hl => match us, hl with | [_, _], _ => rfl) (fun vs H Q E h => ?len) (fun cdv A outer s H vs Q E hr h => ?_)
  case len => obtain ⟨R, pa, pvs, ps, rfl, _⟩ := h; rfl
  obtain ⟨R, pa, pvs, ps, rfl, hpa, hps, h1, h6, q⟩ := h
  have h_dealt_on := f_dealt_on (P := P) (w := w) (base := base) c R
  have hlv : R + 1 ≤ 8 := by omega
  refine ⟨_, (pss_cons (ps_for PassesOwn.never rfl (pi_range2 (by rfl) c.z_range (pa_cons pe_int (pa_cons (pe_op op_add (pv 0) pe_int) pa_nil))) (pg_name (i := 2) sc_hues.nd rfl (Or.inl rfl)) (pss_cons (ps_set (i := 3) sc_hues.nd rfl (Or.inl rfl) (C8.pe_c h_dealt_on hr hlv (by rfl) (pa_cons (pv 0) (pa_cons (pv 1) (pa_cons (pe_tup pa_nil) (pa_cons (pv 2) pa_nil))))))
      (pss_one (ps_if (pt_cmp (pc_notN (pv 3))) (pss_one (ps_ret (pe_tup (pa_cons (pv 2) (pa_cons (pv 3) pa_nil))))) pss_nil))))
      pss_never), ?_⟩
  obtain ⟨m0, d0, hue0⟩ := hue_is (badP ps) h1 h6
  refine ⟨_, rfl, _, _, rfl, rfl, 1, (R : Int) + 1, rfl, ⟨by decide, by decide, by omega, by omega⟩, ?_⟩
  refine for_it walk_range (fun i σ H1 => ∃ u2 u3 : Option V, σ = [some (.int (R : Int)), some (.ref pa), u2, u3] ∧ Same H H1 ∧ ∀ k, k < i → dealt (badP ps) (k + 1) R [] = none) ?_ (fun _ _ _ _ _ => True.intro) ?_ ?_
  · exact ⟨_, _, rfl, Same.refl _, by intro k hk; omega⟩
  · rintro i x σ H1 H1' hi ⟨u2, u3, rfl, sm, hno⟩ ⟨e1, ex⟩
    subst e1 ex
    have hi' : i < R := by omega
    have e1 : (1 : Int) + (i : Int) = ((i + 1 : Nat) : Int) := by omega
    dsimp only
    rw [e1]
    refine ⟨_, rfl, _, rfl, sz 0 (by decide), fun t1 n1 => ?_⟩
    have s1 := same_new (o := .tup []) n1
    have sm1 := Same.trans sm s1
    refine ⟨_, rfl, R, i + 1, pa, t1, pvs, ps, [], rfl, sqT sm1 hpa, NKs.tk (Tk.same sm1) _ _ hps, .inl (.inl upd_same), by simp, h6, by omega, fun v H2 s2 hv => ?_⟩
    have sm2 := Same.trans sm1 s2
    cases hd : dealt (badP ps) (i + 1) R [] with
    | none =>
      rw [hd] at hv
      have : v = .non := hv
      subst this
      refine ⟨_, rfl, false, rfl, iteF ⟨_, _, rfl, sm2, fun k hk => ?_⟩⟩
      by_cases e : k = i
      · subst e
        exact hd
      · exact hno k (by omega)
    | some d =>
      rw [hd] at hv
      obtain ⟨a2, rfl, ha2⟩ := hv
      refine ⟨_, rfl, true, rfl, iteT ⟨_, rfl, _, rfl, sz 2 (by decide), fun t3 n3 => ?_⟩⟩
      refine q t3 a2 (i + 1) d _ (Same.trans sm2 (same_new n3)) ?_ (.inl (.inl upd_same)) (sqT (same_new n3) ha2)
      unfold hue
      rw [findSome_range hi' (b := (i + 1, d)) (by unfold hueF; rw [hd]; rfl) (fun k hk => by unfold hueF; rw [hno k hk]; rfl)]
      rfl
  · rintro σ H1 ⟨u2, u3, rfl, sm, hno⟩
    have := hno (m0 - 1) (by have := hue0.lo; have := hue0.hi; omega)
    rw [Nat.sub_add_cancel hue0.lo, hue0.dl] at this
    cases this
end
end G6

-- G6F_Au
namespace G6
open PySem PySem.Spec PyProof.Rows L2
/-- a reading that hands back v, what stood stands -/
def Gives (t : TE) (σ : L2.St) (H : Hp) (v : V) : Prop := ∀ Q : VK, (∀ H2, Same H H2 → Q v H2) → t σ H Q
theorem gives_app {t : TE} {σ : L2.St} {H : Hp} {v : V} {Q : VK} (h : Gives t σ H v) (q : ∀ H2, Same H H2 → Q v H2) : t σ H Q := h Q q
/-- pairs of which no two rows have one hand -/
def apartP (ps : List (Nat × Nat)) (d : List Nat) : Bool := (ps.filter fun p => d.getD p.1 0 == d.getD p.2 0).isEmpty
theorem filter_rangeG {α : Type} (d : α) (f : α → Bool) (l : List α) : ((List.range l.length).filter fun i => f (l.getD i d)).map (fun i => l.getD i d) = l.filter f := by
  have e : l = (List.range l.length).map fun i => l.getD i d := by
    refine List.ext_getElem (by simp) fun i h1 h2 => ?_
    simp [h1]
  conv => rhs; rw [e]
  rw [List.filter_map]
  rfl
theorem rgV_nat (R : Nat) : rgV 0 (R : Int) = vI (List.range R) := by
  unfold rgV vI
  have : ((R : Int) - 0).toNat = R := by omega
  rw [this]
  refine List.map_congr_left fun i _ => ?_
  rw [Int.zero_add]
theorem int_beq (a b : Nat) : decide (V.int (a : Int) = V.int (b : Int)) = (a == b) := by
  by_cases e : a = b
  · rw [e]; simp
  · rw [decide_eq_false (fun z => e (by injection z with z; omega))]
    exact (beq_eq_false_iff_ne.mpr e).symm
/-! ### the law's dealings -/
def ext1 (R : Nat) (d : List Nat) : List (List Nat) := (List.range (if R < 5 then R else top1 d + 1)).map fun h => d ++ [h]
theorem grow_ext (R : Nat) (ds : List (List Nat)) : grow R ds = ds.flatMap (ext1 R) := rfl
structure GOk (R i : Nat) : Prop where
  len : (growN R i).length ≤ 300
  el : ∀ d ∈ growN R i, d.length = i ∧ top1 d ≤ 6
theorem gok {R i : Nat} (h1 : 1 ≤ R) (h6 : R ≤ 6) (hi : i ≤ R) : GOk R i := by
  have h : (decide ((growN R i).length ≤ 300) && (growN R i).all fun d => decide (d.length = i ∧ top1 d ≤ 6)) = true := by
    have : R = 1 ∨ R = 2 ∨ R = 3 ∨ R = 4 ∨ R = 5 ∨ R = 6 := by omega
    have : i = 0 ∨ i = 1 ∨ i = 2 ∨ i = 3 ∨ i = 4 ∨ i = 5 ∨ i = 6 := by omega
    have all : (∀ R, R ≤ 6 → 1 ≤ R → ∀ i, i ≤ R → (decide ((growN R i).length ≤ 300) && (growN R i).all fun d => decide (d.length = i ∧ top1 d ≤ 6)) = true) := by decide +kernel
    exact all R h6 h1 i hi
  simp only [Bool.and_eq_true, decide_eq_true_eq, List.all_eq_true] at h
  exact ⟨h.1, fun d hd => h.2 d hd⟩
theorem asc_ext : ∀ {l m : List Int}, l.Pairwise (· < ·) → m.Pairwise (· < ·) → (∀ x, x ∈ l ↔ x ∈ m) → l = m
  | [], [], _, _, _ => rfl
  | [], y :: m, _, _, h => by have := (h y).mpr List.mem_cons_self; simp at this
  | x :: l, [], _, _, h => by have := (h x).mp List.mem_cons_self; simp at this
  | x :: l, y :: m, h1, h2, h => by
    have a := List.pairwise_cons.mp h1
    have b := List.pairwise_cons.mp h2
    have e : x = y := by
      rcases List.mem_cons.mp ((h x).mp List.mem_cons_self) with e | e
      · exact e
      · rcases List.mem_cons.mp ((h y).mpr List.mem_cons_self) with e2 | e2
        · exact e2.symm
        · have := a.1 y e2
          have := b.1 x e
          omega
    subst e
    congr 1
    refine asc_ext a.2 b.2 fun z => ?_
    constructor
    · intro hz
      rcases List.mem_cons.mp ((h z).mp (List.mem_cons_of_mem _ hz)) with e | e
      · subst e
        exact absurd (a.1 z hz) (Int.lt_irrefl _)
      · exact e
    · intro hz
      rcases List.mem_cons.mp ((h z).mpr (List.mem_cons_of_mem _ hz)) with e | e
      · subst e
        exact absurd (b.1 z hz) (Int.lt_irrefl _)
      · exact e
theorem le_top1 {d : List Nat} : ∀ x ∈ d, x < top1 d := by
  have key : ∀ (l : List Nat) (m : Nat), m ≤ l.foldl (fun m x => max m (x + 1)) m ∧ ∀ x ∈ l, x < l.foldl (fun m x => max m (x + 1)) m := by
    intro l
    induction l with
    | nil => intro m; simp
    | cons y l ih =>
      intro m
      obtain ⟨i1, i2⟩ := ih (max m (y + 1))
      rw [List.foldl_cons]
      refine ⟨by omega, fun x hx => ?_⟩
      rcases List.mem_cons.mp hx with rfl | hx
      · omega
      · exact i2 x hx
  exact (key d 0).2
theorem full_eq {d : List Nat} {ns : List Int} (h1 : ns.Pairwise (· < ·)) (h2 : ∀ k : Int, k ∈ ns ↔ k ∈ d.map fun n : Nat => (n : Int)) : decide (ns = (List.range (top1 d)).map fun n : Nat => (n : Int)) = full d := by
  rw [Bool.eq_iff_iff, decide_eq_true_iff]
  unfold full
  simp only [List.all_eq_true, List.mem_range]
  constructor
  · intro e h hh
    have : (h : Int) ∈ ns := by rw [e]; exact List.mem_map.mpr ⟨h, List.mem_range.mpr hh, rfl⟩
    obtain ⟨x, hx, e2⟩ := List.mem_map.mp ((h2 _).mp this)
    have : x = h := by omega
    subst this
    simpa using hx
  · intro hf
    refine asc_ext h1 ?_ fun x => ?_
    · rw [List.pairwise_map]
      refine (List.pairwise_lt_range (n := top1 d)).imp ?_
      intro a b hab
      omega
    · rw [h2]
      constructor
      · intro hx
        obtain ⟨y, hy, rfl⟩ := List.mem_map.mp hx
        exact List.mem_map.mpr ⟨y, List.mem_range.mpr (le_top1 y hy), rfl⟩
      · intro hx
        obtain ⟨y, hy, rfl⟩ := List.mem_map.mp hx
        have := hf y (List.mem_range.mp hy)
        exact List.mem_map.mpr ⟨y, by simpa using this, rfl⟩
theorem num_map_inj : ∀ {a b : List Int}, a.map NestedKey.num = b.map NestedKey.num → a = b
  | [], [], _ => rfl
  | [], _ :: _, h => by simp at h
  | _ :: _, [], h => by simp at h
  | x :: a, y :: b, h => by
    simp only [List.map_cons, List.cons.injEq] at h
    have e : x = y := by have := h.1; injection this
    rw [e, num_map_inj h.2]
theorem eqv_ints (a b : List Int) : PyData.eqv (.list (NestedKey.datas (a.map .num))) (.list (NestedKey.datas (b.map .num))) = decide (a = b) := by
  have h := eqv_dec (.tup (a.map .num)) (.tup (b.map .num))
  simp only [NestedKey.data, PyData.eqv] at h ⊢
  rw [h]
  have : (NestedKey.tup (a.map .num) = .tup (b.map .num)) ↔ a = b := ⟨fun e => by injection e with e; exact num_map_inj e, fun e => by rw [e]⟩
  simp [this]
theorem depth_ints0 (a : List Int) : PyData.depth (.list (NestedKey.datas (a.map .num))) ≤ 2 := by
  rw [ints_ann]
  have := PySem.W.depth_ints a
  simp only [PyData.depth]
  omega
theorem lay_ints0 : ∀ a : List Int, intKs (a.map .num) = true
  | [] => rfl
  | x :: a => by
    show (intK (.num x) && intKs (a.map .num)) = true
    rw [lay_ints0 a]
    rfl
theorem shaped_ints (a : List Int) : SeqAt.shaped (.list (NestedKey.datas (a.map .num))) = true := by
  show ((PyData.list (NestedKey.datas (a.map .num))).canLay0 && decide ((PyData.list (NestedKey.datas (a.map .num))).depth ≤ 64)) = true
  have h1 := depth_ints0 a
  rw [decide_eq_true (by omega)]
  simp only [PyData.canLay0]
  rw [lay_ints _ (lay_ints0 a)]
  rfl
section
variable {K : PySem.W.Frag} {H : Hp} {a : Addr} {Q : VK}
theorem max_of {d : List Nat} (hd : d ≠ []) (h : SqT K H a (vI d)) (q : Q (.int ((top1 d : Nat) - 1)) H) : rMaxT K [.ref a] H Q := by
  cases d with
  | nil => exact (hd rfl).elim
  | cons x r =>
    refine ⟨a, (x : Int), r.map fun n : Nat => (n : Int), rfl, ?_, ?_⟩
    · rw [← List.map_cons (f := fun n : Nat => (n : Int)), ← vI_int]
      exact h
    · have key : ∀ (l : List Nat) (m : Nat), (l.map fun n : Nat => (n : Int)).foldl max ((m : Int) - 1 + 1 - 1) = ((l.foldl (fun m x => max m (x + 1)) m : Nat) : Int) - 1 ∨ m = 0 := by
        intro l
        induction l with
        | nil => intro m; left; simp
        | cons y l ih =>
          intro m
          by_cases hm : m = 0
          · exact .inr hm
          · left
            rw [List.map_cons, List.foldl_cons, List.foldl_cons]
            have e : max ((m : Int) - 1 + 1 - 1) (y : Int) = ((max m (y + 1) : Nat) : Int) - 1 + 1 - 1 := by omega
            rw [e]
            rcases ih (max m (y + 1)) with h | h
            · exact h
            · omega
      rcases key r (x + 1) with e | e
      · have e0 : ((x + 1 : Nat) : Int) - 1 + 1 - 1 = (x : Int) := by omega
        rw [e0] at e
        rw [e]
        have : r.foldl (fun m x => max m (x + 1)) (x + 1) = top1 (x :: r) := by
          unfold top1
          rw [List.foldl_cons]
          congr 1
        rw [this]
        exact q
      · omega
end
section
variable {P : Program} {w : World} {K : PySem.W.Frag} {mg : Str → Option Value} {base : Heap}
abbrev N_law_is_int : List Str := ["_law_thing"]
theorem sc_law_is_int : FnScope N_law_is_int ["_law_thing"] (defScope s_law_is_int) := ⟨rfl, rfl, rfl, by decide +kernel, rfl, by decide +kernel, by decide +kernel⟩
theorem f_law_is_int (c : Cn K mg) : C8.Cal P w K mg base 1 "_law_is_int" sp_is_integer [] := by
  refine cal_of (N := N_law_is_int) c.g_law_is_int c.d_law_is_int sc_law_is_int (fun _ _ _ _ _ _ us hl => match us, hl with | [_], _ => rfl) (fun vs H Q E h => ?len) (fun cdv A outer s H vs Q E hr h => ?_)
  case len => obtain ⟨i, rfl, _⟩ := h; rfl
  obtain ⟨i, rfl, q⟩ := h
  refine ⟨_, (pss_one (ps_ret (pe_and (pe_callB (r := rIsi K) (kc_isi K) (by rfl) c.z_isinstance (by decide +kernel) (pa_cons (pv 0) (pa_cons (pe_bltn (v := .ty "int") (by rfl) c.z_int (by decide +kernel) rfl) pa_nil))) (pe_one (pe_not (pe_callB (r := rIsi K) (kc_isi K) (by rfl) c.z_isinstance (by decide +kernel) (pa_cons (pv 0) (pa_cons (pe_bltn (v := .ty "bool") (by rfl) c.z_bool (by decide +kernel) rfl) pa_nil)))))))), ?_⟩
  exact ⟨_, rfl, _, _, _, _, true, rfl, .ty _, .base (.int i), kit_ty (by decide +kernel), true, rfl, iteT ⟨_, rfl, _, _, _, _, false, rfl, .ty _, .base (.int i), kit_ty (by decide +kernel), false, rfl, q⟩⟩
abbrev N_law_is_apart : List Str := ["_law_pairs", "_law_dealing", "_law_pair"]
theorem sc_law_is_apart : FnScope N_law_is_apart ["_law_pairs", "_law_dealing"] (defScope s_law_is_apart) := ⟨rfl, rfl, rfl, by decide +kernel, rfl, by decide +kernel, by decide +kernel⟩
def sp_law_is_apart (K : PySem.W.Frag) : Sp := fun vs H Q _ => ∃ (pa da : Addr) (pvs : List V) (ps : List (Nat × Nat)) (d : List Nat), vs = [.ref pa, .ref da] ∧ SqT K H pa pvs ∧ NKs K H (ps.map pairK) pvs ∧ SqT K H da (vI d) ∧ ps.length ≤ 1000 ∧ (∀ p ∈ ps, p.1 < d.length ∧ p.2 < d.length) ∧
  ∀ H', Same H H' → Q (.bl (apartP ps d)) H'
theorem f_law_is_apart (c : Cn K mg) : C8.Cal P w K mg base 1 "_law_is_apart" (sp_law_is_apart K) [] := by
  refine cal_of (N := N_law_is_apart) c.g_law_is_apart c.d_law_is_apart sc_law_is_apart (fun _ _ _ _ _ _ us hl => match us, hl with | [_, _], _ => rfl) (fun vs H Q E h => ?len) (fun cdv A outer s H vs Q E hr h => ?_)
  case len => obtain ⟨pa, da, pvs, ps, d, rfl, _⟩ := h; rfl
  obtain ⟨pa, da, pvs, ps, d, rfl, hpa, hps, hda, hl, hin, q⟩ := h
  refine ⟨_, (pss_one (ps_ret (pe_cmpR op_eq (pe_callB (r := rLenA K) (kc_len K) (by rfl) c.z_len (by decide +kernel) (pa_cons (pe_lc (own := [("_law_pair", 2)]) (g := gName 2) rfl sc_law_is_apart.nd (kpi_tup K (pv 0)) (blkOk_by (own := [("_law_pair", 2)]) (N := N_law_is_apart) (sc := defScope s_law_is_apart) (by decide +kernel)) (fun _ _ _ _ _ => (pg_name (i := 2) sc_law_is_apart.nd rfl (Or.inl rfl))) (fun _ _ _ _ _ => (pts_one (pt_cmpR op_eq (kixT K (pv 1) (kixT K (pv 2) pe_int)) (kixT K (pv 1) (kixT K (pv 2) pe_int)) (nomark _)))) (fun _ _ _ _ _ => (pv 2))) pa_nil)) pe_int (nomark _)))), ?_⟩
  have hpl : pvs.length = ps.length := by have := hps.length; simpa using this
  refine ⟨_, rfl, pa, rfl, ⟨pvs, hpa⟩, fun D nD => ?_⟩
  refine lc_all (walk_tup (xs := pvs)) (fun _ _ _ => True) (fun i => (fun p : Nat × Nat => d.getD p.1 0 == d.getD p.2 0) (ps.getD i (0, 0))) nD (by rw [hpl]; exact sz _ (by omega)) (fun H5 s5 => sqT s5 hpa) (fun i H x H' y => by rw [y.1]; exact Same.refl _) (fun _ _ _ _ _ _ => True.intro) (fun _ _ _ _ _ _ _ => True.intro) ?_ ?_
  · intro i v H3 H4 hi sm _ ⟨e1, ex⟩ Qy Qn hy hn
    subst e1
    obtain ⟨k, hk1, hk2⟩ := (NKs.tk (Tk.same sm) _ _ hps).getV ex
    rw [List.getElem?_map] at hk1
    obtain ⟨pp, hpp, rfl⟩ := Option.map_eq_some_iff.mp hk1
    have epp : ps.getD i (0, 0) = pp := by rw [List.getD_eq_getElem?_getD, hpp]; rfl
    rw [epp] at hy hn
    obtain ⟨pa2, w1, w2, rfl, hpa2, h1, h2⟩ := two_inv hk2
    have := num_inv h1
    subst this
    have := num_inv h2
    subst this
    obtain ⟨i1, i2⟩ := hin pp (List.mem_of_getElem? hpp)
    have hda4 := sqT sm hda
    refine ⟨rfl, _, rfl, _, rfl, _, _, _, _, rfl, rfl, hpa2, rfl, _, _, _, _, rfl, rfl, hda4, vI_get' i1, _, rfl, _, rfl, _, _, _, _, rfl, rfl, hpa2, rfl, _, _, _, _, rfl, rfl, hda4, vI_get' i2, rfl, _, congrArg V.bl (int_beq _ _), ?_⟩
    cases hb : (d.getD pp.1 0 == d.getD pp.2 0) with
    | true => exact iteT ⟨_, rfl, hy hb _ _ (Same.refl _) True.intro⟩
    | false => exact iteF (hn hb _ (Same.refl _))
  · intro H3 ys sm hys hp
    have hyl : ys.length = (ps.filter fun p => d.getD p.1 0 == d.getD p.2 0).length := by
      have h1 := (Paired.length hp).symm
      have h2 := congrArg List.length (filter_rangeG (0, 0) (fun p : Nat × Nat => d.getD p.1 0 == d.getD p.2 0) ps)
      rw [List.length_map] at h2
      rw [hpl] at h1
      exact h1.trans h2
    refine ⟨D, ys, rfl, .inl (.inl (.inl hys)), rfl, ?_⟩
    have e : decide (V.int (ys.length : Int) = V.int 0) = apartP ps d := by
      have := int_beq ys.length 0
      rw [show ((0 : Nat) : Int) = 0 from rfl] at this
      rw [this, hyl]
      unfold apartP
      cases (ps.filter fun p => d.getD p.1 0 == d.getD p.2 0) <;> simp
    rw [e]
    exact q _ sm
abbrev N_law_dealings : List Str := ["_law_rows", "_law_found", "_law_row", "_law_longer", "_law_told", "_law_most", "_law_hand"]
theorem sc_law_dealings : FnScope N_law_dealings ["_law_rows"] (defScope s_law_dealings) := ⟨rfl, rfl, rfl, by decide +kernel, rfl, by decide +kernel, by decide +kernel⟩
def sp_law_dealings (K : PySem.W.Frag) : Sp := fun vs H Q _ => ∃ R : Nat, vs = [.int (R : Int)] ∧ 1 ≤ R ∧ R ≤ 6 ∧
  ∀ l us H', Same H H' → H l = none → H' l = some (.lst us) → NKs K H' ((dealings R).map nums) us → Q (.ref l) H'
theorem f_law_dealings (c : Cn K mg) : C8.Cal P w K mg base 1 "_law_dealings" (sp_law_dealings K) [] := by
  refine cal_of (N := N_law_dealings) c.g_law_dealings c.d_law_dealings sc_law_dealings (fun _ _ _ _ _ _ us hl => match us, hl with | [_], _ => rfl) (fun vs H Q E h => ?len) (fun cdv A outer s H vs Q E hr h => ?_)
  case len => obtain ⟨R, rfl, _⟩ := h; rfl
  obtain ⟨R, rfl, h1, h6, q⟩ := h
  refine ⟨_, (pss_cons (ps_set (i := 1) sc_law_dealings.nd rfl (Or.inl rfl) (pe_lst (pa_cons (pe_tup pa_nil) pa_nil)))
      (pss_cons (ps_for PassesOwn.never rfl (pi_range1 (by rfl) c.z_range (pa_cons (pv 0) pa_nil)) (pg_name (i := 2) sc_law_dealings.nd rfl (Or.inl rfl)) (pss_cons (ps_set (i := 3) sc_law_dealings.nd rfl (Or.inl rfl) (pe_lst pa_nil))
      (pss_cons (ps_for PassesOwn.never rfl (kpi_list K (pv 1)) (pg_name (i := 4) sc_law_dealings.nd rfl (Or.inr rfl)) (pss_cons (ps_set (i := 5) sc_law_dealings.nd rfl (Or.inl rfl) (pe_ifExp (pt_cmpR op_lt (pv 0) pe_int (nomark _)) (pv 0) (pe_op op_add (pe_callB (r := rMaxT K) (kc_maxT K hr) (by rfl) c.z_max (by decide +kernel) (pa_cons (pe_op (r := rCatA K) (kcat K) (pv 4) (pe_tup (pa_cons (pe_un un_neg pe_int) pa_nil))) pa_nil)) pe_int)))
      (pss_one (ps_expr (kbm K PySem.F.slot_list_extend PySem.F.type_list_extend mt_extend (pv 3) (pa_cons (pe_lc (own := [("_law_hand", 6)]) (g := gName 6) (tt := tYes) rfl sc_law_dealings.nd (pi_range1 (by rfl) c.z_range (pa_cons (pv 5) pa_nil)) (blkOk_by (own := [("_law_hand", 6)]) (N := N_law_dealings) (sc := defScope s_law_dealings) (by decide +kernel)) (fun _ _ _ _ _ => (pg_name (i := 6) sc_law_dealings.nd rfl (Or.inl rfl))) (fun _ _ _ _ _ => pts_nil) (fun _ _ _ _ _ => (pe_op (r := rCatA K) (kcat K) (pv 4) (pe_tup (pa_cons (pv 6) pa_nil))))) pa_nil))))))
      (pss_one (ps_set (i := 1) sc_law_dealings.nd rfl (Or.inl rfl) (pv 3))))))
      (pss_one (ps_ret (pe_lc (own := [("_law_told", 4)]) (g := gName 4) rfl sc_law_dealings.nd (kpi_list K (pv 1)) (blkOk_by (own := [("_law_told", 4)]) (N := N_law_dealings) (sc := defScope s_law_dealings) (by decide +kernel)) (fun _ _ _ _ _ => (pg_name (i := 4) sc_law_dealings.nd rfl (Or.inl rfl))) (fun _ _ _ _ _ => (pts_one (pt_cmpR (r := rEqD K) (kop_eqD K hr) (pe_callB (r := rSortedSet w) (kc_sortedSet w) (by rfl) c.z_sorted (by decide +kernel) (pa_cons (pe_callTy (r := rSetI K w) (kc_set K w) (by rfl) c.z_set (by decide +kernel) (pa_cons (pv 4) pa_nil)) pa_nil)) (pe_listRg rfl (by rfl) c.z_list (prg_1 (by rfl) c.z_range (pe_op op_add (pe_callB (r := rMaxT K) (kc_maxT K hr) (by rfl) c.z_max (by decide +kernel) (pa_cons (pv 4) pa_nil)) pe_int))) (nomark _)))) (fun _ _ _ _ _ => (pv 4))))))), ?_⟩
  refine ⟨sz 0 (by decide), fun t0 n0 => ⟨sz 1 (by decide), fun f0 nf0 => ?_⟩⟩
  have s0 := Same.trans (same_new (o := .tup []) n0) (same_new (o := .lst [.ref t0]) nf0)
  have Hf0 : H f0 = none := Same.free (same_new n0) nf0
  refine ⟨_, rfl, (R : Int), rfl, by omega, by omega, ?_⟩
  refine for_it walk_range (fun i σ H1 => ∃ (f : Addr) (fv : List V) (u2 u3 u4 u5 u6 : Option V), σ = [some (.int (R : Int)), some (.ref f), u2, u3, u4, u5, u6] ∧ Same H H1 ∧ H f = none ∧ H1 f = some (.lst fv) ∧ NKs K H1 ((growN R i).map nums) fv) ?_ (fun _ _ _ _ _ => True.intro) ?_ ?_
  · exact ⟨f0, [.ref t0], _, _, _, _, _, rfl, s0, Hf0, upd_same, .cons (nums_mk (l := []) (.inl (.inl (same_new nf0 _ _ upd_same)))) .nil⟩
  · rintro i x σ H1 H1' hi ⟨f, fv, u2, u3, u4, u5, u6, rfl, sm, Hf, hf, hfv⟩ ⟨e1, ex⟩
    subst e1 ex
    have hi' : i < R := by simpa using hi
    have G := gok h1 h6 (Nat.le_of_lt hi')
    have hfl : fv.length = (growN R i).length := by have := hfv.length; simpa using this
    refine ⟨sz 0 (by decide), fun g ng => ?_⟩
    have sg := same_new (o := .lst []) ng
    have Hg : H g = none := Same.free sm ng
    have fg : f ≠ g := fun e => by subst e; rw [hf] at ng; cases ng
    refine ⟨_, rfl, f, rfl, ⟨fv, .inl (.inl (sg _ _ hf))⟩, ?_⟩
    refine for_it (walk_list (xs := fv)) (fun j σ H2 => ∃ (gv : List V) (u4 u5 u6 : Option V), σ = [some (.int (R : Int)), some (.ref f), some (.int (0 + (i : Int))), some (.ref g), u4, u5, u6] ∧ Same H H2 ∧ H2 f = some (.lst fv) ∧ NKs K H2 ((growN R i).map nums) fv ∧ H2 g = some (.lst gv) ∧ NKs K H2 ((grow R ((growN R i).take j)).map nums) gv ∧ gv.length ≤ 7 * j) ?_ ?_ ?_ ?_
    · exact ⟨[], _, _, _, rfl, Same.trans sm sg, sg _ _ hf, NKs.tk (Tk.same sg) _ _ hfv, upd_same, .nil, by simp⟩
    · rintro j σ H2 _ ⟨_, _, _, _, _, _, h, _⟩
      exact .inl (.inl h)
    · rintro j v σ H2 H2' hj ⟨gv, u4, u5, u6, rfl, sm2, hf2, hfv2, hg2, hgv2, hgl⟩ ⟨e1, ex⟩
      subst e1
      obtain ⟨k, hk1, hk2⟩ := hfv2.getV ex
      rw [List.getElem?_map] at hk1
      obtain ⟨d, hd, rfl⟩ := Option.map_eq_some_iff.mp hk1
      obtain ⟨da, rfl, hda⟩ := nums_inv hk2
      obtain ⟨hdl, hdt⟩ := G.el d (List.mem_of_getElem? hd)
      have hM : (if R < 5 then R else top1 d + 1) ≤ 7 := by split <;> omega
      have hGl := G.len
      refine gives_app (t := tIf _ _ _) (v := .int (((if R < 5 then R else top1 d + 1 : Nat)) : Int)) ?_ fun H3 s3 => ?_
      · intro Qt hq
        refine ⟨_, rfl, _, _, rfl, rfl, _, rfl, ?_⟩
        by_cases h5 : R < 5
        · rw [if_pos h5] at hq
          rw [decide_eq_true (by omega)]
          exact iteT ⟨_, rfl, hq _ (Same.refl _)⟩
        · rw [if_neg h5] at hq
          rw [decide_eq_false (by omega)]
          refine iteF ⟨_, rfl, _, rfl, sz 1 (by decide), fun t1 n1 => ?_⟩
          have s1 := same_new (o := .tup [.int (-1)]) n1
          refine catA_all (sqT s1 hda) (.inl (.inl upd_same)) (by rw [vI_len]; exact sz _ (by simp; omega)) fun p H4 s4 hp => ?_
          refine tNil_rd (max_told hp ⟨_, _, rfl, rfl, ?_⟩)
          have e : ((top1 d : Nat) : Int) - 1 + 2 = ((top1 d + 1 : Nat) : Int) := by omega
          show Qt (.int (((top1 d : Nat) : Int) - 1 + 2)) H4
          rw [e]
          exact hq _ (Same.trans s1 s4)
      have hext : ext1 R d = (List.range (if R < 5 then R else top1 d + 1)).map fun h => d ++ [h] := rfl
      generalize (if R < 5 then R else top1 d + 1) = M at hM hext
      have sm3 := Same.trans sm2 s3
      have hg3 := s3 _ _ hg2
      refine ⟨_, rfl, .inl ⟨rfl, _, .inl (.inl hg3)⟩, _, rfl, (M : Int), rfl, by omega, by omega, fun D nD => ?_⟩
      refine lc_map walk_range (fun k y H => NK K H (nums (d ++ [k])) y) nD (sz _ (by simp; omega)) (fun _ _ => True.intro) (fun i H x H' y => by rw [y.1]; exact Same.refl _) (fun i y H H' s' r => NK.tk (Tk.same s') _ _ r) (fun i y H _ _ e r => NK.tk (Tk.mut e True.intro) _ _ r) ?_ (mono_name _) ?_
      · intro k x H4 H5 hk sm4 _ ⟨e1, ex⟩ Qy hy
        subst e1 ex
        dsimp only
        rw [Int.zero_add]
        refine ⟨rfl, _, rfl, _, rfl, sz 1 (by decide), fun t1 n1 => ?_⟩
        have s1 := same_new (o := .tup [.int (k : Int)]) n1
        refine catA_all (sqT (Same.trans s3 (Same.trans sm4 s1)) hda) (.inl (.inl upd_same)) (by rw [vI_len]; exact sz _ (by simp; omega)) fun p H6 s6 hp => hy _ _ (Same.trans s1 s6) ?_
        rw [← vI_snoc] at hp
        exact nums_mk hp
      · intro H4 ys sm4 hys hp
        have hnk := nks_paired hp
        have hM2 : (M : Int).toNat = M := by omega
        rw [hM2] at hnk
        have hyl : ys.length = M := by have := hnk.length; simpa using this
        have hg4 := sm4 _ _ hg3
        have gD : g ≠ D := fun e => by subst e; rw [hg3] at nD; cases nD
        refine ⟨g, D, gv, ys, rfl, rfl, hg4, hys, sz _ (by omega), ?_⟩
        have tk5 : Tk H4 (upd H4 g (.lst (gv ++ ys))) := Tk.mut hg4 True.intro
        have s34 := Same.trans s3 sm4
        refine ⟨gv ++ ys, _, _, _, rfl, Same.mut (Same.trans sm3 sm4) Hg, by rw [upd_ne fg]; exact s34 _ _ hf2, NKs.tk (Tk.trans (Tk.same s34) tk5) _ _ hfv2, upd_same, ?_, by rw [List.length_append]; omega⟩
        have e2 : (growN R i).take (j + 1) = (growN R i).take j ++ [d] := by
          rw [List.take_succ, hd]
          rfl
        have e3 : grow R ((growN R i).take (j + 1)) = grow R ((growN R i).take j) ++ ext1 R d := by
          rw [e2, grow_ext, grow_ext, List.flatMap_append]
          simp
        rw [e3, List.map_append]
        refine NKs.append (NKs.tk (Tk.trans (Tk.same s34) tk5) _ _ hgv2) ?_
        rw [hext, List.map_map]
        exact NKs.tk tk5 _ _ hnk
    · rintro σ H2 ⟨gv, u4, u5, u6, rfl, sm2, hf2, hfv2, hg2, hgv2, hgl⟩
      rw [List.take_of_length_le (by omega)] at hgv2
      exact ⟨_, rfl, g, gv, _, _, _, _, _, rfl, sm2, Hg, hg2, hgv2⟩
  · rintro σ H1 ⟨f, fv, u2, u3, u4, u5, u6, rfl, sm, Hf, hf, hfv⟩
    have hR2 : (R : Int).toNat = R := by omega
    rw [hR2] at hfv
    have G := gok h1 h6 (Nat.le_refl R)
    have hGl := G.len
    have hfl : fv.length = (growN R R).length := by have := hfv.length; simpa using this
    refine ⟨_, rfl, f, rfl, ⟨fv, .inl (.inl hf)⟩, fun D nD => ?_⟩
    refine lc_all (walk_list (xs := fv)) (fun i y H => NK K H (nums ((growN R R).getD i [])) y) (fun i => full ((growN R R).getD i [])) nD (by rw [hfl]; exact sz _ (by omega)) (fun H5 s5 => .inl (.inl (s5 _ _ hf))) (fun i H x H' y => by rw [y.1]; exact Same.refl _) (fun i y H H' s' r => NK.tk (Tk.same s') _ _ r) (fun i y H _ _ e r => NK.tk (Tk.mut e True.intro) _ _ r) ?_ ?_
    · intro i v H3 H4 hi sm3 _ ⟨e1, ex⟩ Qy Qn hy hn
      subst e1
      obtain ⟨k, hk1, hk2⟩ := (NKs.tk (Tk.same sm3) _ _ hfv).getV ex
      rw [List.getElem?_map] at hk1
      obtain ⟨d, hd, rfl⟩ := Option.map_eq_some_iff.mp hk1
      have ed : (growN R R).getD i [] = d := by rw [List.getD_eq_getElem?_getD, hd]; rfl
      rw [ed] at hy hn
      obtain ⟨da, rfl, hda⟩ := nums_inv hk2
      obtain ⟨hdl, hdt⟩ := G.el d (List.mem_of_getElem? hd)
      have hdne : d ≠ [] := fun e => by rw [e] at hdl; simp at hdl; omega
      have htop : 1 ≤ top1 d := by
        cases d with
        | nil => exact (hdne rfl).elim
        | cons x r => have := le_top1 (d := x :: r) x List.mem_cons_self; omega
      refine ⟨rfl, _, rfl, da, d.map (fun n : Nat => (n : Int)), rfl, by rw [← vI_int]; exact hda, by simp; omega, fun p cc np hcc => ?_⟩
      rw [List.length_map] at hcc
      have s5 := same_new (o := SetO w p (fun j => decide (j ∈ d.map fun n : Nat => (n : Int))) cc) np
      refine ⟨p, _, cc, rfl, upd_same, by omega, fun ns q2 hasc hmem hnl nq => ?_⟩
      have s6 := same_new (o := .lst (ns.map V.int)) nq
      have s56 := Same.trans s5 s6
      have hq2 : upd (upd H4 p (SetO w p (fun j => decide (j ∈ d.map fun n : Nat => (n : Int))) cc)) q2 (.lst (ns.map V.int)) q2 = some (.lst (ns.map V.int)) := upd_same
      generalize upd (upd H4 p (SetO w p (fun j => decide (j ∈ d.map fun n : Nat => (n : Int))) cc)) q2 (.lst (ns.map V.int)) = H6 at *
      refine ⟨_, rfl, tNil_rd (max_of hdne (sqT s56 hda) ⟨_, _, rfl, rfl, _, rfl, RgOk.of_le (by decide) (by omega) (by decide) (by omega), fun rl nrl => ?_⟩)⟩
      have etop : ((top1 d : Nat) : Int) - 1 + 1 = ((top1 d : Nat) : Int) := by omega
      rw [etop, rgV_nat] at *
      have s7 := same_new (o := .lst (vI (List.range (top1 d)))) nrl
      refine ⟨_, _, .lst (.inl (.inl (s7 _ _ hq2))) (NKs.dp (ns.map .num) _ (NKs.ints ns)), .lst (.inl (.inl upd_same)) (NKs.dp (((List.range (top1 d)).map fun n : Nat => (n : Int)).map .num) _ (by rw [vI_int]; exact NKs.ints _)), shaped_ints _, shaped_ints _, ?_⟩
      rw [eqv_ints, full_eq hasc (fun k => (hmem k).trans decide_eq_true_iff)]
      refine ⟨_, rfl, ?_⟩
      have s47 := Same.trans s56 s7
      cases hb : full d with
      | true => exact iteT ⟨_, rfl, hy hb _ _ s47 (NK.tk (Tk.same s47) _ _ hk2)⟩
      | false => exact iteF (hn hb _ s47)
    · intro H3 ys sm3 hys hp
      have hnk : NKs K H3 ((((List.range fv.length).filter fun i => full ((growN R R).getD i [])).map fun i => (growN R R).getD i []).map nums) ys := by
        rw [List.map_map]
        exact nks_paired (f := fun i => nums ((growN R R).getD i [])) hp
      rw [hfl, filter_rangeG [] full] at hnk
      exact q D ys _ (Same.trans sm sm3) (Same.free sm nD) hys hnk
end
end G6

-- G6F_Ay
namespace G6
open PySem PySem.Spec PyProof.Rows L2
/-! ### the law's pot -/
def PotAt (H : Hp) (pot g s : Addr) : Prop := ∃ (gs ss : List Int) (turn num : Int), H pot = some (.lst [.ref g, .ref s, .int turn, .int num]) ∧ H g = some (.lst (gs.map V.int)) ∧ H s = some (.lst (ss.map V.int)) ∧ 0 < ss.length ∧ s ≠ g
section
variable {H H' H0 : Hp} {pot g s a : Addr} {o : HO}
theorem PotAt.same (e : Same H H') : PotAt H pot g s → PotAt H' pot g s := fun ⟨gs, ss, turn, num, h1, h2, h3, h4, h5⟩ => ⟨gs, ss, turn, num, e _ _ h1, e _ _ h2, e _ _ h3, h4, h5⟩
theorem PotAt.fr (h : PotAt H pot g s) (n : H a = none) : a ≠ pot ∧ a ≠ g ∧ a ≠ s := by
  obtain ⟨gs, ss, turn, num, h1, h2, h3, h4, h5⟩ := h
  exact ⟨fun e => (nomatch (e ▸ n : H pot = none).symm.trans h1), fun e => (nomatch (e ▸ n : H g = none).symm.trans h2), fun e => (nomatch (e ▸ n : H s = none).symm.trans h3)⟩
theorem PotAt.upd (h : PotAt H pot g s) (n : a ≠ pot ∧ a ≠ g ∧ a ≠ s) : PotAt (L2.upd H a o) pot g s := by
  obtain ⟨gs, ss, turn, num, h1, h2, h3, h4, h5⟩ := h
  exact ⟨gs, ss, turn, num, by rw [upd_ne (Ne.symm n.1)]; exact h1, by rw [upd_ne (Ne.symm n.2.1)]; exact h2, by rw [upd_ne (Ne.symm n.2.2)]; exact h3, h4, h5⟩
theorem PotAt.pg (h : PotAt H pot g s) : pot ≠ g ∧ s ≠ pot := by
  obtain ⟨gs, ss, turn, num, h1, h2, h3, h4, h5⟩ := h
  refine ⟨fun e => ?_, fun e => ?_⟩
  · rw [e, h2] at h1
    cases gs with
    | nil => simp at h1
    | cons x r => simp at h1
  · rw [← e, h3] at h1
    cases ss with
    | nil => simp at h1
    | cons x r => simp at h1
theorem PotAt.nt (h : PotAt H pot g s) : ∀ b, b = pot ∨ b = g → NoT (H b) := by
  obtain ⟨gs, ss, turn, num, h1, h2, h3, h4, h5⟩ := h
  rintro b (rfl | rfl)
  · rw [h1]; exact True.intro
  · rw [h2]; exact True.intro
end
theorem iteAny {A B : Prop} {b : Bool} (h1 : A) (h2 : B) : if b = true then A else B := by cases b <;> simp [h1, h2]
abbrev PG2 (pot g : Addr) : Addr → Prop := fun b => b = pot ∨ b = g
theorem atI_int {xs : List V} {i : Int} (h0 : 0 ≤ i) (h1 : i < xs.length) : ∃ v, xs[i.toNat]? = some v ∧ atI xs i = some v := by
  obtain ⟨n, rfl⟩ := Int.eq_ofNat_of_zero_le h0
  have hl : n < xs.length := by omega
  exact ⟨xs[n], by rw [Int.toNat_natCast]; exact List.getElem?_eq_getElem hl, atI_nat (List.getElem?_eq_getElem hl)⟩
theorem ixN_zero {n : Nat} (h : 0 < n) : ixN n 0 = some 0 := by
  unfold ixN
  rw [if_pos (by decide), if_pos (by omega)]
  rfl
theorem ixN_nat {n k : Nat} (h : k < n) : ixN n (k : Int) = some k := by
  unfold ixN
  rw [if_pos (by omega), if_pos (by omega)]
  rfl
theorem seqIndex_zero {n : Nat} (h : 0 < n) : seqIndex? 0 n = some 0 := by
  unfold seqIndex?
  simp
  omega
section
variable {P : Program} {w : World} {K : PySem.W.Frag} {mg : Str → Option Value} {base : Heap}
abbrev N_law_draw : List Str := ["_law_pot_here", "_law_many", "_law_turn", "_law_number", "_law_seed"]
theorem sc_law_draw : FnScope N_law_draw ["_law_pot_here", "_law_many"] (defScope s_law_draw) := ⟨rfl, rfl, rfl, by decide +kernel, rfl, by decide +kernel, by decide +kernel⟩
def sp_law_draw : Sp := fun vs H Q _ => ∃ (pot g s : Addr) (many : Nat), vs = [.ref pot, .int (many : Int)] ∧ PotAt H pot g s ∧ 1 ≤ many ∧ many ≤ 1000 ∧
  ∀ (r : Nat) H', r < many → PotAt H' pot g s → SB (PG2 pot g) H H' → Q (.int (r : Int)) H'
theorem f_law_draw (c : Cn K mg) : C8.Cal P w K mg base 1 "_law_draw" sp_law_draw [] := by
  refine cal_of (N := N_law_draw) c.g_law_draw c.d_law_draw sc_law_draw (fun _ _ _ _ _ _ us hl => match us, hl with | [_, _], _ => rfl) (fun vs H Q E h => ?len) (fun cdv A outer s H vs Q E hr h => ?_)
  case len => obtain ⟨pot, g, s, many, rfl, _⟩ := h; rfl
  obtain ⟨pot, g, s, many, rfl, hp, h1, h1000, q⟩ := h
  refine ⟨_, (pss_cons (ps_set (i := 2) sc_law_draw.nd rfl (Or.inl rfl) (kixL K (pv 0) pe_int))
      (pss_cons (ps_asg (pe_op op_add (pv 2) pe_int) (pg_sub (pv 0) pe_int set_list))
      (pss_cons (ps_if (pt_cmpR op_gt (pe_callB (r := rLenA K) (kc_len K) (by rfl) c.z_len (by decide +kernel) (pa_cons (kixL K (pv 0) pe_int) pa_nil)) pe_int (nomark _)) (pss_cons (ps_set (i := 3) sc_law_draw.nd rfl (Or.inl rfl) (kixL K (kixL K (pv 0) pe_int) pe_int))
      (pss_cons (ps_asg (pe_op op_fdiv (pv 3) (pv 1)) (pg_sub (kixL K (pv 0) pe_int) pe_int set_list))
      (pss_cons (ps_if (pt_cmpR op_lt (pv 3) (pv 1) (nomark _)) (pss_one (ps_expr (kbm K PySem.F.slot_list_pop PySem.F.type_list_pop mt_popAt (kixL K (pv 0) pe_int) (pa_cons pe_int pa_nil)))) pss_nil)
      (pss_one (ps_ret (pe_op op_mod (pe_callTy (r := rInt1) kc_int (by rfl) c.z_int (by decide +kernel) (pa_cons (pv 3) pa_nil)) (pv 1))))))) pss_nil)
      (pss_cons (ps_set (i := 4) sc_law_draw.nd rfl (Or.inl rfl) (pe_op op_add (pe_op op_add (pe_op op_mul (kixL K (kixL K (pv 0) pe_int) (pe_op op_mod (pe_callTy (r := rInt1) kc_int (by rfl) c.z_int (by decide +kernel) (pa_cons (pv 2) pa_nil)) (pe_callB (r := rLenA K) (kc_len K) (by rfl) c.z_len (by decide +kernel) (pa_cons (kixL K (pv 0) pe_int) pa_nil)))) pe_int) (pe_op op_mul pe_int (pv 2))) (pe_op op_mul (kixL K (pv 0) pe_int) pe_int)))
      (pss_cons (ps_set (i := 3) sc_law_draw.nd rfl (Or.inl rfl) (pe_op op_mod (pe_callTy (r := rInt1) kc_int (by rfl) c.z_int (by decide +kernel) (pa_cons (pe_op op_add (pe_op op_mul (pv 4) pe_int) pe_int) pa_nil)) pe_int))
      (pss_cons (ps_set (i := 3) sc_law_draw.nd rfl (Or.inl rfl) (pe_op op_mod (pe_callTy (r := rInt1) kc_int (by rfl) c.z_int (by decide +kernel) (pa_cons (pe_op op_mul (pv 3) (pe_op op_add (pe_op op_fdiv (pv 3) pe_int) pe_int)) pa_nil)) pe_int))
      (pss_cons (ps_set (i := 3) sc_law_draw.nd rfl (Or.inl rfl) (pe_op op_mod (pe_callTy (r := rInt1) kc_int (by rfl) c.z_int (by decide +kernel) (pa_cons (pe_op op_add (pe_op op_mul (pv 3) (pe_op op_add (pe_op op_fdiv (pv 3) pe_int) pe_int)) (pv 2)) pa_nil)) pe_int))
      (pss_one (ps_ret (pe_op op_mod (pe_callTy (r := rInt1) kc_int (by rfl) c.z_int (by decide +kernel) (pa_cons (pe_op op_fdiv (pv 3) pe_int) pa_nil)) (pv 1))))))))))), ?_⟩
  obtain ⟨npg, nsp⟩ := hp.pg
  have hnt := hp.nt
  obtain ⟨gs, ss, turn, num, hpot, hg, hs, hss, nsg⟩ := hp
  refine ⟨_, rfl, pot, _, _, _, rfl, rfl, .inl (.inl hpot), rfl, ?_⟩
  refine ⟨_, rfl, _, _, rfl, rfl, _, rfl, pot, _, 2, 2, rfl, rfl, hpot, rfl, ?_⟩
  have sb1 : SB (PG2 pot g) H (upd H pot (.lst [.ref g, .ref s, .int (turn + 1), .int num])) := (SB.refl hnt).upd (.inl rfl)
  have hpot1 : upd H pot (.lst [.ref g, .ref s, .int (turn + 1), .int num]) pot = some (.lst [.ref g, .ref s, .int (turn + 1), .int num]) := upd_same
  have hg1 : upd H pot (.lst [.ref g, .ref s, .int (turn + 1), .int num]) g = some (.lst (gs.map V.int)) := by rw [upd_ne (Ne.symm npg)]; exact hg
  have hs1 : upd H pot (.lst [.ref g, .ref s, .int (turn + 1), .int num]) s = some (.lst (ss.map V.int)) := by rw [upd_ne nsp]; exact hs
  show tSeq _ _ _ _ (upd H pot (.lst [.ref g, .ref s, .int (turn + 1), .int num]))
  generalize upd H pot (.lst [.ref g, .ref s, .int (turn + 1), .int num]) = H1 at *
  refine ⟨_, rfl, pot, _, _, _, rfl, rfl, .inl (.inl hpot1), rfl, _, _, rfl, .inl (.inl (.inl hg1)), _, _, rfl, rfl, _, rfl, ?_⟩
  cases gs with
  | cons x gs =>
    rw [decide_eq_true (by rw [List.length_map, List.length_cons]; omega)]
    refine iteT ?_
    have hgl : 0 < ((x :: gs).map V.int).length := by simp
    refine ⟨_, rfl, pot, _, _, _, rfl, rfl, .inl (.inl hpot1), rfl, g, _, _, _, rfl, rfl, .inl (.inl hg1), atI_nat (j := 0) rfl, ?_⟩
    refine ⟨_, rfl, _, rfl, _, _, rfl, rfl, ⟨by omega, by omega⟩, _, rfl, pot, _, _, _, rfl, rfl, .inl (.inl hpot1), rfl, g, _, 0, 0, rfl, rfl, hg1, ixN_zero hgl, ?_⟩
    have hg2 : upd H1 g (.lst (((x :: gs).map V.int).set 0 (.int (x / (many : Int))))) g = some (.lst (((x / (many : Int)) :: gs).map V.int)) := upd_same
    have sb2 : SB (PG2 pot g) H (upd H1 g (.lst (((x :: gs).map V.int).set 0 (.int (x / (many : Int)))))) := sb1.upd (.inr rfl)
    have hpot2 : upd H1 g (.lst (((x :: gs).map V.int).set 0 (.int (x / (many : Int))))) pot = some (.lst [.ref g, .ref s, .int (turn + 1), .int num]) := by rw [upd_ne npg]; exact hpot1
    have hs2 : upd H1 g (.lst (((x :: gs).map V.int).set 0 (.int (x / (many : Int))))) s = some (.lst (ss.map V.int)) := by rw [upd_ne nsg]; exact hs1
    show tSeq _ _ _ _ (upd H1 g (.lst (((x :: gs).map V.int).set 0 (.int (x / (many : Int))))))
    generalize upd H1 g (.lst (((x :: gs).map V.int).set 0 (.int (x / (many : Int))))) = H2 at *
    have em : x % (many : Int) = (((x % (many : Int)).toNat : Nat) : Int) := by
      have := Int.emod_nonneg x (b := (many : Int)) (by omega)
      omega
    have lm : (x % (many : Int)).toNat < many := by
      have := Int.emod_lt_of_pos x (b := (many : Int)) (by omega)
      have := Int.emod_nonneg x (b := (many : Int)) (by omega)
      omega
    have fin : ∀ H3, PotAt H3 pot g s → SB (PG2 pot g) H H3 → tRet (tOp (rI (fun _ j => 0 < j) fun i j => .int (i % j)) (tCB rInt1 (tCons (tVar 3) tNil)) (tVar 1)) { nx := fun _ H' => Q .non H', rt := Q } [some (.ref pot), some (.int (many : Int)), some (.int turn), some (.int x), none] H3 := by
      intro H3 hp3 sb3
      refine ⟨_, rfl, .inl ⟨_, rfl, _, rfl, _, _, rfl, rfl, by omega, ?_⟩⟩
      show Q (.int (x % (many : Int))) H3
      rw [em]
      exact q _ _ lm hp3 sb3
    refine ⟨_, rfl, _, rfl, _, _, rfl, rfl, _, rfl, ?_⟩
    by_cases hlt : x < (many : Int)
    · rw [decide_eq_true hlt]
      refine iteT ?_
      refine ⟨_, rfl, pot, _, _, _, rfl, rfl, .inl (.inl hpot2), rfl, .inl ⟨rfl, _, .inl (.inl hg2)⟩, g, _, 0, 0, _, rfl, rfl, hg2, by decide, by decide, seqIndex_zero (by simp), rfl, ?_⟩
      refine fin _ ⟨gs, ss, turn + 1, num, ?_, ?_, ?_, hss, nsg⟩ (sb2.upd (.inr rfl))
      · rw [upd_ne npg]; exact hpot2
      · exact upd_same
      · rw [upd_ne nsg]; exact hs2
    · rw [decide_eq_false hlt]
      exact iteF (fin _ ⟨_, ss, turn + 1, num, hpot2, hg2, hs2, hss, nsg⟩ sb2)
  | nil =>
    refine iteF ?_
    have hsl : (0 : Int) < ((ss.map V.int).length : Int) := by rw [List.length_map]; omega
    obtain ⟨y, hy1, hy2⟩ := atI_int (xs := ss.map V.int) (i := turn % ((ss.map V.int).length : Int)) (Int.emod_nonneg _ (by omega)) (Int.emod_lt_of_pos _ hsl)
    rw [List.getElem?_map] at hy1
    obtain ⟨yn, _, rfl⟩ := Option.map_eq_some_iff.mp hy1
    refine ⟨_, rfl, pot, _, _, _, rfl, rfl, .inl (.inl hpot1), rfl, _, rfl, .inl ⟨_, rfl, _, rfl, pot, _, _, _, rfl, rfl, .inl (.inl hpot1), rfl, _, _, rfl, .inl (.inl (.inl hs1)), _, _, rfl, rfl, hsl, s, _, _, _, rfl, rfl, .inl (.inl hs1), hy2, _, _, rfl, rfl, .inr (by decide), _, rfl, _, _, rfl, rfl, .inl (by decide), _, _, rfl, rfl, _, rfl, pot, _, _, _, rfl, rfl, .inl (.inl hpot1), rfl, _, _, rfl, rfl, .inr (by decide), _, _, rfl, rfl, ?_⟩⟩
    refine ⟨_, rfl, _, _, rfl, rfl, .inr (by decide), _, _, rfl, rfl, .inl ⟨_, rfl, _, _, rfl, rfl, by show (0 : Int) < _; decide, ?_⟩⟩
    refine ⟨_, rfl, _, rfl, _, _, rfl, rfl, ⟨by decide, by decide⟩, _, _, rfl, rfl, _, _, rfl, rfl, .inl ⟨by omega, by omega⟩, .inl ⟨_, rfl, _, _, rfl, rfl, by show (0 : Int) < _; decide, ?_⟩⟩
    refine ⟨_, rfl, _, rfl, _, _, rfl, rfl, ⟨by decide, by decide⟩, _, _, rfl, rfl, _, _, rfl, rfl, .inl ⟨by omega, by omega⟩, _, rfl, _, _, rfl, rfl, .inl ⟨_, rfl, _, _, rfl, rfl, by show (0 : Int) < _; decide, ?_⟩⟩
    refine ⟨_, rfl, _, _, rfl, rfl, ⟨by decide, by decide⟩, .inl ⟨_, rfl, _, rfl, _, _, rfl, rfl, by omega, ?_⟩⟩
    have fin : ∀ z : Int, Q (.int (z % (many : Int))) H1 := by
      intro z
      have e1 := Int.emod_lt_of_pos z (b := (many : Int)) (by omega)
      have e2 := Int.emod_nonneg z (b := (many : Int)) (by omega)
      have em : z % (many : Int) = (((z % (many : Int)).toNat : Nat) : Int) := by omega
      rw [em]
      exact q _ _ (by omega) ⟨[], ss, turn + 1, num, hpot1, hg1, hs1, hss, nsg⟩ sb1
    exact fin _
abbrev N_law_pot : List Str := ["_law_script", "_law_cells", "_law_greats", "_law_smalls", "_law_item"]
theorem sc_law_pot : FnScope N_law_pot ["_law_script"] (defScope s_law_pot) := ⟨rfl, rfl, rfl, by decide +kernel, rfl, by decide +kernel, by decide +kernel⟩
def sp_law_pot (K : PySem.W.Frag) : Sp := fun vs H Q _ => ∃ (a : Addr) (ns : List Int), vs = [.ref a] ∧ SqL K H a (ns.map V.int) ∧ ns.length ≤ 63 ∧
  ∀ pot g s H', Same H H' → PotAt H' pot g s → Q (.ref pot) H'
theorem f_law_pot (c : Cn K mg) : C8.Cal P w K mg base 1 "_law_pot" (sp_law_pot K) [] := by
  refine cal_of (N := N_law_pot) c.g_law_pot c.d_law_pot sc_law_pot (fun _ _ _ _ _ _ us hl => match us, hl with | [_], _ => rfl) (fun vs H Q E h => ?len) (fun cdv A outer s H vs Q E hr h => ?_)
  case len => obtain ⟨a, ns, rfl, _⟩ := h; rfl
  obtain ⟨a, ns, rfl, ha, hl, q⟩ := h
  refine ⟨_, (pss_cons (ps_setLc (i := 1) (own := [("_law_item", 4)]) (g := gName 4) (tt := tYes) rfl sc_law_pot.nd rfl rfl (sw_true rfl rfl rfl (by decide +kernel)) (kpi_list K (pe_slice (r := rSlL K) (kslL K) (pv 0) po_none (po_some pe_int))) (blkOk_by (own := [("_law_item", 4)]) (N := N_law_pot) (sc := defScope s_law_pot) (by decide +kernel)) (fun _ _ _ _ _ => (pg_name (i := 4) sc_law_pot.nd rfl (Or.inl rfl))) (fun _ _ _ _ _ => pts_nil) (fun _ _ _ _ _ => (pe_callTy (r := rInt1) kc_int (by rfl) c.z_int (by decide +kernel) (pa_cons (pv 4) pa_nil))))
      (pss_cons (ps_setLc (i := 2) (own := [("_law_item", 4)]) (g := gName 4) rfl sc_law_pot.nd rfl rfl (sw_true rfl rfl rfl (by decide +kernel)) (kpi_list K (pv 1)) (blkOk_by (own := [("_law_item", 4)]) (N := N_law_pot) (sc := defScope s_law_pot) (by decide +kernel)) (fun _ _ _ _ _ => (pg_name (i := 4) sc_law_pot.nd rfl (Or.inl rfl))) (fun _ _ _ _ _ => (pts_one (pt_cmpR op_ge (pe_callB (r := rAbs) kc_abs (by rfl) c.z_abs (by decide +kernel) (pa_cons (pv 4) pa_nil)) (pe_op op_pow pe_int pe_int) (nomark _)))) (fun _ _ _ _ _ => (pe_callB (r := rAbs) kc_abs (by rfl) c.z_abs (by decide +kernel) (pa_cons (pv 4) pa_nil))))
      (pss_cons (ps_set (i := 3) sc_law_pot.nd rfl (Or.inl rfl) (pe_op op_cat (pe_lc (own := [("_law_item", 4)]) (g := gName 4) rfl sc_law_pot.nd (kpi_list K (pv 1)) (blkOk_by (own := [("_law_item", 4)]) (N := N_law_pot) (sc := defScope s_law_pot) (by decide +kernel)) (fun _ _ _ _ _ => (pg_name (i := 4) sc_law_pot.nd rfl (Or.inl rfl))) (fun _ _ _ _ _ => (pts_one (pt_cmpR op_lt (pe_callB (r := rAbs) kc_abs (by rfl) c.z_abs (by decide +kernel) (pa_cons (pv 4) pa_nil)) (pe_op op_pow pe_int pe_int) (nomark _)))) (fun _ _ _ _ _ => (pe_op op_mod (pe_callTy (r := rInt1) kc_int (by rfl) c.z_int (by decide +kernel) (pa_cons (pv 4) pa_nil)) pe_int))) (pe_lst (pa_cons (pe_op op_add (pe_callB (r := rLenA K) (kc_len K) (by rfl) c.z_len (by decide +kernel) (pa_cons (pv 1) pa_nil)) pe_int) pa_nil))))
      (pss_one (ps_ret (pe_lst (pa_cons (pv 2) (pa_cons (pv 3) (pa_cons pe_int (pa_cons (pe_op op_mod (pe_callTy (r := rInt1) kc_int (by rfl) c.z_int (by decide +kernel) (pa_cons (pe_callB (r := rSum K) (kc_sum K) (by rfl) c.z_sum (by decide +kernel) (pa_cons (pv 3) pa_nil)) pa_nil)) pe_int) pa_nil)))))))))), ?_⟩
  refine ⟨_, rfl, _, rfl, a, ns.map V.int, rfl, ha, fun p0 np0 => ?_⟩
  have hcut : cutV (ns.map V.int) none (some 63) = ns.map V.int := by
    unfold cutV
    have := HT.sIx_nat (ns.map V.int).length (ns.map V.int).length 63
    rw [HT.sIx_none, show (63 : Int) = ((63 : Nat) : Int) from rfl, this, List.drop_zero, List.take_of_length_le (by rw [List.length_map]; omega)]
  rw [hcut] at *
  have s0 := same_new (o := .lst (ns.map V.int)) np0
  have hp0 : upd H p0 (.lst (ns.map V.int)) p0 = some (.lst (ns.map V.int)) := upd_same
  generalize upd H p0 (.lst (ns.map V.int)) = Ha at *
  refine ⟨p0, rfl, ⟨_, .inl (.inl hp0)⟩, fun D1 nD1 => ?_⟩
  refine lc_it (walk_list (xs := ns.map V.int)) (fun i H1 => Same Ha H1 ∧ ∃ gs : List Int, H1 D1 = some (.lst (gs.map V.int)) ∧ gs.length ≤ i) ⟨same_new nD1, [], upd_same, by simp⟩ (fun i H1 _ h => .inl (.inl (h.1 _ _ hp0))) ?_ ?_
  · rintro i x H1 H2 hi ⟨sm, gs, hD, hgl⟩ ⟨e, ex⟩
    subst e
    rw [List.length_map] at hi
    rw [List.getElem?_map, List.getElem?_eq_getElem hi] at ex
    cases ex
    refine ⟨rfl, yesT (iteT ⟨_, rfl, .inl ⟨_, rfl, gs.map V.int, hD, ?_, Same.mut sm nD1, gs ++ [ns[i]], by rw [List.map_append]; exact upd_same, by simp; omega⟩⟩)⟩
    rw [List.length_map]
    exact Nat.lt_of_le_of_lt (m := 63) (by omega) (by decide)
  rintro H1 ⟨sm1, cs, hD1, hcl⟩
  rw [List.length_map] at hcl
  have s1 := Same.trans s0 sm1
  refine ⟨_, rfl, D1, rfl, ⟨_, .inl (.inl hD1)⟩, fun D2 nD2 => ?_⟩
  refine lc_it (walk_list (xs := cs.map V.int)) (fun i H3 => Same H1 H3 ∧ ∃ gs : List Int, H3 D2 = some (.lst (gs.map V.int)) ∧ gs.length ≤ i) ⟨same_new nD2, [], upd_same, by simp⟩ (fun i H3 _ h => .inl (.inl (h.1 _ _ hD1))) ?_ ?_
  · rintro i x H3 H4 hi ⟨sm, gs, hD, hgl⟩ ⟨e, ex⟩
    subst e
    rw [List.length_map] at hi
    rw [List.getElem?_map, List.getElem?_eq_getElem hi] at ex
    cases ex
    refine ⟨rfl, _, rfl, _, rfl, _, _, rfl, rfl, ⟨by decide, by decide, by decide⟩, _, _, rfl, rfl, _, rfl, ?_⟩
    refine iteAny ?_ ?_
    · refine ⟨_, rfl, _, rfl, gs.map V.int, hD, ?_, Same.mut sm nD2, gs ++ [_], by rw [List.map_append]; exact upd_same, by simp; omega⟩
      rw [List.length_map]
      exact Nat.lt_of_le_of_lt (m := 63) (by omega) (by decide)
    · exact ⟨sm, gs, hD, by omega⟩
  rintro H3 ⟨sm3, gs, hD2, hgl⟩
  rw [List.length_map] at hgl
  have s3 := Same.trans s1 sm3
  have hD13 := sm3 _ _ hD1
  refine ⟨_, rfl, D1, rfl, ⟨_, .inl (.inl hD13)⟩, fun D3 nD3 => ?_⟩
  refine lc_it (walk_list (xs := cs.map V.int)) (fun i H5 => Same H3 H5 ∧ ∃ ss : List Int, H5 D3 = some (.lst (ss.map V.int)) ∧ ss.length ≤ i) ⟨same_new nD3, [], upd_same, by simp⟩ (fun i H5 _ h => .inl (.inl (h.1 _ _ hD13))) ?_ ?_
  · rintro i x H5 H6 hi ⟨sm, ss, hD, hsl⟩ ⟨e, ex⟩
    subst e
    rw [List.length_map] at hi
    rw [List.getElem?_map, List.getElem?_eq_getElem hi] at ex
    cases ex
    refine ⟨rfl, _, rfl, _, rfl, _, _, rfl, rfl, ⟨by decide, by decide, by decide⟩, _, _, rfl, rfl, _, rfl, ?_⟩
    refine iteAny ?_ ?_
    · refine ⟨_, rfl, .inl ⟨_, rfl, _, _, rfl, rfl, by show (0 : Int) < _; decide, ss.map V.int, hD, ?_, Same.mut sm nD3, ss ++ [_], by rw [List.map_append]; exact upd_same, by simp; omega⟩⟩
      rw [List.length_map]
      exact Nat.lt_of_le_of_lt (m := 63) (by omega) (by decide)
    · exact ⟨sm, ss, hD, by omega⟩
  rintro H5 ⟨sm5, ss, hD3, hsl⟩
  rw [List.length_map] at hsl
  have s5 := Same.trans s3 sm5
  have hD15 := sm5 _ _ hD13
  refine ⟨_, rfl, _, _, rfl, .inl (.inl (.inl hD15)), _, _, rfl, rfl, sz 1 (by decide), fun l2 nl2 => ?_⟩
  have s6 := same_new (o := .lst [.int (((cs.map V.int).length : Int) + 1)]) nl2
  refine ⟨D3, l2, ss.map V.int, _, rfl, rfl, s6 _ _ hD3, upd_same, sz _ (by simp; omega), fun s8 ns8 => ?_⟩
  have hs8 : upd (upd H5 l2 (.lst [.int (((cs.map V.int).length : Int) + 1)])) s8 (.lst (ss.map V.int ++ [.int (((cs.map V.int).length : Int) + 1)])) s8 = some (.lst ((ss ++ [((cs.map V.int).length : Int) + 1]).map V.int)) := by rw [List.map_append]; exact upd_same
  have s68 := Same.trans s6 (same_new (o := .lst (ss.map V.int ++ [.int (((cs.map V.int).length : Int) + 1)])) ns8)
  have nsD2 : s8 ≠ D2 := fun e => by
    subst e
    have := s6 _ _ (sm5 _ _ hD2)
    rw [this] at ns8
    cases ns8
  have hD28 := s68 _ _ (sm5 _ _ hD2)
  have s8' := Same.trans s5 s68
  refine ⟨_, rfl, _, rfl, _, rfl, s8, _, rfl, .inl (.inl hs8), .inl ⟨_, rfl, _, _, rfl, rfl, by show (0 : Int) < _; decide, sz 4 (by decide), fun pot npot => ?_⟩⟩
  have s9 := same_new (o := .lst [.ref D2, .ref s8, .int 0, .int ((ss ++ [((cs.map V.int).length : Int) + 1]).sum % 999983)]) npot
  exact q pot D2 s8 _ (Same.trans s8' s9) ⟨gs, _, 0, _, upd_same, s9 _ _ hD28, s9 _ _ hs8, by simp, nsD2⟩
end
end G6

-- G6Mj
namespace G6
/-! ### tables that lead upwards -/
def upI (L : Nat) (rk : Nat → Nat) (m : Nat) : Item → Prop
  | .look _ ns => rk m < rk (ns.getD L 0)
  | .say _ n => rk m < rk n
  | .stop => True
def Up (L : Nat) (t : List Item) (rk : Nat → Nat) : Prop := ∀ m, m < t.length → upI L rk m (itemAt t m)
section
variable {R L : Nat} {t : List Item} {rk : Nat → Nat}
theorem up_nxt (h : Up L t rk) {p q : Ph} (hp : p.1 < t.length) (e : nxt L t p = some q) : rk p.1 < rk q.1 := by
  have m := nxt_mem e
  have u := h p.1 hp
  unfold steps at m
  generalize itemAt t p.1 = x at m u
  cases x with
  | look r ns =>
    by_cases hin : r ∈ p.2
    · rw [stepsI_in hin] at m
      simp at m
      rw [m]
      exact u
    · rw [stepsI_out hin] at m
      simp at m
  | say w n =>
    simp [stepsI] at m
    rw [m]
    exact u
  | stop => simp [stepsI] at m
theorem noring_up (wf : WF R L t) (h : Up L t rk) : NoRing L t := by
  intro p hp n e
  have key : ∀ n q, itr L t (n + 1) p = some q → Rch L t q ∧ rk p.1 < rk q.1 := by
    intro n
    induction n with
    | zero => 
      intro q e
      have e : nxt L t p = some q := e
      exact ⟨nxt_rch hp e, up_nxt h (hp.ok wf).1 e⟩
    | succ n ih =>
      intro q e
      have e : (itr L t (n + 1) p).bind (nxt L t) = some q := e
      cases e1 : itr L t (n + 1) p with
      | none => rw [e1] at e; cases e
      | some y =>
        rw [e1] at e
        have e : nxt L t y = some q := e
        obtain ⟨h1, h2⟩ := ih y e1
        exact ⟨nxt_rch h1 e, Nat.lt_trans h2 (up_nxt h (h1.ok wf).1 e)⟩
  exact Nat.lt_irrefl _ (key n p e).2
theorem itr_add (L : Nat) (t : List Item) (p : Ph) (a : Nat) : ∀ b, itr L t (a + b) p = (itr L t a p).bind (itr L t b)
  | 0 => by cases h : itr L t a p <;> simp [h, itr]
  | b + 1 => by
    show (itr L t (a + b) p).bind (nxt L t) = _
    rw [itr_add L t p a b]
    cases itr L t a p with
    | none => rfl
    | some y => rfl
theorem itr_some {p q : Ph} {n : Nat} (h : itr L t n p = some q) {i : Nat} (hi : i ≤ n) : ∃ y, itr L t i p = some y := by
  have e : n = i + (n - i) := by omega
  rw [e, itr_add] at h
  cases h1 : itr L t i p with
  | none => rw [h1] at h; cases h
  | some y => exact ⟨y, rfl⟩
theorem itr_rch {p : Ph} (hp : Rch L t p) : ∀ (n : Nat) (q : Ph), itr L t n p = some q → Rch L t q
  | 0, q, e => by cases e; exact hp
  | n + 1, q, e => by
    have e : (itr L t n p).bind (nxt L t) = some q := e
    cases e1 : itr L t n p with
    | none => rw [e1] at e; cases e
    | some y =>
      rw [e1] at e
      exact nxt_rch (itr_rch hp n y e1) e
/-- a ring that stands comes round within as many turns as there are phases -/
theorem ring_short {ks : List Ph} (all : AllPh L t ks) (h : ∀ p ∈ ks, ∀ n, n < ks.length → itr L t (n + 1) p ≠ some p) : NoRing L t := by
  intro p hp n
  induction n using Nat.strongRecOn with
  | _ n ih =>
    intro e
    by_cases hn : n < ks.length
    · exact h p ((all.mem p).mpr hp) n hn e
    · have hnd : ¬ ((List.range (n + 1)).map fun i => (itr L t i p).getD p).Nodup := by
        intro hd
        have := nodup_len hd (m := ks) (fun x hx => by
          obtain ⟨i, hi, rfl⟩ := List.mem_map.mp hx
          have hi := List.mem_range.mp hi
          obtain ⟨y, hy⟩ := itr_some e (i := i) (by omega)
          rw [hy]
          exact (all.mem y).mpr (itr_rch hp i y hy))
        simp at this
        omega
      have : ∃ i j, i < j ∧ j < n + 1 ∧ (itr L t i p).getD p = (itr L t j p).getD p := by
        refine Classical.byContradiction fun hc => hnd ?_
        rw [List.nodup_iff_pairwise_ne, List.pairwise_map]
        refine List.Pairwise.imp_of_mem ?_ (List.pairwise_lt_range (n := n + 1))
        intro i j _ hj hij he
        exact hc ⟨i, j, hij, List.mem_range.mp hj, he⟩
      obtain ⟨i, j, hij, hj, he⟩ := this
      obtain ⟨y, hy⟩ := itr_some e (i := i) (by omega)
      obtain ⟨z, hz⟩ := itr_some e (i := j) (by omega)
      rw [hy, hz] at he
      have he : y = z := he
      subst he
      have e1 : n + 1 = j + (n + 1 - j) := by omega
      rw [e1, itr_add, hz] at e
      have e2 : itr L t (i + (n + 1 - j)) p = some p := by
        rw [itr_add, hy]
        exact e
      have e3 : i + (n + 1 - j) = (i + (n - j)) + 1 := by omega
      rw [e3] at e2
      exact ih (i + (n - j)) (by omega) e2

/-! ### the same table in another order -/
def ren (o : List Nat) : Item → Item
  | .look r ns => .look r (ns.map fun n => o.getD n 0)
  | .say w n => .say w (o.getD n 0)
  | .stop => .stop
def renT (o : List Nat) (t : List Item) : List Item := (List.range t.length).map fun m => ren o (itemAt t (o.idxOf m))
theorem perm_range {o : List Nat} {n : Nat} (h : o.Perm (List.range n)) : o.length = n ∧ o.Nodup ∧ (∀ m, m ∈ o ↔ m < n) := by
  refine ⟨by have := h.length_eq; simpa using this, h.nodup_iff.mpr List.nodup_range, fun m => ?_⟩
  rw [h.mem_iff]
  simp
theorem ord_lt {o : List Nat} {n i : Nat} (h : o.Perm (List.range n)) (hi : i < n) : o.getD i 0 < n := by
  obtain ⟨h1, h2, h3⟩ := perm_range h
  rw [List.getD_eq_getElem?_getD, List.getElem?_eq_getElem (by omega)]
  exact (h3 _).mp (List.getElem_mem (by omega))
theorem ord_idx {o : List Nat} {n i : Nat} (h : o.Perm (List.range n)) (hi : i < n) : o.idxOf (o.getD i 0) = i := by
  obtain ⟨h1, h2, h3⟩ := perm_range h
  have hl : i < o.length := by omega
  rw [List.getD_eq_getElem?_getD, List.getElem?_eq_getElem hl]
  have hl2 : o.idxOf o[i] < o.length := List.idxOf_lt_length_iff.mpr (List.getElem_mem hl)
  have e := List.getElem_idxOf hl2
  have hp := List.pairwise_iff_getElem.mp h2
  rcases Nat.lt_trichotomy (o.idxOf o[i]) i with h | h | h
  · exact absurd e (hp _ _ hl2 hl h)
  · exact h
  · exact absurd e.symm (hp _ _ hl hl2 h)
theorem idx_lt {o : List Nat} {n m : Nat} (h : o.Perm (List.range n)) (hm : m < n) : o.idxOf m < n := by
  obtain ⟨h1, h2, h3⟩ := perm_range h
  have := List.idxOf_lt_length_iff.mpr ((h3 m).mpr hm)
  omega
theorem renT_len (o : List Nat) (t : List Item) : (renT o t).length = t.length := by simp [renT]
theorem renT_at {o : List Nat} {m : Nat} (hm : m < t.length) : itemAt (renT o t) m = ren o (itemAt t (o.idxOf m)) := by
  unfold itemAt renT
  rw [List.getD_eq_getElem?_getD, List.getElem?_map, List.getElem?_range hm]
  rfl
theorem ren_ok {o : List Nat} {n : Nat} (h : o.Perm (List.range n)) {x : Item} (hx : ItemOk R L n x) : ItemOk R L n (ren o x) := by
  cases x with
  | look r ns =>
    refine ⟨hx.1, by rw [List.length_map]; exact hx.2.1, fun y hy => ?_⟩
    obtain ⟨z, hz, rfl⟩ := List.mem_map.mp hy
    exact ord_lt h (hx.2.2 z hz)
  | say w m => exact ⟨hx.1, ord_lt h hx.2⟩
  | stop => exact True.intro
theorem renT_wf {o : List Nat} (wf : WF R L t) (h : o.Perm (List.range t.length)) : WF R L (renT o t) := by
  refine ⟨wf.r1, wf.r6, wf.l1, wf.l2, by rw [renT_len]; exact wf.n1, by rw [renT_len]; exact wf.n16, fun x hx => ?_⟩
  rw [renT_len]
  unfold renT at hx
  obtain ⟨m, hm, rfl⟩ := List.mem_map.mp hx
  exact ren_ok h (wf.at (idx_lt h (List.mem_range.mp hm)))
theorem renT_up {o : List Nat} (wf : WF R L t) (h : o.Perm (List.range t.length)) (u : Up L t rk) : Up L (renT o t) (fun m => rk (o.idxOf m)) := by
  intro m hm
  rw [renT_len] at hm
  rw [renT_at hm]
  have hi := idx_lt h hm
  have hu := u _ hi
  have ok := wf.at hi
  generalize itemAt t (o.idxOf m) = x at hu ok
  cases x with
  | look r ns =>
    obtain ⟨_, o2, o3⟩ := ok
    have hl : L < ns.length := by omega
    have e : (ns.map fun n => o.getD n 0).getD L 0 = o.getD (ns.getD L 0) 0 := by
      rw [List.getD_eq_getElem?_getD, List.getElem?_map, List.getElem?_eq_getElem hl, List.getD_eq_getElem?_getD (l := ns), List.getElem?_eq_getElem hl]
      rfl
    show rk (o.idxOf m) < rk (o.idxOf ((ns.map fun n => o.getD n 0).getD L 0))
    rw [e, ord_idx h (getD_lt o3 hl)]
    exact hu
  | say w k =>
    show rk (o.idxOf m) < rk (o.idxOf (o.getD k 0))
    rw [ord_idx h ok.2]
    exact hu
  | stop => exact True.intro
end
end G6

-- G6F_Az
namespace G6
open PySem PySem.Spec PyProof.Rows L2
theorem gName_rd {i : Nat} {v : V} {σ : L2.St} {H : Hp} {Q : L2.St → Hp → Prop} (h : Q (σ.set i (some v)) H) : gName i v σ H Q := h
theorem seq_rd {a b : TS} {D : Ends} {σ : L2.St} {H : Hp} (h : a { D with nx := b D } σ H) : tSeq a b D σ H := h
theorem gName_seq {i : Nat} {v : V} {σ : L2.St} {H : Hp} {a b : TS} {D : Ends} {rt : VK} {bk ct : L2.St → Hp → Prop} (h : a { D with nx := b D } (σ.set i (some v)) H) : gName i v σ H (Ends.nx { nx := tSeq a b D, rt := rt, bk := bk, ct := ct }) := h
theorem stepS {t : TS} {D : Ends} {σ : L2.St} {H : Hp} (I : L2.St → Hp → Prop) (h : ∀ D' : Ends, (∀ σ H, I σ H → D'.nx σ H) → t D' σ H) (q : ∀ σ H, I σ H → D.nx σ H) : t D σ H := h D q
theorem vI_set (l : List Nat) (k x : Nat) : (vI l).set k (.int (x : Int)) = vI (l.set k x) := by
  unfold vI
  rw [List.map_set]
theorem vI_getN {l : List Nat} {i : Nat} (h : i < l.length) : atI (vI l) (i : Int) = some (.int ((l[i] : Nat) : Int)) := by
  refine atI_nat ?_
  unfold vI
  rw [List.getElem?_map, List.getElem?_eq_getElem h]
  rfl
theorem nks_of_get {K : PySem.W.Frag} {H : Hp} : ∀ {ks : List NestedKey} {vs : List V}, vs.length = ks.length → (∀ (i : Nat) (k : NestedKey), ks[i]? = some k → ∃ v, vs[i]? = some v ∧ NK K H k v) → NKs K H ks vs
  | [], [], _, _ => .nil
  | [], _ :: _, h, _ => by simp at h
  | _ :: _, [], h, _ => by simp at h
  | k :: ks, v :: vs, hl, h => by
    obtain ⟨v', e, hk⟩ := h 0 k rfl
    have e : v = v' := by simpa using e
    subst e
    refine .cons hk (nks_of_get (by simpa using hl) fun i k' hk' => ?_)
    obtain ⟨v2, a, b⟩ := h (i + 1) k' (by simpa using hk')
    exact ⟨v2, by simpa using a, b⟩
theorem ord_back {o : List Nat} {n m : Nat} (h : o.Perm (List.range n)) (hm : m < n) : o.getD (o.idxOf m) 0 = m := by
  obtain ⟨h1, h2, h3⟩ := perm_range h
  have hl := List.idxOf_lt_length_iff.mpr ((h3 m).mpr hm)
  rw [List.getD_eq_getElem?_getD, List.getElem?_eq_getElem hl]
  exact List.getElem_idxOf hl
theorem perm_zero {ns : List Nat} {n : Nat} (hn : 1 ≤ n) (h : ns.Perm ((List.range (n - 1)).map (· + 1))) : (0 :: ns).Perm (List.range n) := by
  have e : List.range n = 0 :: (List.range (n - 1)).map (· + 1) := by
    have : n = (n - 1) + 1 := by omega
    rw [this, List.range_succ_eq_map]
    simp
  rw [e]
  exact h.cons 0
theorem rgV_one (n : Nat) : rgV 1 (n : Int) = vI ((List.range (n - 1)).map (· + 1)) := by
  unfold rgV vI
  have : ((n : Int) - 1).toNat = n - 1 := by omega
  rw [this, List.map_map]
  refine List.map_congr_left fun i _ => ?_
  show V.int (1 + (i : Int)) = V.int (((i + 1 : Nat)) : Int)
  congr 1
  omega
section
variable {P : Program} {w : World} {K : PySem.W.Frag} {mg : Str → Option Value} {base : Heap}
abbrev N_law_mixed : List Str := ["_law_pot_here", "_law_items", "_law_line", "_law_k", "_law_at"]
theorem sc_law_mixed : FnScope N_law_mixed ["_law_pot_here", "_law_items"] (defScope s_law_mixed) := ⟨rfl, rfl, rfl, by decide +kernel, rfl, by decide +kernel, by decide +kernel⟩
def sp_law_mixed (K : PySem.W.Frag) : Sp := fun vs H Q _ => ∃ (pot g s l : Addr) (ns : List Nat), vs = [.ref pot, .ref l] ∧ PotAt H pot g s ∧ H l = some (.lst (vI ns)) ∧ ns.length ≤ 20 ∧
  ∀ p ns' H', ns'.Perm ns → H p = none → H' p = some (.lst (vI ns')) → PotAt H' pot g s → SB (PG2 pot g) H H' → Q (.ref p) H'
theorem f_law_mixed (c : Cn K mg) : C8.Cal P w K mg base 2 "_law_mixed" (sp_law_mixed K) [] := by
  have h_law_draw := f_law_draw (P := P) (w := w) (base := base) c
  refine cal_of (N := N_law_mixed) c.g_law_mixed c.d_law_mixed sc_law_mixed (fun _ _ _ _ _ _ us hl => match us, hl with | [_, _], _ => rfl) (fun vs H Q E h => ?len) (fun cdv A outer s0 H vs Q E hr h => ?_)
  case len => obtain ⟨pot, g, s, l, ns, rfl, _⟩ := h; rfl
  obtain ⟨pot, g, s, l, ns, rfl, hp, hl, hz, q⟩ := h
  refine ⟨_, (pss_cons (ps_set (i := 2) sc_law_mixed.nd rfl (Or.inl rfl) (pe_callTy (r := rLstOf K) (kc_list K) (by rfl) c.z_list (by decide +kernel) (pa_cons (pv 1) pa_nil)))
      (pss_cons (ps_for PassesOwn.never rfl (pi_range1 (by rfl) c.z_range (pa_cons (pe_callB (r := rLenA K) (kc_len K) (by rfl) c.z_len (by decide +kernel) (pa_cons (pv 2) pa_nil)) pa_nil)) (pg_name (i := 3) sc_law_mixed.nd rfl (Or.inl rfl)) (pss_cons (ps_set (i := 4) sc_law_mixed.nd rfl (Or.inl rfl) (C8.pe_c h_law_draw hr (by decide) (by rfl) (pa_cons (pv 0) (pa_cons (pe_callB (r := rLenA K) (kc_len K) (by rfl) c.z_len (by decide +kernel) (pa_cons (pv 2) pa_nil)) pa_nil))))
      (pss_one (ps_asg (pe_tup (pa_cons (kixL K (pv 2) (pv 4)) (pa_cons (kixL K (pv 2) (pv 3)) pa_nil))) (kpg_tup K (pgs_cons (pg_sub (pv 2) (pv 3) set_list) (pgs_cons (pg_sub (pv 2) (pv 4) set_list) pgs_nil)))))))
      (pss_one (ps_ret (pv 2))))), ?_⟩
  refine ⟨_, rfl, l, vI ns, rfl, .inl (.inl (.inl hl)), fun p np => ?_⟩
  have fr := hp.fr np
  have np2 : ¬ PG2 pot g p := fun h => h.elim fr.1 fr.2.1
  refine ⟨_, rfl, _, _, rfl, .inl (.inl (.inl upd_same)), _, rfl, by rw [vI_len]; omega, by rw [vI_len]; omega, ?_⟩
  refine for_it walk_range (fun i σ H1 => ∃ (ns' : List Nat) (u3 u4 : Option V), σ = [some (.ref pot), some (.ref l), some (.ref p), u3, u4] ∧ ns'.Perm ns ∧ H1 p = some (.lst (vI ns')) ∧ PotAt H1 pot g s ∧ SB (PG2 pot g) H H1) ?_ (fun _ _ _ _ _ => True.intro) ?_ ?_
  · exact ⟨ns, _, _, rfl, List.Perm.refl _, upd_same, hp.same (same_new np), (SB.refl hp.nt).new np⟩
  · rintro i x σ H1 H1' hi ⟨ns', u3, u4, rfl, hperm, hp1, hpo, sb⟩ ⟨e1, ex⟩
    subst e1 ex
    have hnl := hperm.length_eq
    have hi' : i < ns'.length := by
      have := hi
      rw [vI_len] at this
      omega
    dsimp only
    rw [Int.zero_add]
    refine ⟨_, rfl, _, rfl, _, _, rfl, .inl (.inl (.inl hp1)), pot, g, s, (vI ns').length, rfl, hpo, by rw [vI_len]; omega, by rw [vI_len]; omega, fun r H2 hr2 hpo2 sb2 => ?_⟩
    rw [vI_len] at hr2
    have hp2 := sb2.out _ _ np2 hp1
    have sb3 := sb.trans sb2
    refine ⟨_, rfl, _, rfl, p, _, _, _, rfl, rfl, .inl (.inl hp2), vI_getN hr2, _, rfl, _, rfl, p, _, _, _, rfl, rfl, .inl (.inl hp2), vI_getN hi', sz 2 (by decide), fun t1 n1 => ?_⟩
    have s1 := same_new (o := .tup [.int ((ns'[r] : Nat) : Int), .int ((ns'[i] : Nat) : Int)]) n1
    have hp3 := s1 _ _ hp2
    refine ⟨t1, _, rfl, .inl (.inl upd_same), rfl, _, _, rfl, _, rfl, _, rfl, p, _, (i : Int), i, rfl, rfl, hp3, ixN_nat (by rw [vI_len]; exact hi'), ?_⟩
    refine ⟨_, _, rfl, _, rfl, _, rfl, p, _, (r : Int), r, rfl, rfl, upd_same, ixN_nat (by rw [List.length_set, vI_len]; exact hr2), rfl, ?_⟩
    refine ⟨(ns'.set i ns'[r]).set r ns'[i], _, _, rfl, (List.set_set_perm hi' hr2).trans hperm, ?_, ?_, ?_⟩
    · rw [upd_same, vI_set, vI_set]
    · exact ((hpo2.same s1).upd fr).upd fr
    · exact ((sb3.new n1).fresh np).fresh np
  · rintro σ H1 ⟨ns', u3, u4, rfl, hperm, hp1, hpo, sb⟩
    exact ⟨_, rfl, q p ns' H1 hperm np hp1 hpo sb⟩
abbrev N_law_renamed : List Str := ["_law_pot_here", "_law_table", "_law_order", "_law_found", "_law_at", "_law_item", "_law_k"]
theorem sc_law_renamed : FnScope N_law_renamed ["_law_pot_here", "_law_table"] (defScope s_law_renamed) := ⟨rfl, rfl, rfl, by decide +kernel, rfl, by decide +kernel, by decide +kernel⟩
def sp_law_renamed (K : PySem.W.Frag) : Sp := fun vs H Q _ => ∃ (pot g s ta : Addr) (ws : List V) (t : List Item) (R L : Nat), vs = [.ref pot, .ref ta] ∧ PotAt H pot g s ∧ H ta = some (.lst ws) ∧ NKs K H (t.map itemK) ws ∧ WF R L t ∧ ta ≠ pot ∧ ta ≠ g ∧
  ∀ f fv (o : List Nat) H', o.Perm (List.range t.length) → H f = none → H' f = some (.lst fv) → NKs K H' ((renT o t).map itemK) fv → PotAt H' pot g s → SB (PG2 pot g) H H' → Q (.ref f) H'
theorem f_law_renamed (c : Cn K mg) : C8.Cal P w K mg base 3 "_law_renamed" (sp_law_renamed K) [] := by
  have h_law_mixed := f_law_mixed (P := P) (w := w) (base := base) c
  refine cal_of (N := N_law_renamed) c.g_law_renamed c.d_law_renamed sc_law_renamed (fun _ _ _ _ _ _ us hl => match us, hl with | [_, _], _ => rfl) (fun vs H Q E h => ?len) (fun cdv A outer s0 H vs Q E hr h => ?_)
  case len => obtain ⟨pot, g, s, ta, ws, t, R, L, rfl, _⟩ := h; rfl
  obtain ⟨pot, g, s, ta, ws, t, R, L, rfl, hp, hta, htw, wf, tp, tg, q⟩ := h
  refine ⟨_, (pss_cons (ps_set (i := 2) sc_law_renamed.nd rfl (Or.inr rfl) (pe_op op_cat (pe_lst (pa_cons pe_int pa_nil)) (C8.pe_c h_law_mixed hr (by decide) (by rfl) (pa_cons (pv 0) (pa_cons (pe_listRg rfl (by rfl) c.z_list (prg_2 (by rfl) c.z_range pe_int (pe_callB (r := rLenA K) (kc_len K) (by rfl) c.z_len (by decide +kernel) (pa_cons (pv 1) pa_nil)))) pa_nil)))))
      (pss_cons (ps_set (i := 3) sc_law_renamed.nd rfl (Or.inl rfl) (pe_op op_rep (pe_lst (pa_cons pe_non pa_nil)) (pe_callB (r := rLenA K) (kc_len K) (by rfl) c.z_len (by decide +kernel) (pa_cons (pv 1) pa_nil))))
      (pss_cons (ps_for PassesOwn.never rfl (pi_range1 (by rfl) c.z_range (pa_cons (pe_callB (r := rLenA K) (kc_len K) (by rfl) c.z_len (by decide +kernel) (pa_cons (pv 1) pa_nil)) pa_nil)) (pg_name (i := 4) sc_law_renamed.nd rfl (Or.inl rfl)) (pss_cons (ps_set (i := 5) sc_law_renamed.nd rfl (Or.inl rfl) (kixL K (pv 1) (pv 4)))
      (pss_cons (ps_if (pt_cmpR op_eq (kixT K (pv 5) pe_int) pe_str (nomark _)) (pss_one (ps_set (i := 5) sc_law_renamed.nd rfl (Or.inl rfl) (pe_tup (pa_cons pe_str (pa_cons (kixT K (pv 5) pe_int) (pa_cons (pe_callTy (r := rTupOf K) (kc_tuple K) (by rfl) c.z_tuple (by decide +kernel) (pa_cons (pe_lc (own := [("_law_k", 6)]) (g := gName 6) (tt := tYes) rfl sc_law_renamed.nd (kpi_tup K (kixT K (pv 5) pe_int)) (blkOk_by (own := [("_law_k", 6)]) (N := N_law_renamed) (sc := defScope s_law_renamed) (by decide +kernel)) (fun _ _ _ _ _ => (pg_name (i := 6) sc_law_renamed.nd rfl (Or.inl rfl))) (fun _ _ _ _ _ => pts_nil) (fun _ _ _ _ _ => (kixL K (pv 2) (pv 6)))) pa_nil)) pa_nil)))))) (pss_one (ps_if (pt_cmpR op_eq (kixT K (pv 5) pe_int) pe_str (nomark _)) (pss_one (ps_set (i := 5) sc_law_renamed.nd rfl (Or.inl rfl) (pe_tup (pa_cons pe_str (pa_cons (kixT K (pv 5) pe_int) (pa_cons (kixL K (pv 2) (kixT K (pv 5) pe_int)) pa_nil)))))) pss_nil)))
      (pss_one (ps_asg (pv 5) (pg_sub (pv 3) (kixL K (pv 2) (pv 4)) set_list))))))
      (pss_one (ps_ret (pv 3)))))), ?_⟩
  have hwl : ws.length = t.length := by have := htw.length; simpa using this
  have hn1 := wf.n1
  have hn16 := wf.n16
  refine ⟨sz 1 (by decide), fun l0 n0 => ?_⟩
  have s0 := same_new (o := .lst [.int 0]) n0
  refine ⟨_, rfl, _, rfl, _, _, rfl, .inl (.inl (.inl (s0 _ _ hta))), _, _, rfl, rfl, RgOk.of_le (by decide) (by omega) (by decide) (by omega), fun rl nrl => ?_⟩
  rw [hwl, rgV_one]
  have s1 := same_new (o := .lst (vI ((List.range (t.length - 1)).map (· + 1)))) nrl
  have s01 := Same.trans s0 s1
  refine ⟨pot, g, s, rl, _, rfl, hp.same s01, upd_same, by simp; omega, fun p ns' H2 hperm np hp2 hpo2 sb2 => ?_⟩
  have fr0 := hp.fr n0
  have hl0 : H2 l0 = some (.lst [.int 0]) := sb2.out _ _ (fun h => h.elim fr0.1 fr0.2.1) (s1 _ _ upd_same)
  have hnl := hperm.length_eq
  rw [List.length_map, List.length_range] at hnl
  refine ⟨l0, p, [.int 0], vI ns', rfl, rfl, hl0, hp2, by rw [vI_len]; exact sz _ (by simp; omega), fun oa noa => ?_⟩
  have hoP := perm_zero hn1 hperm
  have s3 := same_new (o := .lst ([V.int 0] ++ vI ns')) noa
  have hoa : upd H2 oa (.lst ([V.int 0] ++ vI ns')) oa = some (.lst (vI (0 :: ns'))) := upd_same
  have sb3 : SB (PG2 pot g) H (upd H2 oa (.lst ([V.int 0] ++ vI ns'))) := (SB.pre s01 sb2 hp.nt).same s3
  have hpo3 := hpo2.same s3
  have nta : ¬ PG2 pot g ta := fun h => h.elim tp tg
  generalize hoo : 0 :: ns' = o at *
  generalize upd H2 oa (.lst ([V.int 0] ++ vI ns')) = H3 at *
  have hta3 := sb3.out _ _ nta hta
  obtain ⟨hol, hond, homem⟩ := perm_range hoP
  refine ⟨sz 1 (by decide), fun l1 n1 => ?_⟩
  have s4 := same_new (o := .lst [.non]) n1
  refine ⟨_, rfl, _, _, rfl, .inl (.inl (.inl (s4 _ _ hta3))), l1, _, _, rfl, rfl, upd_same, by omega, by omega, by rw [hwl]; exact sz _ (by simp; omega), fun fo nfo => ?_⟩
  have hrep : (List.replicate ((ws.length : Int)).toNat [V.non]).flatten.length = t.length := by
    rw [hwl]
    simp
  generalize (List.replicate ((ws.length : Int)).toNat [V.non]).flatten = rep at *
  have s5 := Same.trans s4 (same_new (o := .lst rep) nfo)
  have H3fo : H3 fo = none := Same.free s4 nfo
  have fro := hpo3.fr H3fo
  refine ⟨_, rfl, _, _, rfl, .inl (.inl (.inl (s5 _ _ hta3))), _, rfl, by omega, by omega, ?_⟩
  refine for_it walk_range (fun i σ H1 => ∃ (fv : List V) (u4 u5 u6 : Option V), σ = [some (.ref pot), some (.ref ta), some (.ref oa), some (.ref fo), u4, u5, u6] ∧ Same H3 H1 ∧ H1 fo = some (.lst fv) ∧ fv.length = t.length ∧ ∀ j, j < i → ∃ v, fv[o.getD j 0]? = some v ∧ NK K H1 (itemK (ren o (itemAt t j))) v) ?_ (fun _ _ _ _ _ => True.intro) ?_ ?_
  · exact ⟨rep, _, _, _, rfl, s5, upd_same, hrep, by intro j hj; omega⟩
  · rintro i x σ H1 H1' hi ⟨fv, u4, u5, u6, rfl, sm, hfo, hfl, hdone⟩ ⟨e1, ex⟩
    subst e1 ex
    have hi' : i < t.length := by
      have := hi
      rw [hwl] at this
      omega
    dsimp only
    rw [Int.zero_add]
    have hta1 := sm _ _ hta3
    have htw1 := NKs.tk (Tk.same sm) _ _ (NKs.tk sb3.tk _ _ htw)
    obtain ⟨iv, hiv, hit⟩ := item_get htw1 hi'
    have hok := wf.at hi'
    refine ⟨_, rfl, _, rfl, ta, ws, _, _, rfl, rfl, .inl (.inl hta1), hiv, ?_⟩
    have hoi := ord_lt hoP hi'
    have tail : ∀ (D : Ends), (∀ σ H1, (∃ (fv : List V) (u4 u5 u6 : Option V), σ = [some (.ref pot), some (.ref ta), some (.ref oa), some (.ref fo), u4, u5, u6] ∧ Same H3 H1 ∧ H1 fo = some (.lst fv) ∧ fv.length = t.length ∧ ∀ j, j < i + 1 → ∃ v, fv[o.getD j 0]? = some v ∧ NK K H1 (itemK (ren o (itemAt t j))) v) → D.nx σ H1) →
        ∀ (z : V) (H5 : Hp), Same H1' H5 → NK K H5 (itemK (ren o (itemAt t i))) z → tAsg (tVar 5) (gSub (tVar 3) (tOp (rIxL K) (tVar 2) (tVar 4)) rSetL) D [some (.ref pot), some (.ref ta), some (.ref oa), some (.ref fo), some (.int (i : Int)), some z, u6] H5 := by
      intro D hD z H5 s5 hz
      have sm5 := Same.trans sm s5
      have hfo5 := s5 _ _ hfo
      refine ⟨_, rfl, _, rfl, _, rfl, _, rfl, oa, vI o, _, _, rfl, rfl, .inl (.inl (sm5 _ _ hoa)), vI_get' (by omega), fo, fv, _, o.getD i 0, rfl, rfl, hfo5, ixN_nat (by omega), hD _ _ ?_⟩
      have tm : Tk H5 (upd H5 fo (.lst (fv.set (o.getD i 0) z))) := Tk.mut hfo5 True.intro
      refine ⟨fv.set (o.getD i 0) z, _, _, _, rfl, Same.mut sm5 H3fo, upd_same, by rw [List.length_set]; exact hfl, fun j hj => ?_⟩
      by_cases e : j = i
      · subst e
        exact ⟨z, by rw [List.getElem?_set_self (by omega)], NK.tk tm _ _ hz⟩
      · obtain ⟨v, h1, h2⟩ := hdone j (by omega)
        refine ⟨v, ?_, NK.tk (Tk.trans (Tk.same s5) tm) _ _ h2⟩
        rw [List.getElem?_set_ne]
        · exact h1
        · intro e2
          have a1 := ord_idx hoP (i := j) (by omega)
          have a2 := ord_idx hoP hi'
          rw [← e2, a2] at a1
          omega
    generalize hitt : itemAt t i = it at hit hok tail
    cases it with
    | look r ns =>
      obtain ⟨ia, ib, rfl, h1, h2⟩ := look_inv hit
      obtain ⟨o1, o2, o3⟩ := hok
      refine ⟨_, rfl, _, _, _, _, rfl, rfl, h1, rfl, rfl, true, rfl, iteT ?_⟩
      refine ⟨_, rfl, _, _, _, _, rfl, rfl, h1, rfl, _, rfl, _, _, _, _, rfl, rfl, h1, rfl, ib, rfl, ⟨_, h2⟩, fun D nD => ?_⟩
      refine lc_map (walk_tup (xs := vI ns)) (fun k y _ => y = .int ((o.getD (ns.getD k 0) 0 : Nat) : Int)) nD (by rw [vI_len]; exact sz _ (by have := wf.l2; omega)) (fun H5 s5 => sqT s5 h2) (fun i H x H' y => by rw [y.1]; exact Same.refl _) (fun _ _ _ _ _ e => e) (fun _ _ _ _ _ _ e => e) ?_ (mono_name _) ?_
      · intro k x H5 H6 hk sm5 _ ⟨e1, ex⟩ Qy hy
        subst e1
        rw [vI_len] at hk
        rw [vI_get hk] at ex
        cases ex
        have hnk : ns.getD k 0 < t.length := getD_lt o3 hk
        exact ⟨rfl, _, rfl, _, rfl, oa, vI o, _, _, rfl, rfl, .inl (.inl (Same.trans sm sm5 _ _ hoa)), vI_get' (by omega), hy _ _ (Same.refl _) rfl⟩
      · intro H5 ys sm5 hys hpr
        have hye := paired_fn hpr
        have hys2 : ys = vI (ns.map fun n => o.getD n 0) := by
          rw [hye, vI_len]
          unfold vI
          rw [List.map_map]
          refine List.ext_getElem (by simp) fun k h1 h2 => ?_
          simp at h1
          simp [h1]
        rw [hys2] at hys
        refine ⟨D, _, rfl, .inl (.inl hys), fun tp ntp => ⟨sz 3 (by decide), fun t3 n3 => ?_⟩⟩
        have s67 := Same.trans (same_new (o := .tup (vI (ns.map fun n => o.getD n 0))) ntp) (same_new (o := .tup [.str "look", .int (r : Int), .ref tp]) n3)
        refine tail _ (fun _ _ h => h) _ _ (Same.trans sm5 s67) ?_
        exact three_mk (.inl (.inl upd_same)) (.text _) (.num _) (nums_mk (.inl (.inl (same_new n3 _ _ upd_same))))
    | say mm kk =>
      obtain ⟨ia, rfl, h1⟩ := say_inv hit
      refine ⟨_, rfl, _, _, _, _, rfl, rfl, h1, rfl, rfl, false, rfl, iteF ?_⟩
      refine ⟨_, rfl, _, _, _, _, rfl, rfl, h1, rfl, rfl, true, rfl, iteT ?_⟩
      refine ⟨_, rfl, _, _, _, _, rfl, rfl, h1, rfl, _, rfl, _, rfl, _, _, _, _, rfl, rfl, h1, rfl, oa, vI o, _, _, rfl, rfl, .inl (.inl (sm _ _ hoa)), vI_get' (by have := hok.2; omega), sz 3 (by decide), fun t3 n3 => ?_⟩
      refine tail _ (fun _ _ h => h) _ _ (same_new n3) ?_
      exact three_mk (.inl (.inl upd_same)) (.text _) (.text _) (.num _)
    | stop =>
      obtain ⟨ia, rfl, h1⟩ := stop_inv hit
      refine ⟨_, rfl, _, _, _, _, rfl, rfl, h1, rfl, rfl, false, rfl, iteF ?_⟩
      refine ⟨_, rfl, _, _, _, _, rfl, rfl, h1, rfl, rfl, false, rfl, iteF ?_⟩
      exact tail _ (fun _ _ h => h) _ _ (Same.refl _) hit
  · rintro σ H1 ⟨fv, u4, u5, u6, rfl, sm, hfo, hfl, hdone⟩
    have e2 : (ws.length : Int).toNat = t.length := by omega
    rw [e2] at hdone
    have Hfo : H fo = none := by
      cases hh : H fo with
      | none => rfl
      | some ob => 
        rw [sb3.out _ _ (fun h => h.elim fro.1 fro.2.1) hh] at H3fo
        cases H3fo
    refine ⟨_, rfl, q fo fv o H1 hoP Hfo hfo (nks_of_get (by rw [List.length_map, renT_len]; exact hfl) fun m k hk => ?_) (hpo3.same sm) (sb3.same sm)⟩
    rw [List.getElem?_map] at hk
    obtain ⟨x, hx, rfl⟩ := Option.map_eq_some_iff.mp hk
    have hm : m < t.length := by
      have := (List.getElem?_eq_some_iff.mp hx).1
      rwa [renT_len] at this
    have hxe : x = ren o (itemAt t (o.idxOf m)) := by
      have := renT_at (o := o) hm
      unfold itemAt at this
      rw [List.getD_eq_getElem?_getD, hx] at this
      exact this
    obtain ⟨v, h1, h2⟩ := hdone (o.idxOf m) (idx_lt hoP hm)
    rw [ord_back hoP hm] at h1
    exact ⟨v, h1, by rw [hxe]; exact h2⟩
end
end G6

-- G6F_Ba
namespace G6
open PySem PySem.Spec PyProof.Rows L2
theorem itemAt_app {t : List Item} {x : Item} {m : Nat} (h : m < t.length) : itemAt (t ++ [x]) m = itemAt t m := by
  unfold itemAt
  rw [List.getD_eq_getElem?_getD, List.getD_eq_getElem?_getD, List.getElem?_append_left h]
theorem itemAt_new {t : List Item} {x : Item} : itemAt (t ++ [x]) t.length = x := by
  unfold itemAt
  simp
theorem word_at (r : Nat) (h : r < 3) : atI [V.str "x", .str "yes", .str "words"] (r : Int) = some (.str (wordS r)) := by
  match r, h with
  | 0, _ => rfl
  | 1, _ => rfl
  | 2, _ => rfl
section
variable {P : Program} {w : World} {K : PySem.W.Frag} {mg : Str → Option Value} {base : Heap}
abbrev N_law_drawn_table : List Str := ["_law_pot_here", "_law_rows", "_law_letters", "_law_size", "_law_upward", "_law_table", "_law_at", "_law_kind", "_law_nexts", "_law_later", "_law_k"]
theorem sc_law_drawn_table : FnScope N_law_drawn_table ["_law_pot_here", "_law_rows", "_law_letters", "_law_size", "_law_upward"] (defScope s_law_drawn_table) := ⟨rfl, rfl, rfl, by decide +kernel, rfl, by decide +kernel, by decide +kernel⟩
def sp_law_drawn_table (K : PySem.W.Frag) : Sp := fun vs H Q _ => ∃ (pot g s : Addr) (R L n : Nat) (up : Bool), vs = [.ref pot, .int (R : Int), .int (L : Int), .int (n : Int), .bl up] ∧ PotAt H pot g s ∧ 1 ≤ R ∧ R ≤ 6 ∧ 1 ≤ L ∧ L ≤ 2 ∧ 1 ≤ n ∧ n ≤ 16 ∧
  ∀ tl ws (t : List Item) H', t.length = n → (∀ x ∈ t, ItemOk R L n x) → (up = true → Up L t id) → H tl = none → H' tl = some (.lst ws) → NKs K H' (t.map itemK) ws → PotAt H' pot g s → SB (PG2 pot g) H H' → Q (.ref tl) H'
theorem f_law_drawn_table (c : Cn K mg) : C8.Cal P w K mg base 2 "_law_drawn_table" (sp_law_drawn_table K) [] := by
  have h_law_draw := f_law_draw (P := P) (w := w) (base := base) c
  refine cal_of (N := N_law_drawn_table) c.g_law_drawn_table c.d_law_drawn_table sc_law_drawn_table (fun _ _ _ _ _ _ us hl => match us, hl with | [_, _, _, _, _], _ => rfl) (fun vs H Q E h => ?len) (fun cdv A outer s0 H vs Q E hr h => ?_)
  case len => obtain ⟨pot, g, s, R, L, n, up, rfl, _⟩ := h; rfl
  obtain ⟨pot, g, s, R, L, n, up, rfl, hp, hR1, hR6, hL1, hL2, hn1, hn16, q⟩ := h
  refine ⟨_, (pss_cons (ps_set (i := 5) sc_law_drawn_table.nd rfl (Or.inl rfl) (pe_lst pa_nil))
      (pss_cons (ps_for PassesOwn.never rfl (pi_range1 (by rfl) c.z_range (pa_cons (pv 3) pa_nil)) (pg_name (i := 6) sc_law_drawn_table.nd rfl (Or.inl rfl)) (pss_cons (ps_set (i := 7) sc_law_drawn_table.nd rfl (Or.inl rfl) (C8.pe_c h_law_draw hr (by decide) (by rfl) (pa_cons (pv 0) (pa_cons pe_int pa_nil))))
      (pss_cons (ps_setLc (i := 8) (own := [("_law_k", 10)]) (g := gName 10) (tt := tYes) rfl sc_law_drawn_table.nd rfl rfl (sw_true rfl rfl rfl (by decide +kernel)) (pi_range1 (by rfl) c.z_range (pa_cons (pe_op op_add (pv 2) pe_int) pa_nil)) (blkOk_by (own := [("_law_k", 10)]) (N := N_law_drawn_table) (sc := defScope s_law_drawn_table) (by decide +kernel)) (fun _ _ _ _ _ => (pg_name (i := 10) sc_law_drawn_table.nd rfl (Or.inl rfl))) (fun _ _ _ _ _ => pts_nil) (fun _ _ _ _ _ => (C8.pe_c h_law_draw hr (by decide) (by rfl) (pa_cons (pv 0) (pa_cons (pv 3) pa_nil)))))
      (pss_cons (ps_set (i := 9) sc_law_drawn_table.nd rfl (Or.inl rfl) (kixL K (pv 8) (pe_un un_neg pe_int)))
      (pss_cons (ps_if (PW.pt (pw_and (pt_val (pv 4)) (pw_and1 (pt_cmpR op_lt (pe_op op_add (pv 6) pe_int) (pv 3) (nomark _))))) (pss_one (ps_set (i := 9) sc_law_drawn_table.nd rfl (Or.inl rfl) (pe_op op_add (pe_op op_add (pv 6) pe_int) (C8.pe_c h_law_draw hr (by decide) (by rfl) (pa_cons (pv 0) (pa_cons (pe_op op_sub (pe_op op_sub (pv 3) (pv 6)) pe_int) pa_nil)))))) pss_nil)
      (pss_one (ps_if (PW.pt (pw_or (pt_cmpR op_eq (pv 7) pe_int (nomark _)) (pw_or1 (PW.pt (pw_and (pt_val (pv 4)) (pw_and1 (pt_cmpR op_eq (pe_op op_add (pv 6) pe_int) (pv 3) (nomark _)))))))) (pss_one (ps_expr (kbm K PySem.F.slot_list_append PySem.F.type_list_append mt_append (pv 5) (pa_cons (pe_tup (pa_cons pe_str pa_nil)) pa_nil)))) (pss_one (ps_if (pt_cmpR op_gt (pv 7) pe_int (nomark _)) (pss_one (ps_expr (kbm K PySem.F.slot_list_append PySem.F.type_list_append mt_append (pv 5) (pa_cons (pe_tup (pa_cons pe_str (pa_cons (kixT K (pe_tup (pa_cons pe_str (pa_cons pe_str (pa_cons pe_str pa_nil)))) (C8.pe_c h_law_draw hr (by decide) (by rfl) (pa_cons (pv 0) (pa_cons pe_int pa_nil)))) (pa_cons (pv 9) pa_nil)))) pa_nil)))) (pss_one (ps_expr (kbm K PySem.F.slot_list_append PySem.F.type_list_append mt_append (pv 5) (pa_cons (pe_tup (pa_cons pe_str (pa_cons (C8.pe_c h_law_draw hr (by decide) (by rfl) (pa_cons (pv 0) (pa_cons (pv 1) pa_nil))) (pa_cons (pe_callTy (r := rTupOf K) (kc_tuple K) (by rfl) c.z_tuple (by decide +kernel) (pa_cons (pe_op op_cat (pe_slice (r := rSlL K) (kslL K) (pv 8) po_none (po_some (pe_un un_neg pe_int))) (pe_lst (pa_cons (pv 9) pa_nil))) pa_nil)) pa_nil)))) pa_nil)))))))))))))
      (pss_one (ps_ret (pv 5))))), ?_⟩
  refine ⟨sz 0 (by decide), fun tl ntl => ?_⟩
  have frt := hp.fr ntl
  have nt2 : ¬ PG2 pot g tl := fun h => h.elim frt.1 frt.2.1
  refine ⟨_, rfl, (n : Int), rfl, by omega, by omega, ?_⟩
  refine for_it walk_range (fun i σ H1 => ∃ (ws : List V) (t : List Item) (u6 u7 u8 u9 u10 : Option V), σ = [some (.ref pot), some (.int (R : Int)), some (.int (L : Int)), some (.int (n : Int)), some (.bl up), some (.ref tl), u6, u7, u8, u9, u10] ∧ SB (PG2 pot g) H H1 ∧ PotAt H1 pot g s ∧ H1 tl = some (.lst ws) ∧ NKs K H1 (t.map itemK) ws ∧ t.length = i ∧ (∀ x ∈ t, ItemOk R L n x) ∧ (up = true → ∀ m, m < t.length → upI L id m (itemAt t m))) ?_ (fun _ _ _ _ _ => True.intro) ?_ ?_
  · exact ⟨[], [], _, _, _, _, _, rfl, (SB.refl hp.nt).new ntl, hp.same (same_new ntl), upd_same, .nil, rfl, by simp, by simp⟩
  · rintro i x σ H1 H1' hi ⟨ws, t, u6, u7, u8, u9, u10, rfl, sb, hpo, htl, htw, hti, hok, hup⟩ ⟨e1, ex⟩
    subst e1 ex
    have hi' : i < n := by simpa using hi
    dsimp only
    rw [Int.zero_add]
    have htwl : ws.length = t.length := by have := htw.length; simpa using this
    -- the kind
    refine ⟨_, rfl, pot, g, s, 10, rfl, hpo, by decide, by decide, fun kd H2 hkd hpo2 sb2 => ?_⟩
    -- the nexts
    refine ⟨_, rfl, _, _, rfl, rfl, (L : Int) + 1, rfl, by omega, by omega, fun D nD => ?_⟩
    have frD := hpo2.fr nD
    have nD2 : ¬ PG2 pot g D := fun h => h.elim frD.1 frD.2.1
    refine lc_it walk_range (fun k H3 => SB (PG2 pot g) H2 H3 ∧ PotAt H3 pot g s ∧ ∃ ns : List Nat, H3 D = some (.lst (vI ns)) ∧ ns.length = k ∧ ∀ x ∈ ns, x < n) ⟨(SB.refl hpo2.nt).new nD, hpo2.same (same_new nD), [], upd_same, rfl, by simp⟩ (fun _ _ _ _ => True.intro) ?_ ?_
    · rintro k x H3 H4 hk ⟨sb3, hpo3, ns, hD3, hnl, hns⟩ ⟨e1, ex⟩
      subst e1 ex
      refine ⟨rfl, yesT (iteT ⟨_, rfl, _, rfl, pot, g, s, n, rfl, hpo3, hn1, by omega, fun r H5 hr5 hpo5 sb5 => ⟨vI ns, sb5.out _ _ nD2 hD3, ?_, (sb3.trans sb5).fresh nD, hpo5.upd frD, ns ++ [r], by rw [vI_snoc]; exact upd_same, by simp [hnl], ?_⟩⟩)⟩
      · rw [vI_len]
        exact Nat.lt_of_le_of_lt (m := 1000) (by omega) (by decide)
      · intro y hy
        rcases List.mem_append.mp hy with z | z
        · exact hns y z
        · simp at z
          subst z
          exact hr5
    rintro H3 ⟨sb3, hpo3, ns, hD3, hnl, hns⟩
    have hnl : ns.length = L + 1 := by rw [hnl]; omega
    have hlast : ns.getD L 0 < n := getD_lt hns (by omega)
    have sb23 := sb2.trans sb3
    have htl3 := sb23.out _ _ nt2 htl
    have sbA := sb.trans sb23
    have tkA := sb23.tk
    refine ⟨_, rfl, _, rfl, D, vI ns, _, _, rfl, rfl, .inl (.inl hD3), nexts_last hnl, ?_⟩
    refine gName_seq ?_
    refine stepS (t := tIfS _ _ _) (fun σ' H4 => ∃ lat : Nat, σ' = [some (.ref pot), some (.int (R : Int)), some (.int (L : Int)), some (.int (n : Int)), some (.bl up), some (.ref tl), some (.int (i : Int)), some (.int (kd : Int)), some (.ref D), some (.int (lat : Int)), u10] ∧ SB (PG2 pot g) H3 H4 ∧ PotAt H4 pot g s ∧ lat < n ∧ (up = true → i + 1 < n → i < lat)) ?_ ?_
    · intro D' hD'
      cases up with
      | false => exact ⟨_, rfl, false, rfl, iteF (iteF (hD' _ _ ⟨ns.getD L 0, rfl, SB.refl hpo3.nt, hpo3, hlast, by simp⟩))⟩
      | true =>
        refine ⟨_, rfl, true, rfl, iteT ⟨_, rfl, _, _, rfl, rfl, _, rfl, _, _, rfl, rfl, _, rfl, ?_⟩⟩
        by_cases hlt : i + 1 < n
        · rw [decide_eq_true (by omega)]
          refine iteT ⟨_, rfl, _, _, rfl, rfl, _, rfl, _, rfl, _, rfl, _, _, rfl, rfl, _, _, rfl, rfl, pot, g, s, n - i - 1, ?_, hpo3, by omega, by omega, fun r H4 hr4 hpo4 sb4 => ?_⟩
          · have : (n : Int) - (i : Int) - 1 = ((n - i - 1 : Nat) : Int) := by omega
            show [V.ref pot, V.int ((n : Int) - (i : Int) - 1)] = _
            rw [this]
          · have e : (i : Int) + 1 + (r : Int) = ((i + 1 + r : Nat) : Int) := by omega
            refine ⟨_, _, rfl, rfl, hD' _ _ ⟨i + 1 + r, ?_, sb4, hpo4, by omega, fun _ _ => by omega⟩⟩
            show [_, _, _, _, _, _, _, _, _, some (V.int ((i : Int) + 1 + (r : Int))), _] = _
            rw [e]
        · rw [decide_eq_false (by omega)]
          exact iteF (hD' _ _ ⟨ns.getD L 0, rfl, SB.refl hpo3.nt, hpo3, hlast, fun _ h => absurd h hlt⟩)
    rintro σ' H4 ⟨lat, rfl, sb4, hpo4, hlat, hlatu⟩
    have htl4 := sb4.out _ _ nt2 htl3
    have hD4 := sb4.out _ _ nD2 hD3
    have sbB := sbA.trans sb4
    have htw4 := NKs.tk sb4.tk _ _ (NKs.tk tkA _ _ htw)
    have fin : ∀ (D' : Ends), (∀ σ H1, (∃ (ws : List V) (t : List Item) (u6 u7 u8 u9 u10 : Option V), σ = [some (.ref pot), some (.int (R : Int)), some (.int (L : Int)), some (.int (n : Int)), some (.bl up), some (.ref tl), u6, u7, u8, u9, u10] ∧ SB (PG2 pot g) H H1 ∧ PotAt H1 pot g s ∧ H1 tl = some (.lst ws) ∧ NKs K H1 (t.map itemK) ws ∧ t.length = i + 1 ∧ (∀ x ∈ t, ItemOk R L n x) ∧ (up = true → ∀ m, m < t.length → upI L id m (itemAt t m))) → D'.nx σ H1) →
        ∀ (u9 u10 : Option V) (z : V) (it : Item) (H5 : Hp), SB (PG2 pot g) H4 H5 → PotAt H5 pot g s → NK K H5 (itemK it) z → ItemOk R L n it → (up = true → upI L id i it) →
          ∃ l xs y, V.ref tl = .ref l ∧ [z] = [y] ∧ H5 l = some (.lst xs) ∧ xs.length < sizeLine ∧ D'.nx [some (.ref pot), some (.int (R : Int)), some (.int (L : Int)), some (.int (n : Int)), some (.bl up), some (.ref tl), some (.int (i : Int)), some (.int (kd : Int)), some (.ref D), u9, u10] (upd H5 l (.lst (xs ++ [y]))) := by
      intro D' hD' u9 u10 z it H5 sb5 hpo5 hz hio hiu
      have htl5 := sb5.out _ _ nt2 htl4
      refine ⟨tl, ws, z, rfl, rfl, htl5, Nat.lt_of_le_of_lt (m := 16) (by omega) (by decide), hD' _ _ ?_⟩
      have tm : Tk H5 (upd H5 tl (.lst (ws ++ [z]))) := Tk.mut htl5 True.intro
      refine ⟨ws ++ [z], t ++ [it], _, _, _, _, _, rfl, (sbB.trans sb5).fresh ntl, hpo5.upd frt, upd_same, ?_, by simp [hti], ?_, ?_⟩
      · rw [List.map_append]
        exact NKs.append (NKs.tk (Tk.trans sb5.tk tm) _ _ htw4) (.cons (NK.tk tm _ _ hz) .nil)
      · intro y hy
        rcases List.mem_append.mp hy with h | h
        · exact hok y h
        · simp at h
          subst h
          exact hio
      · intro hu m hm
        by_cases e : m < t.length
        · rw [itemAt_app e]
          exact hup hu m e
        · have : m = t.length := by simp at hm; omega
          subst this
          rw [itemAt_new, hti]
          exact hiu hu
    have stop : ∀ (D' : Ends), (∀ σ H1, (∃ (ws : List V) (t : List Item) (u6 u7 u8 u9 u10 : Option V), σ = [some (.ref pot), some (.int (R : Int)), some (.int (L : Int)), some (.int (n : Int)), some (.bl up), some (.ref tl), u6, u7, u8, u9, u10] ∧ SB (PG2 pot g) H H1 ∧ PotAt H1 pot g s ∧ H1 tl = some (.lst ws) ∧ NKs K H1 (t.map itemK) ws ∧ t.length = i + 1 ∧ (∀ x ∈ t, ItemOk R L n x) ∧ (up = true → ∀ m, m < t.length → upI L id m (itemAt t m))) → D'.nx σ H1) →
        tDrop (tBM K "list" rAppend (tVar 5) (tCons (tTup (tCons (tC (.str "stop")) tNil)) tNil)) D' [some (.ref pot), some (.int (R : Int)), some (.int (L : Int)), some (.int (n : Int)), some (.bl up), some (.ref tl), some (.int (i : Int)), some (.int (kd : Int)), some (.ref D), some (.int (lat : Int)), u10] H4 := by
      intro D' hD'
      refine ⟨_, rfl, .inl ⟨rfl, _, .inl (.inl htl4)⟩, sz 1 (by decide), fun t1 n1 => ?_⟩
      exact fin D' hD' _ _ (.ref t1) .stop _ ((SB.refl hpo4.nt).new n1) (hpo4.same (same_new n1)) (.tup (.inl (.inl upd_same)) (.cons (.text _) .nil)) True.intro (fun _ => True.intro)
    have rest : ∀ (D' : Ends), (∀ σ H1, (∃ (ws : List V) (t : List Item) (u6 u7 u8 u9 u10 : Option V), σ = [some (.ref pot), some (.int (R : Int)), some (.int (L : Int)), some (.int (n : Int)), some (.bl up), some (.ref tl), u6, u7, u8, u9, u10] ∧ SB (PG2 pot g) H H1 ∧ PotAt H1 pot g s ∧ H1 tl = some (.lst ws) ∧ NKs K H1 (t.map itemK) ws ∧ t.length = i + 1 ∧ (∀ x ∈ t, ItemOk R L n x) ∧ (up = true → ∀ m, m < t.length → upI L id m (itemAt t m))) → D'.nx σ H1) → (up = true → i < lat) →
        tIfS (tTest (tOp (rI0 fun i j => V.bl (decide (i > j))) (tVar 7) (tC (.int 6))))
          (tDrop (tBM K "list" rAppend (tVar 5) (tCons (tTup (tCons (tC (.str "say")) (tCons (tOp (rIxT K) (tTup (tCons (tC (.str "x")) (tCons (tC (.str "yes")) (tCons (tC (.str "words")) tNil)))) (tCall sp_law_draw [] C8.E0 (tCons (tVar 0) (tCons (tC (.int 3)) tNil)))) (tCons (tVar 9) tNil)))) tNil)))
          (tDrop (tBM K "list" rAppend (tVar 5) (tCons (tTup (tCons (tC (.str "look")) (tCons (tCall sp_law_draw [] C8.E0 (tCons (tVar 0) (tCons (tVar 1) tNil))) (tCons (tCB (rTupOf K) (tCons (tOp rCat (tSl (rSlL K) (tVar 8) tNoPart (tPart (tUn (rU fun i => V.int (-i)) (tC (.int 1))))) (tLst (tCons (tVar 9) tNil))) tNil)) tNil)))) tNil)))
          D' [some (.ref pot), some (.int (R : Int)), some (.int (L : Int)), some (.int (n : Int)), some (.bl up), some (.ref tl), some (.int (i : Int)), some (.int (kd : Int)), some (.ref D), some (.int (lat : Int)), u10] H4 := by
      intro D' hD' hul
      refine ⟨_, rfl, _, _, rfl, rfl, _, rfl, iteAny ?_ ?_⟩
      · refine ⟨_, rfl, .inl ⟨rfl, _, .inl (.inl htl4)⟩, sz 3 (by decide), fun t1 n1 => ?_⟩
        have s1 := same_new (o := .tup [.str "x", .str "yes", .str "words"]) n1
        refine ⟨_, rfl, pot, g, s, 3, rfl, hpo4.same s1, by decide, by decide, fun r H5 hr5 hpo5 sb5 => ?_⟩
        have sb45 : SB (PG2 pot g) H4 H5 := SB.pre s1 sb5 hpo4.nt
        have ht1 : SqT K H5 t1 [.str "x", .str "yes", .str "words"] := sb5.tk.sqt (.inl (.inl upd_same))
        refine ⟨_, _, _, _, rfl, rfl, ht1, word_at r hr5, _, rfl, sz 3 (by decide), fun t2 n2 => ?_⟩
        exact fin D' hD' _ _ (.ref t2) (.say r lat) _ (sb45.new n2) (hpo5.same (same_new n2)) (three_mk (.inl (.inl upd_same)) (.text _) (.text _) (.num _)) ⟨hr5, hlat⟩ hul
      · refine ⟨_, rfl, .inl ⟨rfl, _, .inl (.inl htl4)⟩, _, rfl, _, rfl, pot, g, s, R, rfl, hpo4, hR1, by omega, fun r H5 hr5 hpo5 sb5 => ?_⟩
        have hD5 := sb5.out _ _ nD2 hD4
        refine ⟨_, rfl, _, rfl, _, rfl, D, vI ns, rfl, .inl (.inl hD5), fun p1 np1 => ?_⟩
        have hcut : cutV (vI ns) none (some (-1)) = vI (ns.take L) := by
          have e1 : HT.sIx (vI ns).length (vI ns).length (some (-1)) = L := by
            have e0 : HT.sIx (vI ns).length (vI ns).length (some (-1)) = ((-1 : Int) + ((vI ns).length : Int)).toNat := rfl
            rw [e0, vI_len]
            omega
          unfold cutV
          rw [e1, HT.sIx_none, List.drop_zero, Nat.sub_zero, vI_take]
        rw [hcut] at *
        have s1 := same_new (o := .lst (vI (ns.take L))) np1
        refine ⟨_, rfl, sz 1 (by decide), fun l2 nl2 => ?_⟩
        have s2 := same_new (o := .lst [.int (lat : Int)]) nl2
        refine ⟨p1, l2, vI (ns.take L), _, rfl, rfl, s2 _ _ upd_same, upd_same, by rw [vI_len, List.length_take]; exact sz _ (by simp; omega), fun p3 np3 => ?_⟩
        have s3 := same_new (o := .lst (vI (ns.take L) ++ [.int (lat : Int)])) np3
        refine ⟨p3, vI (ns.take L ++ [lat]), rfl, .inl (.inl (by rw [vI_snoc]; exact upd_same)), fun t4 n4 => ⟨sz 3 (by decide), fun t5 n5 => ?_⟩⟩
        have s4 := same_new (o := .tup (vI (ns.take L ++ [lat]))) n4
        have s5 := same_new (o := .tup [.str "look", .int (r : Int), .ref t4]) n5
        have sA := Same.trans s1 (Same.trans s2 (Same.trans s3 (Same.trans s4 s5)))
        have htk : (ns.take L).length = L := by rw [List.length_take]; omega
        refine fin D' hD' _ _ (.ref t5) (.look r (ns.take L ++ [lat])) _ (sb5.same sA) (hpo5.same sA) (three_mk (.inl (.inl upd_same)) (.text _) (.num _) (nums_mk (.inl (.inl (s5 _ _ upd_same))))) ⟨hr5, by simp [htk], fun y hy => ?_⟩ fun hu => ?_
        · rcases List.mem_append.mp hy with h | h
          · exact hns y (List.mem_of_mem_take h)
          · simp at h
            subst h
            exact hlat
        · show id i < id ((ns.take L ++ [lat]).getD L 0)
          have : (ns.take L ++ [lat]).getD L 0 = lat := by
            rw [List.getD_eq_getElem?_getD, List.getElem?_append_right (by omega), htk]
            simp
          rw [this]
          exact hul hu
    refine ⟨_, rfl, rfl, _, congrArg V.bl (int_beq kd 9), ?_⟩
    by_cases hk9 : kd = 9
    · rw [beq_iff_eq.mpr hk9]
      exact iteT (iteT (stop _ (fun _ _ h => h)))
    · rw [beq_eq_false_iff_ne.mpr hk9]
      refine iteF ?_
      cases hu : up with
      | false =>
        subst hu
        exact ⟨_, rfl, false, rfl, iteF (iteF (rest _ (fun _ _ h => h) (by simp)))⟩
      | true =>
        subst hu
        refine ⟨_, rfl, true, rfl, iteT ⟨_, rfl, _, _, rfl, rfl, _, rfl, rfl, _, congrArg V.bl (show decide (V.int ((i : Int) + 1) = V.int (n : Int)) = (i + 1 == n) from int_beq (i + 1) n), ?_⟩⟩
        by_cases hin : i + 1 = n
        · rw [beq_iff_eq.mpr hin]
          exact iteT (stop _ (fun _ _ h => h))
        · rw [beq_eq_false_iff_ne.mpr hin]
          exact iteF (rest _ (fun _ _ h => h) fun _ => hlatu rfl (by omega))
  · rintro σ H1 ⟨ws, t, u6, u7, u8, u9, u10, rfl, sb, hpo, htl, htw, hti, hok, hup⟩
    have hn2 : (n : Int).toNat = n := by omega
    rw [hn2] at hti
    exact ⟨_, rfl, q tl ws t H1 hti hok (fun hu m hm => hup hu m hm) ntl htl htw hpo sb⟩
end
end G6

-- G6F_An
namespace G6
open PySem PySem.Spec PyProof.Rows L2
section
variable {P : Program} {w : World} {K : PySem.W.Frag} {mg : Str → Option Value} {base : Heap}
/-! ### the ways -/
def WayV (K : PySem.W.Frag) (H : Hp) (ms : List Nd) (j : Nat) (v : V) : Prop := (j = 0 ∧ v = .non) ∨ (∃ i n T na sv, i < j ∧ ms[i]? = some n ∧ v = .ref T ∧ SqT K H T [.ref na, sv] ∧ NK K H (nodeK n) (.ref na))
def Ways (K : PySem.W.Frag) (H : Hp) (ms : List Nd) (kvs : List (Nd × V)) : Prop := ∀ j q, kvs[j]? = some q → WayV K H ms j q.2
theorem Ways.tk {H H' : Hp} {ms : List Nd} {kvs : List (Nd × V)} (t : Tk H H') (h : Ways K H ms kvs) : Ways K H' ms kvs := fun j q hq => (h j q hq).imp id fun ⟨i, n, T, na, sv, h1, h2, h3, h4, h5⟩ => ⟨i, n, T, na, sv, h1, h2, h3, t.sqt h4, NK.tk t _ _ h5⟩
theorem Ways.put {H : Hp} {ms : List Nd} {kvs : List (Nd × V)} {n m : Nd} {i : Nat} {T na : Addr} {sv : V} (h : Ways K H ms kvs) (hk : kvs.map (·.1) = ms) (hm : m ∉ ms) (hn : ms[i]? = some n) (h1 : SqT K H T [.ref na, sv]) (h2 : NK K H (nodeK n) (.ref na)) :
    Ways K H (ms ++ [m]) (putK kvs m (.ref T)) ∧ (putK kvs m (V.ref T)).map (·.1) = ms ++ [m] := by
  have hl : kvs.length = ms.length := by rw [← hk, List.length_map]
  have hil := (List.getElem?_eq_some_iff.mp hn).1
  have e : putK kvs m (V.ref T) = kvs ++ [(m, V.ref T)] := putK_new (V.ref T) (valV_none (by rw [hk]; exact hm))
  rw [e]
  refine ⟨fun j q hq => ?_, by rw [List.map_append, hk]; rfl⟩
  by_cases hj : j < kvs.length
  · rw [List.getElem?_append_left hj] at hq
    rcases h j q hq with z | ⟨i, n, T, na, sv, g1, g2, g3, g4, g5⟩
    · exact .inl z
    · exact .inr ⟨i, n, T, na, sv, g1, by rw [List.getElem?_append_left (List.getElem?_eq_some_iff.mp g2).1]; exact g2, g3, g4, g5⟩
  · have hj2 : j = kvs.length := by
      have := (List.getElem?_eq_some_iff.mp hq).1
      simp at this
      omega
    subst hj2
    simp at hq
    subst hq
    exact .inr ⟨i, n, T, na, sv, by omega, by rw [List.getElem?_append_left hil]; exact hn, rfl, h1, h2⟩
theorem node_inv {H : Hp} {n : Nd} {v : V} (h : NK K H (nodeK n) v) : ∃ a b, v = .ref a ∧ SqT K H a [.ref b, .int (n.2 : Int)] ∧ NK K H (phK n.1) (.ref b) := by
  obtain ⟨a, u, z, rfl, h1, h2, h3⟩ := two_inv h
  have := num_inv h3
  subst this
  obtain ⟨b, e, rfl, _, _⟩ := ph_inv h2
  exact ⟨a, b, rfl, h1, h2⟩
/-- an entry by its key -/
theorem val_at {κ : Type} [DecidableEq κ] {kvs : List (κ × V)} {ms : List κ} (hk : kvs.map (·.1) = ms) (hn : ms.Nodup) {j : Nat} {n : κ} (hj : ms[j]? = some n) : ∃ v, valV kvs n = some v ∧ kvs[j]? = some (n, v) := by
  obtain ⟨v, e, m⟩ := valV_of_mem (kvs := kvs) (k := n) (by rw [hk]; exact List.mem_of_getElem? hj)
  refine ⟨v, e, ?_⟩
  obtain ⟨i, hi⟩ := List.mem_iff_getElem?.mp m
  have hmi : ms[i]? = some n := by rw [← hk, List.getElem?_map, hi]; rfl
  have : i = j := by
    obtain ⟨a1, a2⟩ := List.getElem?_eq_some_iff.mp hmi
    obtain ⟨b1, b2⟩ := List.getElem?_eq_some_iff.mp hj
    have hp := List.pairwise_iff_getElem.mp hn
    rcases Nat.lt_trichotomy i j with h | h | h
    · exact absurd (a2.trans b2.symm) (hp i j a1 b1 h)
    · exact h
    · exact absurd (b2.trans a2.symm) (hp j i b1 a1 h)
  subst this
  exact hi
abbrev N_way_back : List Str := ["ways", "node", "found", "before", "sign"]
theorem sc_way_back : FnScope N_way_back ["ways", "node"] (defScope s_way_back) := ⟨rfl, rfl, rfl, by decide +kernel, rfl, by decide +kernel, by decide +kernel⟩
def sp_way_back (P : Program) (w : World) (K : PySem.W.Frag) : Sp := fun vs H Q _ => ∃ (d b : Addr) (kvs : List (Nd × V)) (ms : List Nd) (j : Nat) (n : Nd), vs = [.ref d, .ref b] ∧ NDr P w K H EN d kvs ∧ kvs.map (·.1) = ms ∧ ms.Nodup ∧ Ways K H ms kvs ∧ ms[j]? = some n ∧ NK K H (nodeK n) (.ref b) ∧ ms.length ≤ 5000 ∧
  ∀ l us H', Same H H' → H l = none → H' l = some (.lst us) → us.length ≤ 5000 → Q (.ref l) H'
theorem f_way_back (c : Cn K mg) : C8.Cal P w K mg base 1 "way_back" (sp_way_back P w K) [] := by
  refine cal_of (N := N_way_back) c.g_way_back c.d_way_back sc_way_back (fun _ _ _ _ _ _ us hl => match us, hl with | [_, _], _ => rfl) (fun vs H Q E h => ?len) (fun cdv A outer s H vs Q E hr h => ?_)
  case len => obtain ⟨d, b, kvs, ms, j, n, rfl, _⟩ := h; rfl
  obtain ⟨d, b, kvs, ms, j, n, rfl, hd, hk, hn, hw, hj, hb, hl, q⟩ := h
  refine ⟨_, (pss_cons (ps_set (i := 2) sc_way_back.nd rfl (Or.inl rfl) (pe_lst pa_nil))
      (pss_cons (ps_while PassesOwn.never (pt_cmp (pc_notN (knget P w K EN hr (pv 0) (pv 1)))) (pss_cons (ps_asg (knget P w K EN hr (pv 0) (pv 1)) (kpg_tup K (pgs_cons (pg_name (i := 3) sc_way_back.nd rfl (Or.inl rfl)) (pgs_cons (pg_name (i := 4) sc_way_back.nd rfl (Or.inl rfl)) pgs_nil))))
      (pss_cons (ps_expr (kbm K PySem.F.slot_list_append PySem.F.type_list_append mt_append (pv 2) (pa_cons (pe_tup (pa_cons (kixT K (pv 3) pe_int) (pa_cons (pv 4) (pa_cons (kixT K (pv 1) pe_int) pa_nil)))) pa_nil)))
      (pss_one (ps_set (i := 1) sc_way_back.nd rfl (Or.inl rfl) (pv 3))))))
      (pss_one (ps_ret (krev K (pv 2)))))), ?_⟩
  have hjl := (List.getElem?_eq_some_iff.mp hj).1
  refine ⟨sz 0 (by decide), fun fl nfl => ?_⟩
  refine ⟨fun m σ H1 => ∃ (b : Addr) (n : Nd) (us : List V) (u3 u4 : Option V), σ = [some (.ref d), some (.ref b), some (.ref fl), u3, u4] ∧ Same H H1 ∧ H1 fl = some (.lst us) ∧ us.length + m ≤ 5000 ∧ ms[m]? = some n ∧ NK K H1 (nodeK n) (.ref b),
    ⟨j, b, n, [], _, _, rfl, same_new nfl, upd_same, by simp; omega, hj, NK.tk (Tk.new nfl) _ _ hb⟩, ?_⟩
  rintro m σ H1 ⟨b, n, us, u3, u4, rfl, sm, hfl, hus, hm, hb⟩
  obtain ⟨v, hv, hkv⟩ := val_at hk hn hm
  have hd1 := hd.same sm
  refine ⟨_, rfl, _, rfl, d, b, kvs, n, v, rfl, rfl, hd1, hb, hv, ?_⟩
  rcases hw m _ hkv with ⟨rfl, e⟩ | ⟨i, n', T, na, sv, hi, hn', e, hT, hna⟩
  · have e : v = .non := e
    subst e
    refine ⟨false, rfl, iteF ?_⟩
    refine ⟨_, rfl, fl, us, rfl, .inl (.inl hfl), fun l nl => ?_⟩
    exact q l us.reverse _ (Same.trans sm (same_new nl)) (Same.free sm nl) upd_same (by rw [List.length_reverse]; omega)
  · have e : v = .ref T := e
    subst e
    refine ⟨true, rfl, iteT ⟨fun σ' H' => ∃ m', m' < m ∧ _, fun σ' H' h => h, ?_⟩⟩
    have hT1 := sqT sm hT
    have hna1 := NK.tk (Tk.same sm) _ _ hna
    obtain ⟨nb, nph, enb, hnb, hnph⟩ := node_inv hna1
    cases enb
    obtain ⟨bb, bph, ebb, hbb, hbph⟩ := node_inv hb
    cases ebb
    refine ⟨_, rfl, _, rfl, d, b, kvs, n, _, rfl, rfl, hd1, hb, hv, T, _, rfl, hT1, rfl, _, _, rfl, _, _, rfl, rfl, ?_⟩
    refine ⟨_, rfl, .inl ⟨rfl, _, .inl (.inl hfl)⟩, _, rfl, _, _, _, _, rfl, rfl, hnb, rfl, _, rfl, _, rfl, _, _, _, _, rfl, rfl, hbb, rfl, sz 3 (by decide), fun t1 n1 => ?_⟩
    have s1 := same_new (o := .tup [.ref nph, sv, .ref bph]) n1
    refine ⟨fl, us, _, rfl, rfl, s1 _ _ hfl, Nat.lt_of_le_of_lt (m := 5000) (by omega) (by decide), ?_⟩
    refine ⟨_, rfl, i, hi, na, n', us ++ [.ref t1], _, _, rfl, Same.mut (Same.trans sm s1) nfl, upd_same, by simp; omega, hn', ?_⟩
    exact NK.tk (Tk.trans (Tk.same s1) (Tk.mut (s1 _ _ hfl) True.intro)) _ _ hna1
end
end G6

-- G6F_Ao
namespace G6
open PySem PySem.Spec PyProof.Rows L2
theorem adv_nil {L : Nat} {t : List Item} {a b : Nat} {n : Nd} (h : steps L t n.1 = []) : adv t a b n = n.2 := by
  unfold adv isLook
  unfold steps at h
  generalize itemAt t n.1.1 = x at h
  cases x with
  | look r ns =>
    by_cases hin : r ∈ n.1.2
    · rw [stepsI_in hin] at h; simp at h
    · rw [stepsI_out hin] at h; simp at h
  | say w m => simp [stepsI] at h
  | stop => simp [isLookI]
/-- a step's sign is None just where the look is at an ended row -/
theorem step_look {L : Nat} {t : List Item} {p : Ph} {x : Sg × Ph} {r : Nat} {ns : List Nat} (h : x ∈ steps L t p) (e : itemAt t p.1 = .look r ns) : x.1 = .one ↔ r ∈ p.2 := by
  unfold steps at h
  rw [e] at h
  by_cases hin : r ∈ p.2
  · rw [stepsI_in hin] at h
    simp at h
    rw [h]
    simp [hin]
  · rw [stepsI_out hin] at h
    simp [hin]
    rcases List.mem_append.mp h with z | z
    · obtain ⟨k, _, rfl⟩ := List.mem_map.mp z
      simp
    · simp at z
      rw [z]
      simp
theorem trn_at (a b m : Nat) (h : m < 4) : atI [V.int (a : Int), .int (b : Int), .int (a : Int), .int (b : Int)] (m : Int) = some (.int ((trn a b m : Nat) : Int)) := by
  have : m = 0 ∨ m = 1 ∨ m = 2 ∨ m = 3 := by omega
  rcases this with rfl | rfl | rfl | rfl <;> rfl
section
variable {P : Program} {w : World} {K : PySem.W.Frag} {mg : Str → Option Value} {base : Heap}
abbrev N_way_across : List Str := ["plan", "first", "second", "turns", "ways", "front", "fresh", "node", "phase", "many", "sign", "there", "event", "met", "later"]
theorem sc_way_across : FnScope N_way_across ["plan", "first", "second"] (defScope s_way_across) := ⟨rfl, rfl, rfl, by decide +kernel, rfl, by decide +kernel, by decide +kernel⟩
def sp_way_across (P : Program) (w : World) (K : PySem.W.Frag) : Sp := fun vs H Q _ => ∃ (x : Addr) (a b : Nat) (t : List Item) (R L : Nat) (ks : List Ph), vs = [.ref x, .int (a : Int), .int (b : Int)] ∧ PlanAt P w K H x R L t ks ∧ WF R L t ∧
  ∀ v H', Same H H' → ((v = .non ∧ ¬ Acr L t a b) ∨ (∃ l, v = .ref l ∧ Acr L t a b)) → Q v H'
theorem f_way_across (c : Cn K mg) : C8.Cal P w K mg base 2 "way_across" (sp_way_across P w K) [] := by
  have h_event_of := f_event_of (P := P) (w := w) (base := base) c
  have h_way_back := f_way_back (P := P) (w := w) (base := base) c
  refine cal_of (N := N_way_across) c.g_way_across c.d_way_across sc_way_across (fun _ _ _ _ _ _ us hl => match us, hl with | [_, _, _], _ => rfl) (fun vs H Q E h => ?len) (fun cdv A outer s H vs Q E hr h => ?_)
  case len => obtain ⟨x, a, b, t, R, L, ks, rfl, _⟩ := h; rfl
  obtain ⟨x, a, b, t, R, L, ks, rfl, pl, wf, q⟩ := h
  refine ⟨_, (pss_cons (ps_set (i := 3) sc_way_across.nd rfl (Or.inl rfl) (pe_tup (pa_cons (pv 1) (pa_cons (pv 2) (pa_cons (pv 1) (pa_cons (pv 2) pa_nil))))))
      (pss_cons (ps_set (i := 4) sc_way_across.nd rfl (Or.inl rfl) (kndisp P w K EN hr (pe_tup (pa_cons (pe_glob (v := .ref (He.ga K "FIRST_PHASE")) (by rfl) c.gFirst rfl) (pa_cons pe_int pa_nil))) pe_non))
      (pss_cons (ps_set (i := 5) sc_way_across.nd rfl (Or.inl rfl) (pe_lst (pa_cons (pe_tup (pa_cons (pe_glob (v := .ref (He.ga K "FIRST_PHASE")) (by rfl) c.gFirst rfl) (pa_cons pe_int pa_nil))) pa_nil)))
      (pss_cons (ps_while PassesOwn.never (pt_cmpR op_gt (pe_callB (r := rLenA K) (kc_len K) (by rfl) c.z_len (by decide +kernel) (pa_cons (pv 5) pa_nil)) pe_int (nomark _)) (pss_cons (ps_set (i := 6) sc_way_across.nd rfl (Or.inl rfl) (pe_lst pa_nil))
      (pss_cons (ps_for PassesOwn.never rfl (kpi_list K (pv 5)) (pg_name (i := 7) sc_way_across.nd rfl (Or.inl rfl)) (pss_cons (ps_asg (pv 7) (kpg_tup K (pgs_cons (pg_name (i := 8) sc_way_across.nd rfl (Or.inl rfl)) (pgs_cons (pg_name (i := 9) sc_way_across.nd rfl (Or.inl rfl)) pgs_nil))))
      (pss_one (ps_for PassesOwn.never rfl (kpi_list K (knget P w K EP hr (kfld K (pv 0)) (pv 8))) (kpg_tup K (pgs_cons (pg_name (i := 10) sc_way_across.nd rfl (Or.inl rfl)) (pgs_cons (pg_name (i := 11) sc_way_across.nd rfl (Or.inl rfl)) pgs_nil))) (pss_cons (ps_set (i := 12) sc_way_across.nd rfl (Or.inl rfl) (C8.pe_c h_event_of hr (by decide) (by rfl) (pa_cons (pv 0) (pa_cons (pv 8) (pa_cons (pv 10) pa_nil)))))
      (pss_cons (ps_set (i := 13) sc_way_across.nd rfl (Or.inl rfl) (pe_and (pe_cmp (pc_notN (pv 12))) (pe_and (pe_cmpR op_eq (kixT K (pv 12) pe_int) pe_str (nomark _)) (pe_one (pe_cmpR op_eq (kixT K (pv 12) pe_int) (kixT K (pv 3) (pv 9)) (nomark _))))))
      (pss_cons (ps_set (i := 14) sc_way_across.nd rfl (Or.inl rfl) (pe_tup (pa_cons (pv 11) (pa_cons (pe_op op_add (pv 9) (pe_callTy (r := rInt1) kc_int (by rfl) c.z_int (by decide +kernel) (pa_cons (pv 13) pa_nil))) pa_nil))))
      (pss_cons (ps_if (pt_cmpR op_eq (kixT K (pv 14) pe_int) pe_int (nomark _)) (pss_one (ps_ret (pe_op op_cat (C8.pe_c h_way_back hr (by decide) (by rfl) (pa_cons (pv 4) (pa_cons (pv 7) pa_nil))) (pe_lst (pa_cons (pe_tup (pa_cons (pv 8) (pa_cons (pv 10) (pa_cons (pv 11) pa_nil)))) pa_nil))))) pss_nil)
      (pss_one (ps_if (pt_cmp (knnotin P w K EN hr (pv 14) (pv 4))) (pss_cons (knput P w K EN hr (pv 4) (pv 14) (pe_tup (pa_cons (pv 7) (pa_cons (pv 10) pa_nil))))
      (pss_one (ps_expr (kbm K PySem.F.slot_list_append PySem.F.type_list_append mt_append (pv 6) (pa_cons (pv 14) pa_nil))))) pss_nil))))))))))
      (pss_one (ps_set (i := 5) sc_way_across.nd rfl (Or.inl rfl) (pv 6))))))
      (pss_one (ps_ret pe_non)))))), ?_⟩
  have pl0 := pl
  obtain ⟨dx, ta, dk, ws, hx, hta, htw, km, all⟩ := pl0
  have hlen : ks.length ≤ 1024 := Nat.le_trans (all.len wf) wf.univ_le
  refine ⟨_, rfl, _, rfl, _, rfl, _, rfl, sz 4 (by decide), fun tt ntt => ?_⟩
  have sA := same_new (o := .tup [.int (a : Int), .int (b : Int), .int (a : Int), .int (b : Int)]) ntt
  have htt0 : SqT K (upd H tt (.tup [.int (a : Int), .int (b : Int), .int (a : Int), .int (b : Int)])) tt [.int (a : Int), .int (b : Int), .int (a : Int), .int (b : Int)] := .inl (.inl upd_same)
  generalize upd H tt (.tup [.int (a : Int), .int (b : Int), .int (a : Int), .int (b : Int)]) = Ha at *
  intro d nd hsys
  have Hd : H d = none := Same.free sA nd
  refine ⟨sz 2 (by decide), fun t1 n1 => ?_⟩
  have t1d : d ≠ t1 := fun e => by subst e; rw [upd_same] at n1; cases n1
  have sB := Same.trans (same_new (o := NDo P w d []) nd) (same_new (o := .tup [.ref (He.ga K "FIRST_PHASE"), .int 0]) n1)
  refine ⟨by rw [upd_ne t1d]; exact upd_same, t1, ((0, []), 0), rfl, .tup (.inl (.inl upd_same)) (.cons (c.first _) (.cons (.num 0) .nil)), fun o hno => ?_⟩
  have sC : Same H (upd (upd (upd Ha d (NDo P w d [])) t1 (.tup [.ref (He.ga K "FIRST_PHASE"), .int 0])) d o) := Same.mut (Same.trans sA sB) Hd
  have htt1 : SqT K (upd (upd (upd Ha d (NDo P w d [])) t1 (.tup [.ref (He.ga K "FIRST_PHASE"), .int 0])) d o) tt [.int (a : Int), .int (b : Int), .int (a : Int), .int (b : Int)] :=
    (Tk.upd (by rw [upd_ne t1d, upd_same]; exact True.intro)).sqt (sqT sB htt0)
  generalize upd (upd (upd Ha d (NDo P w d [])) t1 (.tup [.ref (He.ga K "FIRST_PHASE"), .int 0])) d o = Hb at *
  refine ⟨sz 2 (by decide), fun t2 n2 => ⟨sz 1 (by decide), fun F0 nF0 => ?_⟩⟩
  have sD := Same.trans (same_new (o := .tup [.ref (He.ga K "FIRST_PHASE"), .int 0]) n2) (same_new (o := .lst [.ref t2]) nF0)
  have HF0 : H F0 = none := Same.free sC (Same.free (same_new n2) nF0)
  refine ⟨fun m σ H1 => ∃ (kvs : List (Nd × V)) (ms : List Nd) (at' : Nat) (F : Addr) (fv : List V) (u6 u7 u8 u9 u10 u11 u12 u13 u14 : Option V),
    σ = [some (.ref x), some (.int (a : Int)), some (.int (b : Int)), some (.ref tt), some (.ref d), some (.ref F), u6, u7, u8, u9, u10, u11, u12, u13, u14] ∧ Same H H1 ∧ SqT K H1 tt [.int (a : Int), .int (b : Int), .int (a : Int), .int (b : Int)] ∧
    ND P w K H1 EN d kvs ∧ kvs.map (·.1) = ms ∧ Ways K H1 ms kvs ∧ H1 F = some (.lst fv) ∧ NKs K H1 ((ms.drop at').map nodeK) fv ∧ NQ L t a b ms at' ∧ at' ≤ ms.length ∧ H F = none ∧ m = 5000 - at',
    ⟨_, _, [((0, []), 0)], 0, F0, [.ref t2], _, _, _, _, _, _, _, _, _, rfl, Same.trans sC sD, sqT sD htt1, hno.same sD, rfl, ?_, upd_same, .cons (.tup (.inl (.inl (same_new nF0 _ _ upd_same))) (.cons (c.first _) (.cons (.num 0) .nil))) .nil, NQ.init L t a b, by simp, HF0, rfl⟩, ?_⟩
  · intro j z hz
    have : j = 0 := by
      have := (List.getElem?_eq_some_iff.mp hz).1
      simp at this
      exact this
    subst this
    simp at hz
    subst hz
    exact .inl ⟨rfl, rfl⟩
  rintro m σ H1 ⟨kvs, ms, at', F, fv, u6, u7, u8, u9, u10, u11, u12, u13, u14, rfl, sm, htt, hd, hks, hwy, hF, hfv, nq, hat, HF, hm⟩
  have hfl : fv.length = ms.length - at' := by have := hfv.length; simpa using this
  have hmsl := nq.len all
  refine ⟨_, rfl, _, _, rfl, .inl (.inl (.inl hF)), _, _, rfl, rfl, _, rfl, ?_⟩
  by_cases hemp : ms.length ≤ at'
  · rw [decide_eq_false (by omega)]
    exact iteF (q _ _ sm (.inl ⟨rfl, nq.done hemp⟩))
  · rw [decide_eq_true (by omega)]
    refine iteT ⟨fun σ' H' => ∃ m', m' < m ∧ _, fun σ' H' h => h, ?_⟩
    refine ⟨sz 0 (by decide), fun G nG => ?_⟩
    have HG : H G = none := Same.free sm nG
    have sG := same_new (o := .lst []) nG
    have FG : F ≠ G := fun e => by subst e; rw [hF] at nG; cases nG
    have dG : d ≠ G := fun e => by
      subst e
      obtain ⟨o, ho⟩ := hd.some
      rw [ho] at nG
      cases nG
    refine ⟨_, rfl, F, rfl, ⟨fv, .inl (.inl (sG _ _ hF))⟩, ?_⟩
    refine for_it (walk_list (xs := fv)) (fun i σ H2 => ∃ (kvs : List (Nd × V)) (r : List Nd) (gv : List V) (u7 u8 u9 u10 u11 u12 u13 u14 : Option V),
      σ = [some (.ref x), some (.int (a : Int)), some (.int (b : Int)), some (.ref tt), some (.ref d), some (.ref F), some (.ref G), u7, u8, u9, u10, u11, u12, u13, u14] ∧ Same H H2 ∧ SqT K H2 tt [.int (a : Int), .int (b : Int), .int (a : Int), .int (b : Int)] ∧
      ND P w K H2 EN d kvs ∧ kvs.map (·.1) = ms ++ r ∧ Ways K H2 (ms ++ r) kvs ∧ H2 F = some (.lst fv) ∧ NKs K H2 ((ms.drop at').map nodeK) fv ∧ H2 G = some (.lst gv) ∧ NKs K H2 (r.map nodeK) gv ∧ NQ L t a b (ms ++ r) (at' + i)) ?_ ?_ ?_ ?_
    · exact ⟨kvs, [], [], _, _, _, _, _, _, _, _, rfl, Same.trans sm sG, sqT sG htt, hd.same sG, by rw [List.append_nil]; exact hks, by rw [List.append_nil]; exact hwy.tk (Tk.same sG), sG _ _ hF, NKs.tk (Tk.same sG) _ _ hfv, upd_same, .nil, by rw [List.append_nil]; exact nq⟩
    · rintro i σ H2 _ ⟨_, _, _, _, _, _, _, _, _, _, _, _, _, _, _, _, _, h, _⟩
      exact .inl (.inl h)
    · rintro i v σ H2 H2' hi ⟨kv2, r, gv, u7, u8, u9, u10, u11, u12, u13, u14, rfl, sm2, htt2, hd2, hks2, hwy2, hF2, hfv2, hG2, hgv2, nq2⟩ ⟨e1, ex⟩
      subst e1
      obtain ⟨k, hk1, hk2⟩ := hfv2.getV ex
      rw [List.getElem?_map] at hk1
      obtain ⟨n, hn, rfl⟩ := Option.map_eq_some_iff.mp hk1
      rw [List.getElem?_drop] at hn
      have hn2 : (ms ++ r)[at' + i]? = some n := by rw [List.getElem?_append_left (List.getElem?_eq_some_iff.mp hn).1]; exact hn
      obtain ⟨na, nb, rfl, hna, hnb⟩ := node_inv hk2
      have nrn := nq2.rk n (List.mem_of_getElem? hn2)
      have okn := nrn.rch.ok wf
      have hin : n.1 ∈ ks := (all.mem _).mpr nrn.rch
      obtain ⟨kvp, l, us, hkd, hval, hl, hus⟩ := (km.r).get hin
      have hul : us.length = (steps L t n.1).length := by have := hus.length; simpa using this
      refine ⟨_, rfl, na, _, rfl, hna, rfl, _, _, rfl, _, _, rfl, rfl, ?_⟩
      refine ⟨_, rfl, x, _, _, _, _, rfl, sm2 _ _ hx, c.cPlan, c.nKept, rfl, _, rfl, dk, nb, kvp, n.1, _, rfl, rfl, hkd.same sm2, hnb, hval, l, rfl, ⟨us, .inl (.inl (sm2 _ _ hl))⟩, ?_⟩
      refine for_it (walk_list (xs := us)) (fun j σ H3 => ∃ (kvs : List (Nd × V)) (r' : List Nd) (gv : List V) (u10 u11 u12 u13 u14 : Option V),
        σ = [some (.ref x), some (.int (a : Int)), some (.int (b : Int)), some (.ref tt), some (.ref d), some (.ref F), some (.ref G), some (.ref na), some (.ref nb), some (.int (n.2 : Int)), u10, u11, u12, u13, u14] ∧ Same H H3 ∧ SqT K H3 tt [.int (a : Int), .int (b : Int), .int (a : Int), .int (b : Int)] ∧
        ND P w K H3 EN d kvs ∧ kvs.map (·.1) = ms ++ r' ∧ Ways K H3 (ms ++ r') kvs ∧ H3 F = some (.lst fv) ∧ NKs K H3 ((ms.drop at').map nodeK) fv ∧ H3 G = some (.lst gv) ∧ NKs K H3 (r'.map nodeK) gv ∧ NP L t a b (ms ++ r) (at' + i) n j (ms ++ r') ∧ NK K H3 (nodeK n) (.ref na) ∧ NK K H3 (phK n.1) (.ref nb) ∧ (0 < j → adv t a b n < 4)) ?_ ?_ ?_ ?_
      · exact ⟨kv2, r, gv, _, _, _, _, _, rfl, sm2, htt2, hd2, hks2, hwy2, hF2, hfv2, hG2, hgv2, NP.init nq2 n, hk2, hnb, by omega⟩
      · rintro j σ H3 _ ⟨_, _, _, _, _, _, _, _, _, s3, _⟩
        exact .inl (.inl (s3 _ _ hl))
      · rintro j v3 σ H3 H3' hj ⟨kv3, r3, gv3, u10, u11, u12, u13, u14, rfl, sm3, htt3, hd3, hks3, hwy3, hF3, hfv3, hG3, hgv3, np3, hna3, hnb3, _⟩ ⟨e1, ex⟩
        subst e1
        obtain ⟨k, hk1, hk3⟩ := (NKs.tk (Tk.same sm3) _ _ hus).getV ex
        rw [List.getElem?_map] at hk1
        obtain ⟨x0, hst, rfl⟩ := Option.map_eq_some_iff.mp hk1
        have hx0 : x0 ∈ steps L t n.1 := List.mem_of_getElem? hst
        obtain ⟨sa, u, z, rfl, h1, h2, h3⟩ := step_snd hk3
        refine ⟨sa, _, rfl, h1, rfl, _, _, rfl, _, _, rfl, rfl, ?_⟩
        refine ⟨_, rfl, _, rfl, _, rfl, x, _, u, t, R, L, ks, n.1, x0.1, rfl, pl.same sm3, hnb3, h2, okn.1, fun v4 H4 s4 hev => ?_⟩
        have met : ∀ (Qt : VK), Qt (.bl (isLook t n.1 (trn a b n.2))) H4 → tAndV (tNotN (tVar 12)) (tAndV (tOp rEq (tOp (rIxT K) (tVar 12) (tC (.int 0))) (tC (.str "look"))) (tOp rEq (tOp (rIxT K) (tVar 12) (tC (.int 1))) (tOp (rIxT K) (tVar 3) (tVar 9))))
            [some (.ref x), some (.int (a : Int)), some (.int (b : Int)), some (.ref tt), some (.ref d), some (.ref F), some (.ref G), some (.ref na), some (.ref nb), some (.int (n.2 : Int)), some u, some z, some v4, u13, u14] H4 Qt := by
          intro Qt hq
          have htt4 := sqT s4 htt3
          unfold isLook at hq
          have hsl := fun r ns => step_look (r := r) (ns := ns) hx0
          generalize itemAt t n.1.1 = it at hev hq hsl
          generalize x0.1 = sg at hev hsl
          cases it with
          | look rr ns =>
            have hone := hsl rr ns rfl
            have lk : ∀ y, NK K H4 (.tup [.text "look", num rr, y]) v4 → ¬ rr ∈ n.1.2 → tAndV (tNotN (tVar 12)) (tAndV (tOp rEq (tOp (rIxT K) (tVar 12) (tC (.int 0))) (tC (.str "look"))) (tOp rEq (tOp (rIxT K) (tVar 12) (tC (.int 1))) (tOp (rIxT K) (tVar 3) (tVar 9))))
                [some (.ref x), some (.int (a : Int)), some (.int (b : Int)), some (.ref tt), some (.ref d), some (.ref F), some (.ref G), some (.ref na), some (.ref nb), some (.int (n.2 : Int)), some u, some z, some v4, u13, u14] H4 Qt := by
              intro y hy hni
              obtain ⟨e, w1, w2, w3, rfl, he, hw1, hw2, hw3⟩ := three_inv hy
              have := text_inv hw1
              subst this
              have := num_inv hw2
              subst this
              refine ⟨_, rfl, true, rfl, iteT ⟨_, rfl, _, _, _, _, rfl, rfl, he, rfl, rfl, true, rfl, iteT ⟨_, rfl, _, _, _, _, rfl, rfl, he, rfl, _, rfl, _, rfl, _, _, _, _, rfl, rfl, htt4, trn_at a b n.2 nrn.lt, rfl, ?_⟩⟩⟩
              have e0 : isLookI n.1.2 (trn a b n.2) (.look rr ns) = decide (rr = trn a b n.2) := by simp [isLookI, hni]
              rw [e0] at hq
              have e1 : decide (V.int (rr : Int) = V.int ((trn a b n.2 : Nat) : Int)) = decide (rr = trn a b n.2) := by
                by_cases h : rr = trn a b n.2
                · rw [decide_eq_true h, h]; simp
                · rw [decide_eq_false h]
                  exact decide_eq_false fun e => h (by injection e with e; omega)
              rw [e1]
              exact hq
            cases sg with
            | one =>
              have : v4 = .non := by cases hev; rfl
              subst this
              have : rr ∈ n.1.2 := hone.mp rfl
              have e0 : isLookI n.1.2 (trn a b n.2) (.look rr ns) = false := by simp [isLookI, this]
              rw [e0] at hq
              exact ⟨_, rfl, false, rfl, iteF hq⟩
            | lt k => exact lk _ hev fun h => by cases hone.mpr h
            | fin => exact lk _ hev fun h => by cases hone.mpr h
          | say mm kk =>
            obtain ⟨e, w1, w2, rfl, he, hw1, hw2⟩ := two_inv hev
            have := text_inv hw1
            subst this
            exact ⟨_, rfl, true, rfl, iteT ⟨_, rfl, _, _, _, _, rfl, rfl, he, rfl, rfl, false, rfl, iteF hq⟩⟩
          | stop =>
            obtain ⟨e, vs, rfl, he, hvs⟩ := hev.tupOf
            cases hvs with
            | cons w1 w2 =>
              cases w2
              have := text_inv w1
              subst this
              exact ⟨_, rfl, true, rfl, iteT ⟨_, rfl, _, _, _, _, rfl, rfl, he, rfl, rfl, false, rfl, iteF hq⟩⟩
        refine met _ ?_
        have eadv : ((n.2 : Int) + (if isLook t n.1 (trn a b n.2) = true then 1 else 0)) = ((adv t a b n : Nat) : Int) := by
          unfold adv
          cases isLook t n.1 (trn a b n.2) <;> simp [Bool.toNat]
        refine ⟨_, rfl, _, rfl, _, rfl, .inr ⟨_, rfl, _, _, rfl, rfl, sz 2 (by decide), fun t5 n5 => ?_⟩⟩
        dsimp only
        rw [eadv]
        have s5 := same_new (o := .tup [z, .int ((adv t a b n : Nat) : Int)]) n5
        have s45 := Same.trans s4 s5
        have hlat : NK K (upd H4 t5 (.tup [z, .int ((adv t a b n : Nat) : Int)])) (nodeK (x0.2, adv t a b n)) (.ref t5) := two_mk (.inl (.inl upd_same)) (NK.tk (Tk.same s45) _ _ h3) (.num _)
        have hl5 : SqT K (upd H4 t5 (.tup [z, .int ((adv t a b n : Nat) : Int)])) t5 [z, .int ((adv t a b n : Nat) : Int)] := .inl (.inl upd_same)
        generalize upd H4 t5 (.tup [z, .int ((adv t a b n : Nat) : Int)]) = H5 at *
        have sm5 := Same.trans sm3 s45
        have hd5 := hd3.same s45
        have hna5 := NK.tk (Tk.same s45) _ _ hna3
        have hnb5 := NK.tk (Tk.same s45) _ _ hnb3
        have hmsl3 := np3.lenK all
        have hn3 : (ms ++ r3)[at' + i]? = some n := by rw [List.getElem?_append_left (List.getElem?_eq_some_iff.mp hn).1]; exact hn
        by_cases h4 : adv t a b n = 4
        · refine ⟨_, rfl, _, _, _, _, rfl, rfl, hl5, rfl, rfl, true, congrArg V.bl (decide_eq_true (by rw [h4]; rfl)), iteT ?_⟩
          refine ⟨_, rfl, _, rfl, d, na, kv3, ms ++ r3, at' + i, n, rfl, hd5.r, hks3, np3.nd, hwy3.tk (Tk.same s45), hn3, hna5, by omega, fun l2 us2 H8 s8 nl2 hl2 hz2 => ?_⟩
          refine ⟨_, rfl, _, rfl, _, rfl, sz 3 (by decide), fun t6 n6 => ⟨sz 1 (by decide), fun l3 n7 => ?_⟩⟩
          have s67 := Same.trans (same_new (o := .tup [.ref nb, u, z]) n6) (same_new (o := .lst [.ref t6]) n7)
          refine ⟨l2, l3, us2, _, rfl, rfl, s67 _ _ hl2, upd_same, Nat.le_trans (m := 6000) (by simp; omega) (by decide), fun pp npp => ?_⟩
          exact q _ _ (Same.trans sm5 (Same.trans s8 (Same.trans s67 (same_new npp)))) (.inr ⟨pp, rfl, nq2.hit hn2 h4⟩)
        · have h4' : adv t a b n < 4 := by have := nrn.adv4; omega
          refine ⟨_, rfl, _, _, _, _, rfl, rfl, hl5, rfl, rfl, false, congrArg V.bl (decide_eq_false (fun e => h4 (by injection e with e; omega))), iteF ?_⟩
          refine ⟨_, rfl, _, rfl, d, t5, kv3, (x0.2, adv t a b n), rfl, rfl, hd5.r, hlat, _, rfl, ?_⟩
          have npa := np3.add nq2 hn2 h4' hst
          by_cases hin3 : (x0.2, adv t a b n) ∈ ms ++ r3
          · rw [isSome_in hks3 hin3]
            refine iteF ?_
            have e1 : addN (ms ++ r3) (x0.2, adv t a b n) = ms ++ r3 := if_pos hin3
            rw [e1] at npa
            exact ⟨kv3, r3, gv3, _, _, _, _, _, rfl, sm5, sqT s45 htt3, hd5, hks3, hwy3.tk (Tk.same s45), s45 _ _ hF3, NKs.tk (Tk.same s45) _ _ hfv3, s45 _ _ hG3, NKs.tk (Tk.same s45) _ _ hgv3, npa, hna5, hnb5, fun _ => h4'⟩
          · rw [isSome_out hks3 hin3]
            refine iteT ?_
            have e1 : addN (ms ++ r3) (x0.2, adv t a b n) = ms ++ (r3 ++ [(x0.2, adv t a b n)]) := by rw [← List.append_assoc]; exact if_neg hin3
            rw [e1] at npa
            refine ⟨_, rfl, _, rfl, sz 2 (by decide), fun t6 n6 => ?_⟩
            have s6 := same_new (o := .tup [.ref na, u]) n6
            have ht6 : SqT K (upd H5 t6 (.tup [.ref na, u])) t6 [.ref na, u] := .inl (.inl upd_same)
            generalize upd H5 t6 (.tup [.ref na, u]) = H6 at *
            have s46 := Same.trans s45 s6
            have hd6 := hd5.same s6
            have hkl : kv3.length = (ms ++ r3).length := by rw [← hks3, List.length_map]
            refine ⟨_, rfl, _, rfl, d, t5, kv3, (x0.2, adv t a b n), rfl, rfl, hd6, NK.tk (Tk.same s6) _ _ hlat, by rw [hkl]; exact Nat.lt_of_le_of_lt (m := 5000) (by omega) (by decide), fun ob hno => ?_⟩
            have tk7 : Tk H6 (upd H6 d ob) := Tk.upd hd6.not
            have sm7 : Same H (upd H6 d ob) := Same.mut (Same.trans sm5 s6) Hd
            have dF : F ≠ d := fun e => by
              subst e
              exact hd3.nl _ hF3
            have hF7 : upd H6 d ob F = some (.lst fv) := by rw [upd_ne dF]; exact s46 _ _ hF3
            have hG7 : upd H6 d ob G = some (.lst gv3) := by rw [upd_ne (Ne.symm dG)]; exact s46 _ _ hG3
            have tk37 : Tk H3' (upd H6 d ob) := Tk.trans (Tk.same s46) tk7
            have hwp := (hwy3.tk tk37).put (n := n) (m := (x0.2, adv t a b n)) (i := at' + i) (T := t6) (na := na) (sv := u) hks3 hin3 hn3 (tk7.sqt ht6) (NK.tk tk37 _ _ hna3)
            rw [List.append_assoc] at hwp
            have hlat7 := NK.tk (Tk.trans (Tk.same s6) tk7) _ _ hlat
            have htt7 := tk37.sqt htt3
            have hfv7 := NKs.tk tk37 _ _ hfv3
            have hgv7 := NKs.tk tk37 _ _ hgv3
            have hna7 := NK.tk tk37 _ _ hna3
            have hnb7 := NK.tk tk37 _ _ hnb3
            generalize upd H6 d ob = H7 at *
            have hgl : gv3.length = r3.length := by have := hgv3.length; simpa using this
            refine ⟨_, rfl, .inl ⟨rfl, _, .inl (.inl hG7)⟩, _, rfl, G, gv3, _, rfl, rfl, hG7, by rw [hgl]; exact Nat.lt_of_le_of_lt (m := 5000) (by rw [List.length_append] at hmsl3; omega) (by decide), ?_⟩
            have tk8 : Tk H7 (upd H7 G (.lst (gv3 ++ [.ref t5]))) := Tk.mut hG7 True.intro
            refine ⟨_, r3 ++ [(x0.2, adv t a b n)], gv3 ++ [.ref t5], _, _, _, _, _, rfl, Same.mut sm7 HG, tk8.sqt htt7, hno.upd dG (by rw [hG7]; exact True.intro), hwp.2, hwp.1.tk tk8, by rw [upd_ne FG]; exact hF7, NKs.tk tk8 _ _ hfv7, upd_same, ?_, npa, NK.tk tk8 _ _ hna7, NK.tk tk8 _ _ hnb7, fun _ => h4'⟩
            rw [List.map_append]
            exact NKs.append (NKs.tk tk8 _ _ hgv7) (.cons (NK.tk tk8 _ _ hlat7) .nil)
      · rintro σ H3 ⟨kv3, r3, gv3, u10, u11, u12, u13, u14, rfl, sm3, htt3, hd3, hks3, hwy3, hF3, hfv3, hG3, hgv3, np3, hna3, hnb3, h04⟩
        rw [hul] at np3 h04
        have h4 : adv t a b n < 4 := by
          by_cases h0 : 0 < (steps L t n.1).length
          · exact h04 h0
          · have e0 : steps L t n.1 = [] := List.eq_nil_of_length_eq_zero (by omega)
            rw [adv_nil e0]
            exact nrn.lt
        exact ⟨kv3, r3, gv3, _, _, _, _, _, _, _, _, rfl, sm3, htt3, hd3, hks3, hwy3, hF3, hfv3, hG3, hgv3, np3.fin nq2 hn2 h4⟩
    · rintro σ H2 ⟨kv2, r, gv, u7, u8, u9, u10, u11, u12, u13, u14, rfl, sm2, htt2, hd2, hks2, hwy2, hF2, hfv2, hG2, hgv2, nq2⟩
      have e1 : at' + fv.length = ms.length := by omega
      rw [e1] at nq2
      refine ⟨_, rfl, _, ?_, kv2, ms ++ r, ms.length, G, gv, _, _, _, _, _, _, _, _, _, rfl, sm2, htt2, hd2, hks2, hwy2, hG2, by rw [List.drop_left']; exact hgv2; rfl, nq2, by simp, HG, rfl⟩
      omega
abbrev N_is_across : List Str := ["plan", "one", "other"]
theorem sc_is_across : FnScope N_is_across ["plan", "one", "other"] (defScope s_is_across) := ⟨rfl, rfl, rfl, by decide +kernel, rfl, by decide +kernel, by decide +kernel⟩
def sp_is_across (P : Program) (w : World) (K : PySem.W.Frag) : Sp := fun vs H Q _ => ∃ (x : Addr) (a b : Nat) (t : List Item) (R L : Nat) (ks : List Ph), vs = [.ref x, .int (a : Int), .int (b : Int)] ∧ PlanAt P w K H x R L t ks ∧ WF R L t ∧
  ∀ k H', Same H H' → (k = true ↔ Acr L t a b ∨ Acr L t b a) → Q (.bl k) H'
theorem f_is_across (c : Cn K mg) : C8.Cal P w K mg base 3 "is_across" (sp_is_across P w K) [] := by
  have h_way_across := f_way_across (P := P) (w := w) (base := base) c
  refine cal_of (N := N_is_across) c.g_is_across c.d_is_across sc_is_across (fun _ _ _ _ _ _ us hl => match us, hl with | [_, _, _], _ => rfl) (fun vs H Q E h => ?len) (fun cdv A outer s H vs Q E hr h => ?_)
  case len => obtain ⟨x, a, b, t, R, L, ks, rfl, _⟩ := h; rfl
  obtain ⟨x, a, b, t, R, L, ks, rfl, pl, wf, q⟩ := h
  refine ⟨_, (pss_one (ps_ret (pe_or (pe_cmp (pc_notN (C8.pe_c h_way_across hr (by decide) (by rfl) (pa_cons (pv 0) (pa_cons (pv 1) (pa_cons (pv 2) pa_nil)))))) (pe_one (pe_cmp (pc_notN (C8.pe_c h_way_across hr (by decide) (by rfl) (pa_cons (pv 0) (pa_cons (pv 2) (pa_cons (pv 1) pa_nil)))))))))), ?_⟩
  refine ⟨_, rfl, _, rfl, _, rfl, x, a, b, t, R, L, ks, rfl, pl, wf, fun v H1 s1 hv => ?_⟩
  rcases hv with ⟨rfl, h⟩ | ⟨l, rfl, h⟩
  · refine ⟨false, rfl, iteF ?_⟩
    refine ⟨_, rfl, _, rfl, _, rfl, x, b, a, t, R, L, ks, rfl, pl.same s1, wf, fun v H2 s2 hv => ?_⟩
    rcases hv with ⟨rfl, h2⟩ | ⟨l, rfl, h2⟩
    · exact q false _ (Same.trans s1 s2) (by simp [h, h2])
    · exact q true _ (Same.trans s1 s2) (by simp [h2])
  · exact ⟨true, rfl, iteT (q true _ s1 (by simp [h]))⟩
end
end G6

-- G6F_Av
namespace G6
open PySem PySem.Spec PyProof.Rows L2
theorem itr_none {L : Nat} {t : List Item} {p q : Ph} {n : Nat} (h : itr L t n p = some q) (hn : nxt L t q = none) {m : Nat} (hm : n ≤ m) : itr L t (m + 1) p ≠ some p := fun e => by
  obtain ⟨y, hy⟩ := itr_some e (i := n + 1) (by omega)
  have : itr L t (n + 1) p = (itr L t n p).bind (nxt L t) := rfl
  rw [this, h] at hy
  have hy : nxt L t q = some y := hy
  rw [hn] at hy
  cases hy
theorem steps_single {L : Nat} {t : List Item} {p : Ph} {x : Sg × Ph} (hL : 1 ≤ L) (h : steps L t p = [x]) : nxt L t p = some x.2 := by
  have e : nxt L t p = nxtS (steps L t p) := rfl
  rw [e, h]
  unfold steps at h
  cases hi : itemAt t p.1 with
  | look r ns =>
    rw [hi] at h
    by_cases hin : r ∈ p.2
    · rw [stepsI_in hin] at h
      cases h
      rfl
    · rw [stepsI_out hin] at h
      have := congrArg List.length h
      simp at this
      omega
  | say w m =>
    rw [hi] at h
    simp [stepsI] at h
    rw [← h]
    rfl
  | stop =>
    rw [hi] at h
    simp [stepsI] at h
theorem steps_many {L : Nat} {t : List Item} {p : Ph} (h : (steps L t p).length ≠ 1) : nxt L t p = none := by
  have e : nxt L t p = nxtS (steps L t p) := rfl
  rw [e]
  generalize steps L t p = l at h
  match l, h with
  | [], _ => rfl
  | [x], h => exact (h rfl).elim
  | (.one, _) :: _ :: _, _ => rfl
  | (.lt _, _) :: _ :: _, _ => rfl
  | (.fin, _) :: _ :: _, _ => rfl
theorem intK_phL (p : Ph) : intK (phK p) = true := by
  show (true && (intK (nums p.2) && true)) = true
  have : intK (nums p.2) = true := intKs_num p.2
  rw [this]
  rfl
theorem inV_nat (r : Nat) : ∀ l : List Nat, inV (.int (r : Int)) (vI l) = decide (r ∈ l)
  | [] => rfl
  | x :: l => by
    have ih := inV_nat r l
    unfold inV at ih ⊢
    show (eqV (.int (x : Int)) (.int (r : Int)) || (vI l).any fun y => eqV y (.int (r : Int))) = _
    rw [ih]
    have e : eqV (.int (x : Int)) (.int (r : Int)) = decide (x = r) := by
      by_cases h : x = r
      · subst h; simp [eqV]
      · rw [decide_eq_false h]
        simp [eqV]
        omega
    rw [e]
    by_cases h : x = r
    · subst h; simp
    · have h2 : ¬ r = x := fun z => h z.symm
      simp [h, h2]
theorem flat_vI : ∀ l : List Nat, (vI l).all flatV = true
  | [] => rfl
  | x :: l => by
    show (true && (vI l).all flatV) = true
    rw [flat_vI l]
    rfl
section
variable {P : Program} {w : World} {K : PySem.W.Frag} {mg : Str → Option Value} {base : Heap}
abbrev N_law_is_idle : List Str := ["_law_known", "_law_begin", "_law_phase", "_law_turn", "_law_line"]
theorem sc_law_is_idle : FnScope N_law_is_idle ["_law_known"] (defScope s_law_is_idle) := ⟨rfl, rfl, rfl, by decide +kernel, rfl, by decide +kernel, by decide +kernel⟩
def sp_law_is_idle (P : Program) (w : World) (K : PySem.W.Frag) : Sp := fun vs H Q _ => ∃ (d : Addr) (t : List Item) (R L : Nat) (ks : List Ph), vs = [.ref d] ∧ KM P w K H EP d ks (fun p => (steps L t p).map stepK) ∧ AllPh L t ks ∧ WF R L t ∧
  ∀ k H', Same H H' → (k = false → NoRing L t) → Q (.bl k) H'
theorem f_law_is_idle (c : Cn K mg) : C8.Cal P w K mg base 1 "_law_is_idle" (sp_law_is_idle P w K) [] := by
  refine cal_of (N := N_law_is_idle) c.g_law_is_idle c.d_law_is_idle sc_law_is_idle (fun _ _ _ _ _ _ us hl => match us, hl with | [_], _ => rfl) (fun vs H Q E h => ?len) (fun cdv A outer s H vs Q E hr h => ?_)
  case len => obtain ⟨d, t, R, L, ks, rfl, _⟩ := h; rfl
  obtain ⟨d, t, R, L, ks, rfl, ⟨kvs, hnd, hks, hlv⟩, all, wf, q⟩ := h
  refine ⟨_, (pss_cons (ps_lock (ps_for PassesOwn.never rfl (kpi_nd P w (pv 0)) (pg_name (i := 1) sc_law_is_idle.nd rfl (Or.inl rfl)) (pss_cons (ps_set (i := 2) sc_law_is_idle.nd rfl (Or.inl rfl) (pv 1))
      (pss_one (ps_for PassesOwn.never rfl (pi_range1 (by rfl) c.z_range (pa_cons (pe_callB (r := rLenD P w K EP) (kc_lenD P w K EP hr) (by rfl) c.z_len (by decide +kernel) (pa_cons (pv 0) pa_nil)) pa_nil)) (pg_name (i := 3) sc_law_is_idle.nd rfl (Or.inl rfl)) (pss_cons (ps_set (i := 4) sc_law_is_idle.nd rfl (Or.inl rfl) (knget P w K EP hr (pv 0) (pv 2)))
      (pss_cons (ps_if (pt_cmpR op_ne (pe_callB (r := rLenA K) (kc_len K) (by rfl) c.z_len (by decide +kernel) (pa_cons (pv 4) pa_nil)) pe_int (nomark _)) (pss_one (ps_break)) pss_nil)
      (pss_cons (ps_set (i := 2) sc_law_is_idle.nd rfl (Or.inl rfl) (kixT K (kixL K (pv 4) pe_int) pe_int))
      (pss_one (ps_if (pt_cmpR (r := rEqN K false) (kop_eq K hr) (pv 2) (pv 1) (nomark _)) (pss_one (ps_ret pe_bl)) pss_nil))))))))))
      (pss_one (ps_ret pe_bl))), ?_⟩
  have hlen : ks.length ≤ 1024 := Nat.le_trans (all.len wf) wf.univ_le
  have hkl : kvs.length = ks.length := by rw [← hks, List.length_map]
  obtain ⟨zs, hd, lkf⟩ := lk_of hnd hks hlv
  refine ⟨d, _, hd, True.intro, fun od => ?_⟩
  have lk := lkf od
  have same0 : Same H (upd (upd H d (.frz od (NDo P w d zs))) d (NDo P w d zs)) := Same.unlock hd (Same.refl _)
  have lkfrz := lk.frz
  generalize upd H d (.frz od (NDo P w d zs)) = Hl at *
  refine ⟨_, rfl, d, od, zs, rfl, lk.sys, lkfrz, ?_⟩
  refine for_it walk_nd (fun i σ H1 => ∃ u1 u2 u3 u4 : Option V, σ = [some (.ref d), u1, u2, u3, u4] ∧ H1 = Hl ∧ ∀ j, j < i → ∀ p, ks[j]? = some p → ∀ n, n < ks.length → itr L t (n + 1) p ≠ some p) ?_ ?_ ?_ ?_
  · exact ⟨_, _, _, _, rfl, rfl, by intro j hj; omega⟩
  · rintro i σ H1 hi ⟨_, _, _, _, _, rfl, _⟩
    exact lkfrz
  · rintro i x1 σ H1 H1' hi ⟨u1, u2, u3, u4, rfl, e0, hdone⟩ ⟨e, z, hz, ex⟩
    subst e0 e ex
    obtain ⟨p, hp, hpk⟩ := lk.key hz
    have hpm : p ∈ ks := List.mem_of_getElem? hp
    have fin : ∀ (u2 u3 u4 : Option V), (∀ n, n < ks.length → itr L t (n + 1) p ≠ some p) → ∃ u1' u2' u3' u4' : Option V, [some (.ref d), some (.ref z.2.1), u2, u3, u4] = [some (.ref d), u1', u2', u3', u4'] ∧ H1' = H1' ∧ ∀ j, j < i + 1 → ∀ p, ks[j]? = some p → ∀ n, n < ks.length → itr L t (n + 1) p ≠ some p := by
      intro u2 u3 u4 h
      refine ⟨_, _, _, _, rfl, rfl, fun j hj p' hp' => ?_⟩
      by_cases e : j = i
      · subst e
        rw [hp] at hp'
        cases hp'
        exact h
      · exact hdone j (by omega) p' hp'
    refine ⟨_, rfl, ?_⟩
    refine ⟨_, rfl, d, kvs, rfl, lk.r, ((kvs.length : Nat) : Int), rfl, by omega, by omega, ?_⟩
    refine for_it walk_range (fun n σ H2 => ∃ (y : Ph) (ya : Addr) (u3 u4 : Option V), σ = [some (.ref d), some (.ref z.2.1), some (.ref ya), u3, u4] ∧ H2 = H1' ∧ itr L t n p = some y ∧ NK K H1' (phK y) (.ref ya) ∧ ∀ m, m < n → itr L t (m + 1) p ≠ some p) ?_ (fun _ _ _ _ _ => True.intro) ?_ ?_
    · exact ⟨p, _, _, _, rfl, rfl, rfl, hpk, by intro m hm; omega⟩
    · rintro n x σ H2 H2' hn ⟨y, ya, u3, u4, rfl, e0, hit, hya, hno⟩ ⟨e1, ex⟩
      subst e0 e1 ex
      have ry : Rch L t y := itr_rch ((all.mem p).mp hpm) n y hit
      have hyk : y ∈ ks := (all.mem y).mpr ry
      obtain ⟨l, us, hval, hl, hus⟩ := lk.get (W := fun _ => False) (SB.refl (by simp)) (fun _ _ _ _ h => h) hyk
      have hul : us.length = (steps L t y).length := by have := hus.length; simpa using this
      refine ⟨_, rfl, _, rfl, d, ya, kvs, y, _, rfl, rfl, lk.r, hya, hval, ?_⟩
      refine ⟨_, rfl, _, _, rfl, .inl (.inl (.inl hl)), rfl, _, rfl, ?_⟩
      by_cases h1 : (steps L t y).length = 1
      · have : (decide (V.int (us.length : Int) = V.int 1)) = true := decide_eq_true (by rw [hul, h1]; rfl)
        rw [this]
        refine iteF ?_
        generalize hst : steps L t y = st at hus h1
        match st, h1 with
        | [x0], _ =>
          cases hus with
          | cons hx0 hnil =>
            cases hnil
            obtain ⟨sa, u, v2, rfl, g1, g2, g3⟩ := step_snd hx0
            have hnx := steps_single wf.l1 hst
            have hit2 : itr L t (n + 1) p = some x0.2 := by
              show (itr L t n p).bind (nxt L t) = some x0.2
              rw [hit]
              exact hnx
            refine ⟨_, rfl, l, _, _, _, rfl, rfl, .inl (.inl hl), rfl, sa, _, _, _, rfl, rfl, g1, rfl, ?_⟩
            obtain ⟨xa, xe, rfl, _, _⟩ := ph_inv g3
            refine ⟨_, rfl, _, rfl, phK x0.2, phK p, g3, hpk, intK_phL _, intK_phL _, Nat.le_trans (depth_ph _) (by decide), Nat.le_trans (depth_ph _) (by decide), _, rfl, ?_⟩
            by_cases e : x0.2 = p
            · have e2 : decide (phK x0.2 = phK p) = true := decide_eq_true (by rw [e])
              rw [e2]
              exact iteT ⟨lkfrz, q true _ same0 (by simp)⟩
            · have e2 : decide (phK x0.2 = phK p) = false := decide_eq_false fun z => e (phK_inj _ _ z)
              rw [e2]
              refine iteF ⟨x0.2, xa, _, _, rfl, rfl, hit2, g3, fun m hm => ?_⟩
              by_cases em : m = n
              · subst em
                rw [hit2]
                exact fun z => e (Option.some.inj z)
              · exact hno m (by omega)
      · have : (decide (V.int (us.length : Int) = V.int 1)) = false := decide_eq_false (by rw [hul]; intro z; injection z with z; omega)
        rw [this]
        refine iteT (fin _ _ _ fun m hm => ?_)
        by_cases em : m < n
        · exact hno m em
        · exact itr_none hit (steps_many h1) (by omega)
    · rintro σ H2 ⟨y, ya, u3, u4, rfl, e0, hit, hya, hno⟩
      subst e0
      have e1 : ((kvs.length : Nat) : Int).toNat = ks.length := by omega
      rw [e1] at hno
      exact fin _ _ _ hno
  · rintro σ H1 ⟨u1, u2, u3, u4, rfl, e0, hdone⟩
    subst e0
    refine ⟨lkfrz, q false _ same0 fun _ => ring_short all fun p hp n hn => ?_⟩
    obtain ⟨j, hj⟩ := List.mem_iff_getElem?.mp hp
    have := (List.getElem?_eq_some_iff.mp hj).1
    exact hdone j (by rw [lk.len]; exact this) p hj n hn
/-- a spec of the law -/
def SpecAt (K : PySem.W.Frag) (H : Hp) (sa : Addr) (R L : Nat) (t : List Item) : Prop := ∃ ta ws, SqT K H sa [.int (R : Int), .int (L : Int), .ref ta] ∧ SqT K H ta ws ∧ NKs K H (t.map itemK) ws
theorem SpecAt.tk {H H' : Hp} {sa : Addr} {R L : Nat} {t : List Item} (k : Tk H H') : SpecAt K H sa R L t → SpecAt K H' sa R L t := fun ⟨ta, ws, h1, h2, h3⟩ => ⟨ta, ws, k.sqt h1, k.sqt h2, NKs.tk k _ _ h3⟩
end
end G6

-- G6F_Bb
namespace G6
open PySem PySem.Spec PyProof.Rows L2
/-- a good spec -/
structure SpecOk (R L : Nat) (t : List Item) : Prop where
  wf : WF R L t
  nr : NoRing L t
  sml : Small R L t
theorem small_of {R L : Nat} {t : List Item} (hR : R ≤ 4) (hL : L ≤ 2) (hn : t.length ≤ 8) : Small R L t := by
  unfold Small
  have h1 : 2 ^ R ≤ 16 := Nat.le_trans (Nat.pow_le_pow_right (by decide) hR) (by decide)
  have h2 : t.length * 2 ^ R ≤ 8 * 16 := Nat.mul_le_mul hn h1
  have h3 : t.length * 2 ^ R * (L + 1) ≤ 8 * 16 * 3 := Nat.mul_le_mul h2 (by omega)
  omega
section
variable {P : Program} {w : World} {K : PySem.W.Frag} {mg : Str → Option Value} {base : Heap}
abbrev N_law_spec : List Str := ["_law_pot_here", "_law_most_rows", "_law_most_letters", "_law_most_size", "_law_rows", "_law_letters", "_law_size", "_law_table", "_law_other"]
theorem sc_law_spec : FnScope N_law_spec ["_law_pot_here", "_law_most_rows", "_law_most_letters", "_law_most_size"] (defScope s_law_spec) := ⟨rfl, rfl, rfl, by decide +kernel, rfl, by decide +kernel, by decide +kernel⟩
def sp_law_spec (K : PySem.W.Frag) : Sp := fun vs H Q _ => ∃ (pot g s : Addr), vs = [.ref pot, .int 4, .int 2, .int 8] ∧ PotAt H pot g s ∧
  ∀ sa R L (t : List Item) H', SpecOk R L t → SpecAt K H' sa R L t → PotAt H' pot g s → SB (PG2 pot g) H H' → Q (.ref sa) H'
theorem f_law_spec (c : Cn K mg) : C8.Cal P w K mg base 4 "_law_spec" (sp_law_spec K) [] := by
  have h_law_draw := f_law_draw (P := P) (w := w) (base := base) c
  have h_law_drawn_table := f_law_drawn_table (P := P) (w := w) (base := base) c
  have h_law_renamed := f_law_renamed (P := P) (w := w) (base := base) c
  have h_law_is_idle := f_law_is_idle (P := P) (w := w) (base := base) c
  have h_law_phases := f_law_phases (P := P) (w := w) (base := base) c
  refine cal_of (N := N_law_spec) c.g_law_spec c.d_law_spec sc_law_spec (fun _ _ _ _ _ _ us hl => match us, hl with | [_, _, _, _], _ => rfl) (fun vs H Q E h => ?len) (fun cdv A outer s0 H vs Q E hr h => ?_)
  case len => obtain ⟨pot, g, s, rfl, _⟩ := h; rfl
  obtain ⟨pot, g, s, rfl, hp, q⟩ := h
  refine ⟨_, (pss_cons (ps_par (i := 4) (j := 5) rfl sc_law_spec.nd rfl rfl (by decide) rfl rfl (pa_cons (pe_op op_add pe_int (C8.pe_c h_law_draw hr (by decide) (by rfl) (pa_cons (pv 0) (pa_cons (pv 1) pa_nil)))) (pa_cons (pe_op op_add pe_int (C8.pe_c h_law_draw hr (by decide) (by rfl) (pa_cons (pv 0) (pa_cons (pv 2) pa_nil)))) pa_nil)) rfl)
      (pss_cons (ps_set (i := 6) sc_law_spec.nd rfl (Or.inl rfl) (pe_op op_add pe_int (C8.pe_c h_law_draw hr (by decide) (by rfl) (pa_cons (pv 0) (pa_cons (pv 3) pa_nil)))))
      (pss_cons (ps_set (i := 7) sc_law_spec.nd rfl (Or.inl rfl) (C8.pe_c h_law_renamed hr (by decide) (by rfl) (pa_cons (pv 0) (pa_cons (C8.pe_c h_law_drawn_table hr (by decide) (by rfl) (pa_cons (pv 0) (pa_cons (pv 4) (pa_cons (pv 5) (pa_cons (pv 6) (pa_cons pe_bl pa_nil)))))) pa_nil))))
      (pss_cons (ps_if (pt_cmpR op_eq (C8.pe_c h_law_draw hr (by decide) (by rfl) (pa_cons (pv 0) (pa_cons pe_int pa_nil))) pe_int (nomark _)) (pss_cons (ps_set (i := 8) sc_law_spec.nd rfl (Or.inl rfl) (C8.pe_c h_law_drawn_table hr (by decide) (by rfl) (pa_cons (pv 0) (pa_cons (pv 4) (pa_cons (pv 5) (pa_cons (pv 6) (pa_cons pe_bl pa_nil)))))))
      (pss_one (ps_if (pt_not (pt_val (C8.pe_c h_law_is_idle hr (by decide) (by rfl) (pa_cons (C8.pe_c h_law_phases hr (by decide) (by rfl) (pa_cons (pv 5) (pa_cons (pv 8) pa_nil))) pa_nil)))) (pss_one (ps_set (i := 7) sc_law_spec.nd rfl (Or.inl rfl) (pv 8))) pss_nil))) pss_nil)
      (pss_one (ps_ret (pe_tup (pa_cons (pv 4) (pa_cons (pv 5) (pa_cons (pe_callTy (r := rTupOf K) (kc_tuple K) (by rfl) c.z_tuple (by decide +kernel) (pa_cons (pv 7) pa_nil)) pa_nil)))))))))), ?_⟩
  refine ⟨_, rfl, _, rfl, pot, g, s, 4, rfl, hp, by decide, by decide, fun r1 H1 hr1 hp1 sb1 => ⟨_, _, rfl, rfl, ?_⟩⟩
  refine ⟨_, rfl, _, rfl, pot, g, s, 2, rfl, hp1, by decide, by decide, fun r2 H2 hr2 hp2 sb2 => ⟨_, _, rfl, rfl, _, _, rfl, ?_⟩⟩
  refine ⟨_, rfl, _, rfl, pot, g, s, 8, rfl, hp2, by decide, by decide, fun r3 H3 hr3 hp3 sb3 => ⟨_, _, rfl, rfl, ?_⟩⟩
  dsimp only
  have e1 : (1 : Int) + (r1 : Int) = ((1 + r1 : Nat) : Int) := by omega
  have e2 : (1 : Int) + (r2 : Int) = ((1 + r2 : Nat) : Int) := by omega
  have e3 : (1 : Int) + (r3 : Int) = ((1 + r3 : Nat) : Int) := by omega
  rw [e1, e2, e3]
  have hR4 : 1 + r1 ≤ 4 := by omega
  have hR1 : 1 ≤ 1 + r1 := by omega
  have hL2 : 1 + r2 ≤ 2 := by omega
  have hL1 : 1 ≤ 1 + r2 := by omega
  have hn8 : 1 + r3 ≤ 8 := by omega
  have hn1 : 1 ≤ 1 + r3 := by omega
  generalize 1 + r1 = R at *
  generalize 1 + r2 = L at *
  generalize 1 + r3 = n at *
  have sb13 := (sb1.trans sb2).trans sb3
  refine ⟨_, rfl, _, rfl, _, rfl, _, rfl, _, rfl, pot, g, s, R, L, n, true, rfl, hp3, hR1, by omega, hL1, hL2, hn1, by omega, fun tl ws t H4 htl hok hup ntl htla htw hp4 sb4 => ?_⟩
  have wf : WF R L t := ⟨hR1, by omega, hL1, hL2, by omega, by omega, fun x hx => by rw [htl]; exact hok x hx⟩
  have frt := hp3.fr ntl
  refine ⟨pot, g, s, tl, ws, t, R, L, rfl, hp4, htla, htw, wf, frt.1, frt.2.1, fun f fv o H5 hoP nf hf hfw hp5 sb5 => ?_⟩
  have ok1 : SpecOk R L (renT o t) := ⟨renT_wf wf hoP, noring_up (renT_wf wf hoP) (renT_up wf hoP (hup rfl)), small_of hR4 hL2 (by rw [renT_len]; omega)⟩
  have sb35 := sb13.trans (sb4.trans sb5)
  have fin : ∀ (u8 : Option V) (f : Addr) (fv : List V) (t : List Item) (H9 : Hp), H9 f = some (.lst fv) → NKs K H9 (t.map itemK) fv → SpecOk R L t → PotAt H9 pot g s → SB (PG2 pot g) H H9 →
      tRet (tTup (tCons (tVar 4) (tCons (tVar 5) (tCons (tCB (rTupOf K) (tCons (tVar 7) tNil)) tNil)))) { nx := fun _ H' => Q .non H', rt := Q } [some (.ref pot), some (.int 4), some (.int 2), some (.int 8), some (.int (R : Int)), some (.int (L : Int)), some (.int (n : Int)), some (.ref f), u8] H9 := by
    intro u8 f fv t H9 hf hfw ok hp9 sb9
    refine ⟨_, rfl, _, rfl, _, rfl, f, fv, rfl, .inl (.inl hf), fun tp ntp => ⟨sz 3 (by decide), fun sa nsa => ?_⟩⟩
    have s1 := same_new (o := .tup fv) ntp
    have s2 := same_new (o := .tup [.int (R : Int), .int (L : Int), .ref tp]) nsa
    have s12 := Same.trans s1 s2
    exact q sa R L t _ ok ⟨tp, fv, .inl (.inl upd_same), .inl (.inl (s2 _ _ upd_same)), NKs.tk (Tk.same s12) _ _ hfw⟩ (hp9.same s12) (sb9.same s12)
  refine ⟨_, rfl, pot, g, s, 2, rfl, hp5, by decide, by decide, fun r4 H6 hr4 hp6 sb6 => ⟨rfl, _, rfl, ?_⟩⟩
  have fr5 := hp3.fr (a := f) (by
    cases hh : H3 f with
    | none => rfl
    | some ob =>
      exfalso
      by_cases hb : PG2 pot g f
      · rcases hb with rfl | rfl
        · obtain ⟨_, _, _, _, g1, _⟩ := hp4
          rw [g1] at nf
          cases nf
        · obtain ⟨_, _, _, _, _, g1, _⟩ := hp4
          rw [g1] at nf
          cases nf
      · rw [sb4.out _ _ hb hh] at nf
        cases nf)
  have nf2 : ¬ PG2 pot g f := fun h => h.elim fr5.1 fr5.2.1
  have hf6 := sb6.out _ _ nf2 hf
  have hfw6 := NKs.tk sb6.tk _ _ hfw
  have sb36 := sb35.trans sb6
  refine iteAny ?_ ?_
  · refine ⟨_, rfl, _, rfl, _, rfl, _, rfl, pot, g, s, R, L, n, false, rfl, hp6, hR1, by omega, hL1, hL2, hn1, by omega, fun tl2 ws2 t2 H7 htl2 hok2 _ ntl2 htla2 htw2 hp7 sb7 => ?_⟩
    have wf2 : WF R L t2 := ⟨hR1, by omega, hL1, hL2, by omega, by omega, fun x hx => by rw [htl2]; exact hok2 x hx⟩
    have sml2 : Small R L t2 := small_of hR4 hL2 (by omega)
    refine ⟨_, rfl, _, rfl, tl2, ws2, t2, R, L, rfl, .inl (.inl (.inl htla2)), htw2, wf2, sml2, fun dk ks H8 s8 nd all km => ?_⟩
    refine ⟨dk, t2, R, L, ks, rfl, km, all, wf2, fun k H9 s9 hk => ⟨k, rfl, ?_⟩⟩
    have s89 := Same.trans s8 s9
    cases k with
    | true => exact fin _ f fv (renT o t) H9 (s89 _ _ (sb7.out _ _ nf2 hf6)) (NKs.tk (Tk.trans sb7.tk (Tk.same s89)) _ _ hfw6) ok1 (hp7.same s89) ((sb36.trans sb7).same s89)
    | false => exact ⟨_, rfl, fin _ tl2 ws2 t2 H9 (s89 _ _ htla2) (NKs.tk (Tk.same s89) _ _ htw2) ⟨wf2, hk rfl, sml2⟩ (hp7.same s89) ((sb36.trans sb7).same s89)⟩
  · exact fin _ f fv (renT o t) H6 hf6 hfw6 ok1 hp6 sb36
end
end G6

-- G6F_Bc
namespace G6
open PySem PySem.Spec PyProof.Rows L2
/-- rings behind one another -/
def RingOk (R : Nat) (t : List Item) (T : Nat) : Prop := ∀ m, m < t.length → ∃ r a b, itemAt t m = .look r [a, b] ∧ r < R ∧ a ≤ T ∧ b ≤ T ∧ m < b
theorem RingOk.up {R : Nat} {t : List Item} {T T' : Nat} (h : RingOk R t T) (hT : T ≤ T') : RingOk R t T' := fun m hm => by
  obtain ⟨r, a, b, h1, h2, h3, h4, h5⟩ := h m hm
  exact ⟨r, a, b, h1, h2, by omega, by omega, h5⟩
theorem RingOk.add {R : Nat} {t : List Item} {T r a b : Nat} (h : RingOk R t T) (hr : r < R) (ha : a ≤ T) (hb : b ≤ T) (hm : t.length < b) : RingOk R (t ++ [.look r [a, b]]) T := fun m hm' => by
  by_cases e : m < t.length
  · rw [itemAt_app e]
    exact h m e
  · have : m = t.length := by simp at hm'; omega
    subst this
    exact ⟨r, a, b, itemAt_new, hr, ha, hb, hm⟩
theorem ring_spec {R : Nat} {t : List Item} (h : RingOk R t t.length) (hR1 : 1 ≤ R) (hR6 : R ≤ 6) (hl : t.length ≤ 15) : SpecOk R 1 (t ++ [.stop]) := by
  have wf : WF R 1 (t ++ [.stop]) := by
    refine ⟨hR1, hR6, by decide, by decide, by simp, by simp; omega, fun x hx => ?_⟩
    rcases List.mem_append.mp hx with hx | hx
    · obtain ⟨m, hm⟩ := List.mem_iff_getElem?.mp hx
      have hml := (List.getElem?_eq_some_iff.mp hm).1
      obtain ⟨r, a, b, h1, h2, h3, h4, h5⟩ := h m hml
      have : x = itemAt t m := by
        unfold itemAt
        rw [List.getD_eq_getElem?_getD, hm]
        rfl
      rw [this, h1]
      refine ⟨h2, rfl, fun y hy => ?_⟩
      simp at hy
      rw [List.length_append, List.length_singleton]
      rcases hy with rfl | rfl <;> omega
    · simp at hx
      subst hx
      exact True.intro
  refine ⟨wf, noring_up (rk := id) wf fun m hm => ?_, ?_⟩
  · by_cases e : m < t.length
    · rw [itemAt_app e]
      obtain ⟨r, a, b, h1, h2, h3, h4, h5⟩ := h m e
      rw [h1]
      exact h5
    · have : m = t.length := by simp at hm; omega
      subst this
      rw [itemAt_new]
      exact True.intro
  · unfold Small
    have h1 : 2 ^ R ≤ 64 := pow_le R hR6
    have h2 : (t ++ [Item.stop]).length * 2 ^ R ≤ 16 * 64 := Nat.mul_le_mul (by simp; omega) h1
    omega
section
variable {P : Program} {w : World} {K : PySem.W.Frag} {mg : Str → Option Value} {base : Heap}
abbrev N_law_ring_spec : List Str := ["_law_pot_here", "_law_rows", "_law_table", "_law_ring", "_law_line", "_law_begin", "_law_k"]
theorem sc_law_ring_spec : FnScope N_law_ring_spec ["_law_pot_here"] (defScope s_law_ring_spec) := ⟨rfl, rfl, rfl, by decide +kernel, rfl, by decide +kernel, by decide +kernel⟩
def sp_law_ring_spec (K : PySem.W.Frag) : Sp := fun vs H Q _ => ∃ (pot g s : Addr), vs = [.ref pot] ∧ PotAt H pot g s ∧
  ∀ sa R L (t : List Item) H', SpecOk R L t → SpecAt K H' sa R L t → PotAt H' pot g s → SB (PG2 pot g) H H' → Q (.ref sa) H'
theorem f_law_ring_spec (c : Cn K mg) : C8.Cal P w K mg base 3 "_law_ring_spec" (sp_law_ring_spec K) [] := by
  have h_law_draw := f_law_draw (P := P) (w := w) (base := base) c
  have h_law_mixed := f_law_mixed (P := P) (w := w) (base := base) c
  refine cal_of (N := N_law_ring_spec) c.g_law_ring_spec c.d_law_ring_spec sc_law_ring_spec (fun _ _ _ _ _ _ us hl => match us, hl with | [_], _ => rfl) (fun vs H Q E h => ?len) (fun cdv A outer s0 H vs Q E hr h => ?_)
  case len => obtain ⟨pot, g, s, rfl, _⟩ := h; rfl
  obtain ⟨pot, g, s, rfl, hp, q⟩ := h
  refine ⟨_, (pss_cons (ps_set (i := 1) sc_law_ring_spec.nd rfl (Or.inl rfl) (pe_op op_add pe_int (C8.pe_c h_law_draw hr (by decide) (by rfl) (pa_cons (pv 0) (pa_cons pe_int pa_nil)))))
      (pss_cons (ps_set (i := 2) sc_law_ring_spec.nd rfl (Or.inl rfl) (pe_lst pa_nil))
      (pss_cons (ps_for PassesOwn.never rfl (pi_range1 (by rfl) c.z_range (pa_cons (pe_op op_add pe_int (C8.pe_c h_law_draw hr (by decide) (by rfl) (pa_cons (pv 0) (pa_cons pe_int pa_nil)))) pa_nil)) (pg_name (i := 3) sc_law_ring_spec.nd rfl (Or.inl rfl)) (pss_cons (ps_set (i := 4) sc_law_ring_spec.nd rfl (Or.inl rfl) (pe_slice (r := rSlL K) (kslL K) (C8.pe_c h_law_mixed hr (by decide) (by rfl) (pa_cons (pv 0) (pa_cons (pe_listRg rfl (by rfl) c.z_list (prg_1 (by rfl) c.z_range (pv 1))) pa_nil))) po_none (po_some (pe_op op_add pe_int (C8.pe_c h_law_draw hr (by decide) (by rfl) (pa_cons (pv 0) (pa_cons pe_int pa_nil)))))))
      (pss_cons (ps_set (i := 5) sc_law_ring_spec.nd rfl (Or.inl rfl) (pe_callB (r := rLenA K) (kc_len K) (by rfl) c.z_len (by decide +kernel) (pa_cons (pv 2) pa_nil)))
      (pss_one (ps_for PassesOwn.never rfl (pi_range1 (by rfl) c.z_range (pa_cons (pe_callB (r := rLenA K) (kc_len K) (by rfl) c.z_len (by decide +kernel) (pa_cons (pv 4) pa_nil)) pa_nil)) (pg_name (i := 6) sc_law_ring_spec.nd rfl (Or.inl rfl)) (pss_one (ps_expr (kbm K PySem.F.slot_list_append PySem.F.type_list_append mt_append (pv 2) (pa_cons (pe_tup (pa_cons pe_str (pa_cons (kixL K (pv 4) (pv 6)) (pa_cons (pe_tup (pa_cons (pe_op op_add (pv 5) (pe_op op_mod (pe_callTy (r := rInt1) kc_int (by rfl) c.z_int (by decide +kernel) (pa_cons (pe_op op_add (pv 6) pe_int) pa_nil)) (pe_callB (r := rLenA K) (kc_len K) (by rfl) c.z_len (by decide +kernel) (pa_cons (pv 4) pa_nil)))) (pa_cons (pe_op op_add (pv 5) (pe_callB (r := rLenA K) (kc_len K) (by rfl) c.z_len (by decide +kernel) (pa_cons (pv 4) pa_nil))) pa_nil))) pa_nil)))) pa_nil)))))))))
      (pss_one (ps_ret (pe_tup (pa_cons (pv 1) (pa_cons pe_int (pa_cons (pe_callTy (r := rTupOf K) (kc_tuple K) (by rfl) c.z_tuple (by decide +kernel) (pa_cons (pe_op op_cat (pv 2) (pe_lst (pa_cons (pe_tup (pa_cons pe_str pa_nil)) pa_nil))) pa_nil)) pa_nil))))))))), ?_⟩
  refine ⟨_, rfl, pot, g, s, 2, rfl, hp, by decide, by decide, fun r1 H1 hr1 hp1 sb1 => ⟨_, _, rfl, rfl, ?_⟩⟩
  refine ⟨sz 0 (by decide), fun tl ntl => ?_⟩
  have frt := hp1.fr ntl
  have nt2 : ¬ PG2 pot g tl := fun h => h.elim frt.1 frt.2.1
  have s1 := same_new (o := .lst []) ntl
  have sb0 : SB (PG2 pot g) H1 (upd H1 tl (.lst [])) := (SB.refl hp1.nt).new ntl
  refine ⟨_, rfl, pot, g, s, 5, rfl, hp1.same s1, by decide, by decide, fun r2 H2 hr2 hp2 sb2 => ⟨_, _, rfl, rfl, _, rfl, by omega, by omega, ?_⟩⟩
  have eR : (5 : Int) + (r1 : Int) = ((5 + r1 : Nat) : Int) := by omega
  have hR5 : 5 ≤ 5 + r1 := by omega
  have hR6 : 5 + r1 ≤ 6 := by omega
  generalize hRR : 5 + r1 = R at *
  have sbA := sb0.trans sb2
  have htl2 := sb2.out _ _ nt2 (upd_same (H := H1) (a := tl) (o := HO.lst []))
  refine for_it walk_range (fun i σ H3 => ∃ (ws : List V) (t : List Item) (u3 u4 u5 u6 : Option V), σ = [some (.ref pot), some (.int (5 + (r1 : Int))), some (.ref tl), u3, u4, u5, u6] ∧ SB (PG2 pot g) H1 H3 ∧ PotAt H3 pot g s ∧ H3 tl = some (.lst ws) ∧ NKs K H3 (t.map itemK) ws ∧ t.length ≤ 3 * i ∧ RingOk R t t.length) ?_ (fun _ _ _ _ _ => True.intro) ?_ ?_
  · exact ⟨[], [], _, _, _, _, rfl, sbA, hp2, htl2, .nil, by simp, fun m hm => by simp at hm⟩
  · rintro i x σ H3 H3' hi ⟨ws, t, u3, u4, u5, u6, rfl, sb3, hp3, htl3, htw3, htlen, hring⟩ ⟨e1, ex⟩
    subst e1 ex
    have hi5 : i < 5 := by omega
    have htwl : ws.length = t.length := by have := htw3.length; simpa using this
    refine ⟨_, rfl, _, rfl, _, rfl, RgOk.of_le (by decide) (by omega) (by decide) (by omega), fun rl nrl => ?_⟩
    rw [eR, rgV_nat]
    have s4 := same_new (o := .lst (vI (List.range R))) nrl
    refine ⟨pot, g, s, rl, List.range R, rfl, hp3.same s4, upd_same, by simp; omega, fun p ns' H5 hperm np hp5' hp5 sb5 => ?_⟩
    have sb35 : SB (PG2 pot g) H3' H5 := SB.pre s4 sb5 hp3.nt
    refine ⟨_, rfl, pot, g, s, 2, rfl, hp5, by decide, by decide, fun r6 H6 hr6 hp6 sb6 => ⟨_, _, rfl, rfl, _, rfl, ?_⟩⟩
    have H3p : H3' p = none := Same.free s4 np
    have frp := hp3.fr H3p
    have hp6' := sb6.out _ _ (fun h => h.elim frp.1 frp.2.1) hp5'
    refine ⟨p, vI ns', rfl, .inl (.inl hp6'), fun lp nlp => ?_⟩
    have e2 : (2 : Int) + (r6 : Int) = ((2 + r6 : Nat) : Int) := by omega
    rw [e2, cut_take]
    have hnl := hperm.length_eq
    rw [List.length_range] at hnl
    have hns : ∀ y ∈ ns'.take (2 + r6), y < R := fun y hy => List.mem_range.mp (hperm.mem_iff.mp (List.mem_of_mem_take hy))
    have hll : (ns'.take (2 + r6)).length = 2 + r6 := by rw [List.length_take]; omega
    generalize ns'.take (2 + r6) = lr at *
    have s7 := same_new (o := .lst (vI lr)) nlp
    have sb36 := sb35.trans sb6
    have htl6 := sb36.out _ _ nt2 htl3
    have htl7 := s7 _ _ htl6
    have htw7 := NKs.tk (Tk.trans sb36.tk (Tk.same s7)) _ _ htw3
    have sbB := (sb3.trans sb36).same s7
    have hp7 := hp6.same s7
    have hlp7 : upd H6 lp (.lst (vI lr)) lp = some (.lst (vI lr)) := upd_same
    have lptl : lp ≠ tl := fun e => by subst e; rw [htl6] at nlp; cases nlp
    generalize upd H6 lp (.lst (vI lr)) = H7 at *
    refine ⟨_, rfl, _, _, rfl, .inl (.inl (.inl htl7)), ?_⟩
    rw [htwl]
    refine ⟨_, rfl, _, _, rfl, .inl (.inl (.inl hlp7)), _, rfl, by rw [vI_len]; omega, by rw [vI_len]; omega, ?_⟩
    refine for_it walk_range (fun k σ H8 => ∃ (ws' : List V) (t' : List Item) (u6 : Option V), σ = [some (.ref pot), some (.int (5 + (r1 : Int))), some (.ref tl), some (.int (0 + (i : Int))), some (.ref lp), some (.int ((t.length : Nat) : Int)), u6] ∧ SB (PG2 pot g) H1 H8 ∧ PotAt H8 pot g s ∧ H8 lp = some (.lst (vI lr)) ∧ H8 tl = some (.lst ws') ∧ NKs K H8 (t'.map itemK) ws' ∧ t'.length = t.length + k ∧ RingOk R t' (t.length + lr.length)) ?_ (fun _ _ _ _ _ => True.intro) ?_ ?_
    · exact ⟨ws, t, _, by rw [eR]; rfl, sbB, hp7, hlp7, htl7, htw7, rfl, hring.up (by omega)⟩
    · rintro k x σ H8 H8' hk ⟨ws', t', u6, rfl, sb8, hp8, hlp8, htl8, htw8, htl', hring'⟩ ⟨e1, ex⟩
      subst e1 ex
      have hk' : k < lr.length := by
        have := hk
        rw [vI_len] at this
        omega
      have htwl' : ws'.length = t'.length := by have := htw8.length; simpa using this
      dsimp only
      rw [Int.zero_add (k : Int)]
      have hpos : (0 : Int) < ((vI lr).length : Int) := by rw [vI_len]; omega
      refine ⟨_, rfl, .inl ⟨rfl, _, .inl (.inl htl8)⟩, _, rfl, _, rfl, lp, vI lr, _, _, rfl, rfl, .inl (.inl hlp8), vI_get' hk', _, rfl, _, rfl, _, _, rfl, rfl, .inl ⟨_, rfl, _, rfl, _, _, rfl, .inl (.inl (.inl hlp8)), _, _, rfl, rfl, hpos, _, _, rfl, rfl, _, rfl, _, rfl, _, _, rfl, .inl (.inl (.inl hlp8)), _, _, rfl, rfl, sz 2 (by decide), fun t1 n1 => ⟨sz 3 (by decide), fun t2 n2 => ?_⟩⟩⟩
      have ea : ((t.length : Nat) : Int) + ((k : Int) + 1) % ((vI lr).length : Int) = ((t.length + (k + 1) % lr.length : Nat) : Int) := by
        rw [vI_len]
        have : ((k : Int) + 1) % (lr.length : Int) = (((k + 1) % lr.length : Nat) : Int) := by rw [Int.natCast_emod]; rfl
        rw [this]
        omega
      have eb : ((t.length : Nat) : Int) + ((vI lr).length : Int) = ((t.length + lr.length : Nat) : Int) := by rw [vI_len]; omega
      dsimp only
      rw [ea, eb]
      have s1 := same_new (o := .tup [.int ((t.length + (k + 1) % lr.length : Nat) : Int), .int ((t.length + lr.length : Nat) : Int)]) (show H8' t1 = none from n1)
      have n2' : upd H8' t1 (.tup [.int ((t.length + (k + 1) % lr.length : Nat) : Int), .int ((t.length + lr.length : Nat) : Int)]) t2 = none := by
        have := n2
        dsimp only at this
        rw [ea, eb] at this
        exact this
      have s2 := same_new (o := .tup [.str "look", .int ((lr.getD k 0 : Nat) : Int), .ref t1]) n2'
      have s12 := Same.trans s1 s2
      have htl9 := s12 _ _ htl8
      refine ⟨tl, ws', _, rfl, rfl, htl9, Nat.lt_of_le_of_lt (m := 100) (by omega) (by decide), ?_⟩
      have tm : Tk _ (upd (upd (upd H8' t1 (.tup [.int ((t.length + (k + 1) % lr.length : Nat) : Int), .int ((t.length + lr.length : Nat) : Int)])) t2 (.tup [.str "look", .int ((lr.getD k 0 : Nat) : Int), .ref t1])) tl (.lst (ws' ++ [.ref t2]))) := Tk.mut htl9 True.intro
      have hmod : (k + 1) % lr.length < lr.length := Nat.mod_lt _ (by omega)
      refine ⟨ws' ++ [.ref t2], t' ++ [.look (lr.getD k 0) [t.length + (k + 1) % lr.length, t.length + lr.length]], _, rfl, (sb8.same s12).fresh ntl, (hp8.same s12).upd frt, by rw [upd_ne lptl]; exact s12 _ _ hlp8, upd_same, ?_, by simp; omega, hring'.add (hns _ ?_) (by omega) (Nat.le_refl _) (by omega)⟩
      · rw [List.map_append]
        refine NKs.append (NKs.tk (Tk.trans (Tk.same s12) tm) _ _ htw8) (.cons (NK.tk tm _ _ ?_) .nil)
        exact three_mk (.inl (.inl upd_same)) (.text _) (.num _) (nums_mk (l := [_, _]) (.inl (.inl (s2 _ _ upd_same))))
      · rw [List.getD_eq_getElem?_getD, List.getElem?_eq_getElem hk']
        exact List.getElem_mem hk'
    · rintro σ H8 ⟨ws', t', u6, rfl, sb8, hp8, hlp8, htl8, htw8, htl', hring'⟩
      have e9 : (((vI lr).length : Nat) : Int).toNat = lr.length := by rw [vI_len]; omega
      rw [e9] at htl'
      exact ⟨ws', t', some (.int (0 + (i : Int))), some (.ref lp), some (.int ((t.length : Nat) : Int)), u6, by rw [eR], sb8, hp8, htl8, htw8, by omega, by rw [htl']; exact hring'⟩
  · rintro σ H3 ⟨ws, t, u3, u4, u5, u6, rfl, sb3, hp3, htl3, htw3, htlen, hring⟩
    have htwl : ws.length = t.length := by have := htw3.length; simpa using this
    have hl15 : t.length ≤ 15 := by omega
    refine ⟨_, rfl, _, rfl, sz 1 (by decide), fun t1 n1 => ⟨sz 1 (by decide), fun l2 n2 => ?_⟩⟩
    have s1 := same_new (o := .tup [.str "stop"]) n1
    have s2 := same_new (o := .lst [.ref t1]) n2
    refine ⟨tl, l2, ws, _, rfl, rfl, s2 _ _ (s1 _ _ htl3), upd_same, sz _ (by simp; omega), fun p3 np3 => ⟨p3, _, rfl, .inl (.inl upd_same), fun tp ntp => ⟨sz 3 (by decide), fun sa nsa => ?_⟩⟩⟩
    have s3 := same_new (o := .lst (ws ++ [.ref t1])) np3
    have s4 := same_new (o := .tup (ws ++ [.ref t1])) ntp
    have s5 := same_new (o := .tup [.int (5 + (r1 : Int)), .int 1, .ref tp]) nsa
    have sC := Same.trans s1 (Same.trans s2 (Same.trans s3 (Same.trans s4 s5)))
    refine q sa R 1 (t ++ [.stop]) _ (ring_spec hring (by omega) (by omega) hl15) ⟨tp, ws ++ [.ref t1], .inl (.inl (by rw [← eR]; exact upd_same)), .inl (.inl (s5 _ _ upd_same)), ?_⟩ (hp3.same sC) ((sb1.trans sb3).same sC)
    rw [List.map_append]
    exact NKs.append (NKs.tk (Tk.same sC) _ _ htw3) (.cons (NK.tk (Tk.same (Same.trans s2 (Same.trans s3 (Same.trans s4 s5)))) _ _ (.tup (.inl (.inl upd_same)) (.cons (.text _) .nil))) .nil)
end
end G6

-- G6F_Aw
namespace G6
open PySem PySem.Spec PyProof.Rows L2
section
variable {P : Program} {w : World} {K : PySem.W.Frag} {mg : Str → Option Value} {base : Heap}
abbrev N_law_way_across : List Str := ["_law_spec_here", "_law_first", "_law_second", "_law_rows", "_law_letters", "_law_table", "_law_known", "_law_turns", "_law_met", "_law_waiting", "_law_at", "_law_turn", "_law_phase", "_law_many", "_law_item", "_law_more", "_law_sign", "_law_later", "_law_node"]
theorem sc_law_way_across : FnScope N_law_way_across ["_law_spec_here", "_law_first", "_law_second"] (defScope s_law_way_across) := ⟨rfl, rfl, rfl, by decide +kernel, rfl, by decide +kernel, by decide +kernel⟩
def sp_law_way_across (K : PySem.W.Frag) : Sp := fun vs H Q _ => ∃ (sa : Addr) (a b : Nat) (t : List Item) (R L : Nat), vs = [.ref sa, .int (a : Int), .int (b : Int)] ∧ SpecAt K H sa R L t ∧ WF R L t ∧ Small R L t ∧
  ∀ k H', Same H H' → (k = true ↔ Acr L t a b) → Q (.bl k) H'
theorem f_law_way_across (c : Cn K mg) : C8.Cal P w K mg base 3 "_law_way_across" (sp_law_way_across K) [] := by
  have h_law_phases := f_law_phases (P := P) (w := w) (base := base) c
  refine cal_of (N := N_law_way_across) c.g_law_way_across c.d_law_way_across sc_law_way_across (fun _ _ _ _ _ _ us hl => match us, hl with | [_, _, _], _ => rfl) (fun vs H Q E h => ?len) (fun cdv A outer s H vs Q E hr h => ?_)
  case len => obtain ⟨sa, a, b, t, R, L, rfl, _⟩ := h; rfl
  obtain ⟨sa, a, b, t, R, L, rfl, ⟨ta, ws, hsa, hta, htw⟩, wf, sml, q⟩ := h
  refine ⟨_, (pss_cons (ps_asg (pv 0) (kpg_tup K (pgs_cons (pg_name (i := 3) sc_law_way_across.nd rfl (Or.inl rfl)) (pgs_cons (pg_name (i := 4) sc_law_way_across.nd rfl (Or.inl rfl)) (pgs_cons (pg_name (i := 5) sc_law_way_across.nd rfl (Or.inl rfl)) pgs_nil)))))
      (pss_cons (ps_set (i := 6) sc_law_way_across.nd rfl (Or.inl rfl) (C8.pe_c h_law_phases hr (by decide) (by rfl) (pa_cons (pv 4) (pa_cons (pv 5) pa_nil))))
      (pss_cons (ps_set (i := 7) sc_law_way_across.nd rfl (Or.inl rfl) (pe_tup (pa_cons (pv 1) (pa_cons (pv 2) (pa_cons (pv 1) (pa_cons (pv 2) pa_nil))))))
      (pss_cons (ps_set (i := 8) sc_law_way_across.nd rfl (Or.inl rfl) (kndisp P w K EN hr (pe_tup (pa_cons (pe_tup (pa_cons pe_int (pa_cons (pe_tup pa_nil) pa_nil))) (pa_cons pe_int pa_nil))) pe_bl))
      (pss_cons (ps_set (i := 9) sc_law_way_across.nd rfl (Or.inl rfl) (pe_lst (pa_cons (pe_tup (pa_cons (pe_tup (pa_cons pe_int (pa_cons (pe_tup pa_nil) pa_nil))) (pa_cons pe_int pa_nil))) pa_nil)))
      (pss_cons (ps_set (i := 10) sc_law_way_across.nd rfl (Or.inl rfl) pe_int)
      (pss_cons (ps_for PassesOwn.never rfl (pi_range1 (by rfl) c.z_range (pa_cons (pe_op op_add (pe_op op_mul pe_int (pe_callB (r := rLenD P w K EP) (kc_lenD P w K EP hr) (by rfl) c.z_len (by decide +kernel) (pa_cons (pv 6) pa_nil))) pe_int) pa_nil)) (pg_name (i := 11) sc_law_way_across.nd rfl (Or.inl rfl)) (pss_cons (ps_if (pt_cmpR op_eq (pv 10) (pe_callB (r := rLenA K) (kc_len K) (by rfl) c.z_len (by decide +kernel) (pa_cons (pv 9) pa_nil)) (nomark _)) (pss_one (ps_break)) pss_nil)
      (pss_cons (ps_asg (kixL K (pv 9) (pv 10)) (kpg_tup K (pgs_cons (pg_name (i := 12) sc_law_way_across.nd rfl (Or.inl rfl)) (pgs_cons (pg_name (i := 13) sc_law_way_across.nd rfl (Or.inl rfl)) pgs_nil))))
      (pss_cons (ps_set (i := 10) sc_law_way_across.nd rfl (Or.inl rfl) (pe_op op_add (pv 10) pe_int))
      (pss_cons (ps_set (i := 14) sc_law_way_across.nd rfl (Or.inl rfl) (kixA K (pv 5) (kixT K (pv 12) pe_int)))
      (pss_cons (ps_set (i := 15) sc_law_way_across.nd rfl (Or.inl rfl) (pe_callTy (r := rInt1) kc_int (by rfl) c.z_int (by decide +kernel) (pa_cons (pe_and (pe_cmpR op_eq (kixT K (pv 14) pe_int) pe_str (nomark _)) (pe_and (pe_cmpR (r := rIn K true) (kop_notinS K) (kixT K (pv 14) pe_int) (kixT K (pv 12) pe_int) (by rfl)) (pe_one (pe_cmpR op_eq (kixT K (pv 14) pe_int) (kixT K (pv 7) (pv 13)) (nomark _))))) pa_nil)))
      (pss_cons (ps_if (pt_cmpR op_eq (pe_op op_add (pv 13) (pv 15)) pe_int (nomark _)) (pss_one (ps_ret pe_bl)) pss_nil)
      (pss_one (ps_for PassesOwn.never rfl (kpi_list K (knget P w K EP hr (pv 6) (pv 12))) (kpg_tup K (pgs_cons (pg_name (i := 16) sc_law_way_across.nd rfl (Or.inl rfl)) (pgs_cons (pg_name (i := 17) sc_law_way_across.nd rfl (Or.inl rfl)) pgs_nil))) (pss_cons (ps_set (i := 18) sc_law_way_across.nd rfl (Or.inl rfl) (pe_tup (pa_cons (pv 17) (pa_cons (pe_op op_add (pv 13) (pv 15)) pa_nil))))
      (pss_one (ps_if (pt_cmp (knnotin P w K EN hr (pv 18) (pv 8))) (pss_cons (knput P w K EN hr (pv 8) (pv 18) pe_bl)
      (pss_one (ps_expr (kbm K PySem.F.slot_list_append PySem.F.type_list_append mt_append (pv 9) (pa_cons (pv 18) pa_nil))))) pss_nil))))))))))))
      (pss_one (ps_ret pe_bl))))))))), ?_⟩
  refine ⟨_, rfl, sa, _, rfl, hsa, rfl, _, _, rfl, _, _, rfl, _, _, rfl, rfl, ?_⟩
  refine ⟨_, rfl, _, rfl, ta, ws, t, R, L, rfl, .inr hta, htw, wf, sml, fun dk ks Hb sB ndk all km => ?_⟩
  have hlen : ks.length ≤ 1024 := Nat.le_trans (all.len wf) wf.univ_le
  refine ⟨_, rfl, _, rfl, _, rfl, _, rfl, sz 4 (by decide), fun tt ntt => ?_⟩
  have sA := same_new (o := .tup [.int (a : Int), .int (b : Int), .int (a : Int), .int (b : Int)]) ntt
  have htt0 : SqT K (upd Hb tt (.tup [.int (a : Int), .int (b : Int), .int (a : Int), .int (b : Int)])) tt [.int (a : Int), .int (b : Int), .int (a : Int), .int (b : Int)] := .inl (.inl upd_same)
  generalize upd Hb tt (.tup [.int (a : Int), .int (b : Int), .int (a : Int), .int (b : Int)]) = Ha at *
  intro d nd hsys
  have Hd : Hb d = none := Same.free sA nd
  refine ⟨sz 0 (by decide), fun e1 ne1 => ⟨sz 2 (by decide), fun e2 ne2 => ⟨sz 2 (by decide), fun e3 ne3 => ?_⟩⟩⟩
  have sB1 := Same.trans (same_new (o := .tup []) ne1) (Same.trans (same_new (o := .tup [.int 0, .ref e1]) ne2) (same_new (o := .tup [.ref e2, .int 0]) ne3))
  have hnode3 : NK K (upd (upd (upd (upd Ha d (NDo P w d [])) e1 (.tup [])) e2 (.tup [.int 0, .ref e1])) e3 (.tup [.ref e2, .int 0])) (nodeK ((0, []), 0)) (.ref e3) :=
    two_mk (.inl (.inl upd_same)) (ph_mk (m := 0) (l := []) (.inl (.inl (same_new ne3 _ _ upd_same))) (.inl (.inl (same_new ne3 _ _ (same_new ne2 _ _ upd_same))))) (.num _)
  refine ⟨sB1 _ _ upd_same, e3, ((0, []), 0), rfl, hnode3, fun o hno => ?_⟩
  have sB2 := Same.trans (same_new (o := NDo P w d []) nd) sB1
  have hdN : upd (upd (upd (upd Ha d (NDo P w d [])) e1 (.tup [])) e2 (.tup [.int 0, .ref e1])) e3 (.tup [.ref e2, .int 0]) d = some (NDo P w d []) := sB1 _ _ upd_same
  have tkB : Tk (upd (upd (upd (upd Ha d (NDo P w d [])) e1 (.tup [])) e2 (.tup [.int 0, .ref e1])) e3 (.tup [.ref e2, .int 0])) (upd (upd (upd (upd (upd Ha d (NDo P w d [])) e1 (.tup [])) e2 (.tup [.int 0, .ref e1])) e3 (.tup [.ref e2, .int 0])) d o) := Tk.upd (by rw [hdN]; exact True.intro)
  have sC : Same Hb (upd (upd (upd (upd (upd Ha d (NDo P w d [])) e1 (.tup [])) e2 (.tup [.int 0, .ref e1])) e3 (.tup [.ref e2, .int 0])) d o) := Same.mut (Same.trans sA sB2) Hd
  have htt1 := tkB.sqt (sqT sB2 htt0)
  generalize upd (upd (upd (upd (upd Ha d (NDo P w d [])) e1 (.tup [])) e2 (.tup [.int 0, .ref e1])) e3 (.tup [.ref e2, .int 0])) d o = Hc at *
  refine ⟨sz 0 (by decide), fun e4 ne4 => ⟨sz 2 (by decide), fun e5 ne5 => ⟨sz 2 (by decide), fun e6 ne6 => ⟨sz 1 (by decide), fun W nW => ?_⟩⟩⟩⟩
  have sD1 := Same.trans (same_new (o := .tup []) ne4) (Same.trans (same_new (o := .tup [.int 0, .ref e4]) ne5) (same_new (o := .tup [.ref e5, .int 0]) ne6))
  have sD2 := same_new (o := .lst [.ref e6]) nW
  have sD := Same.trans sD1 sD2
  have HW : Hb W = none := Same.free sC (Same.free sD1 nW)
  have hnode6 : NK K (upd (upd (upd (upd Hc e4 (.tup [])) e5 (.tup [.int 0, .ref e4])) e6 (.tup [.ref e5, .int 0])) W (.lst [.ref e6])) (nodeK ((0, []), 0)) (.ref e6) :=
    NK.tk (Tk.same sD2) _ _ (two_mk (.inl (.inl upd_same)) (ph_mk (m := 0) (l := []) (.inl (.inl (same_new ne6 _ _ upd_same))) (.inl (.inl (same_new ne6 _ _ (same_new ne5 _ _ upd_same))))) (.num _))
  have dW : d ≠ W := fun e => by
    subst e
    obtain ⟨oo, ho⟩ := (hno.same sD1).some
    rw [ho] at nW
    cases nW
  obtain ⟨kvk, hkn, hkk, hklv⟩ := km
  have hkkl : kvk.length = ks.length := by rw [← hkk, List.length_map]
  refine ⟨_, rfl, dk, kvk, rfl, hkn.r.same (Same.trans sC sD), _, _, rfl, rfl, .inl (by decide), _, _, rfl, rfl, ((8 * kvk.length + 8 : Nat) : Int), congrArg (fun z => [V.int z]) (by show (8 : Int) * _ + 8 = _; omega), by omega, by omega, ?_⟩
  refine for_it walk_range (fun i σ H1 => ∃ (kvs : List (Nd × V)) (ms : List Nd) (wv : List V) (u11 u12 u13 u14 u15 u16 u17 u18 : Option V),
    σ = [some (.ref sa), some (.int (a : Int)), some (.int (b : Int)), some (.int (R : Int)), some (.int (L : Int)), some (.ref ta), some (.ref dk), some (.ref tt), some (.ref d), some (.ref W), some (.int (i : Int)), u11, u12, u13, u14, u15, u16, u17, u18] ∧ Same Hb H1 ∧ SqT K H1 tt [.int (a : Int), .int (b : Int), .int (a : Int), .int (b : Int)] ∧
    ND P w K H1 EN d kvs ∧ kvs.map (·.1) = ms ∧ H1 W = some (.lst wv) ∧ NKs K H1 (ms.map nodeK) wv ∧ NQ L t a b ms i ∧ i ≤ ms.length) ?_ (fun _ _ _ _ _ => True.intro) ?_ ?_
  · exact ⟨_, [((0, []), 0)], _, _, _, _, _, _, _, _, _, rfl, Same.trans sC sD, sqT sD htt1, hno.same sD, rfl, upd_same, .cons hnode6 .nil, NQ.init L t a b, Nat.zero_le _⟩
  · rintro i x σ H1 H1' hi ⟨kvs, ms, wv, u11, u12, u13, u14, u15, u16, u17, u18, rfl, sm, htt, hnd, hks, hW, hwv, nq, hile⟩ ⟨e1, ex⟩
    subst e1 ex
    have hwl : wv.length = ms.length := by have := hwv.length; simpa using this
    have hmsl := nq.len all
    refine ⟨_, rfl, _, rfl, _, _, rfl, .inl (.inl (.inl hW)), rfl, _, congrArg V.bl (int_beq i wv.length), ?_⟩
    by_cases hend : i = wv.length
    · have : (i == wv.length) = true := beq_iff_eq.mpr hend
      rw [this]
      exact iteT (q false _ (Same.trans sB sm) (by simp [nq.done (by omega)]))
    · have : (i == wv.length) = false := beq_eq_false_iff_ne.mpr hend
      rw [this]
      refine iteF ?_
      by_cases hil0 : ms.length < i
      · exact absurd hil0 (by omega)
      have hil : i < ms.length := by omega
      have hn : ms[i]? = some ms[i] := List.getElem?_eq_getElem hil
      generalize ms[i] = n at hn
      obtain ⟨nv, hnv, hnk⟩ := hwv.get (i := i) (k := nodeK n) (by rw [List.getElem?_map, hn]; rfl)
      obtain ⟨na, nb, rfl, hna, hnb⟩ := node_inv hnk
      obtain ⟨pb, pe, epb, hpb, hpe⟩ := ph_inv hnb
      cases epb
      have nrn := nq.rk n (List.mem_of_getElem? hn)
      have okn := nrn.rch.ok wf
      have hin : n.1 ∈ ks := (all.mem _).mpr nrn.rch
      have sBm := Same.trans sB sm
      obtain ⟨iv, hiv, hit⟩ := item_get (NKs.tk (Tk.same sBm) _ _ htw) okn.1
      refine ⟨_, rfl, _, rfl, W, wv, _, _, rfl, rfl, .inl (.inl hW), atI_nat hnv, na, _, rfl, hna, rfl, _, _, rfl, _, _, rfl, rfl, ?_⟩
      refine ⟨_, rfl, _, _, rfl, rfl, ?_⟩
      refine ⟨_, rfl, _, rfl, _, _, _, _, rfl, rfl, hpb, rfl, _, _, _, _, rfl, rfl, .inr (sqT sBm hta), hiv, ?_⟩
      have met : ∀ (Qt : VK), Qt (.bl (isLook t n.1 (trn a b n.2))) H1' → tAndV (tOp rEq (tOp (rIxT K) (tVar 14) (tC (.int 0))) (tC (.str "look"))) (tAndV (tOp (rIn K true) (tOp (rIxT K) (tVar 14) (tC (.int 1))) (tOp (rIxT K) (tVar 12) (tC (.int 1)))) (tOp rEq (tOp (rIxT K) (tVar 14) (tC (.int 1))) (tOp (rIxT K) (tVar 7) (tVar 13))))
          [some (.ref sa), some (.int (a : Int)), some (.int (b : Int)), some (.int (R : Int)), some (.int (L : Int)), some (.ref ta), some (.ref dk), some (.ref tt), some (.ref d), some (.ref W), some (.int ((i : Int) + 1)), some (.int (0 + (i : Int))), some (.ref nb), some (.int (n.2 : Int)), some iv, u15, u16, u17, u18] H1' Qt := by
        intro Qt hq
        unfold isLook at hq
        generalize itemAt t n.1.1 = it at hit hq
        cases it with
        | look r ns =>
          obtain ⟨ia, ib, rfl, h1, h2⟩ := look_inv hit
          refine ⟨_, rfl, _, _, _, _, rfl, rfl, h1, rfl, rfl, true, rfl, iteT ?_⟩
          refine ⟨_, rfl, _, _, _, _, rfl, rfl, h1, rfl, _, rfl, _, _, _, _, rfl, rfl, hpb, rfl, pe, vI n.1.2, rfl, .inr hpe, rfl, flat_vI _, ?_⟩
          by_cases hri : r ∈ n.1.2
          · have e0 : isLookI n.1.2 (trn a b n.2) (.look r ns) = false := by simp [isLookI, hri]
            rw [e0] at hq
            exact ⟨false, by rw [inV_nat, decide_eq_true hri]; rfl, iteF hq⟩
          · have e0 : isLookI n.1.2 (trn a b n.2) (.look r ns) = (r == trn a b n.2) := by
              show (decide (r ∉ n.1.2) && decide (r = trn a b n.2)) = _
              rw [decide_eq_true hri, Bool.true_and]
              rfl
            rw [e0] at hq
            refine ⟨true, by rw [inV_nat, decide_eq_false hri]; rfl, iteT ⟨_, rfl, _, _, _, _, rfl, rfl, h1, rfl, _, rfl, _, rfl, _, _, _, _, rfl, rfl, htt, trn_at a b n.2 nrn.lt, rfl, ?_⟩⟩
            rw [int_beq]
            exact hq
        | say mm kk =>
          obtain ⟨ia, rfl, h1⟩ := say_inv hit
          exact ⟨_, rfl, _, _, _, _, rfl, rfl, h1, rfl, rfl, false, rfl, iteF hq⟩
        | stop =>
          obtain ⟨ia, rfl, h1⟩ := stop_inv hit
          exact ⟨_, rfl, _, _, _, _, rfl, rfl, h1, rfl, rfl, false, rfl, iteF hq⟩
      have eadv : ((n.2 : Int) + (if isLook t n.1 (trn a b n.2) = true then 1 else 0)) = ((adv t a b n : Nat) : Int) := by
        unfold adv
        cases isLook t n.1 (trn a b n.2) <;> simp [Bool.toNat]
      refine met _ ?_
      have s2 := Same.refl H1'
      refine .inr ⟨_, rfl, ?_⟩
      generalize hmore : (if isLook t n.1 (trn a b n.2) = true then (1 : Int) else 0) = more at eadv
      have sm2 := Same.trans sm s2
      have hW2 := s2 _ _ hW
      have hwv2 := NKs.tk (Tk.same s2) _ _ hwv
      have hnd2 := hnd.same s2
      have htt2 := sqT s2 htt
      have hnb2 := NK.tk (Tk.same s2) _ _ hnb
      clear hiv hit hnk hna hnb hpb hpe hwv hW hnd htt hnv
      refine ⟨_, rfl, _, rfl, _, _, rfl, rfl, rfl, _, congrArg V.bl (show decide (V.int ((n.2 : Int) + more) = V.int 4) = (adv t a b n == 4) by rw [eadv]; exact int_beq _ 4), ?_⟩
      by_cases h4 : adv t a b n = 4
      · rw [beq_iff_eq.mpr h4]
        exact iteT (q true _ (Same.trans sB sm2) (by simp [nq.hit hn h4]))
      · have h4' : adv t a b n < 4 := by have := nrn.adv4; omega
        rw [beq_eq_false_iff_ne.mpr h4]
        refine iteF ?_
        have hmem : n.1 ∈ ks := hin
        obtain ⟨kvp, l, us, hkd, hval, hl, hus⟩ := KD.get (P := P) (w := w) (K := K) (E := EP) (f := fun p => (steps L t p).map stepK) ⟨kvk, hkn.r, hkk, hklv⟩ hin
        have hul : us.length = (steps L t n.1).length := by have := hus.length; simpa using this
        refine ⟨_, rfl, _, rfl, dk, nb, kvp, n.1, _, rfl, rfl, hkd.same sm2, hnb2, hval, l, rfl, ⟨us, .inl (.inl (sm2 _ _ hl))⟩, ?_⟩
        refine for_it (walk_list (xs := us)) (fun j σ H3 => ∃ (kvs : List (Nd × V)) (r : List Nd) (wv : List V) (u16 u17 u18 : Option V),
          σ = [some (.ref sa), some (.int (a : Int)), some (.int (b : Int)), some (.int (R : Int)), some (.int (L : Int)), some (.ref ta), some (.ref dk), some (.ref tt), some (.ref d), some (.ref W), some (.int ((i : Int) + 1)), some (.int (0 + (i : Int))), some (.ref nb), some (.int (n.2 : Int)), some iv, some (.int more), u16, u17, u18] ∧ Same Hb H3 ∧ SqT K H3 tt [.int (a : Int), .int (b : Int), .int (a : Int), .int (b : Int)] ∧
          ND P w K H3 EN d kvs ∧ kvs.map (·.1) = ms ++ r ∧ H3 W = some (.lst wv) ∧ NKs K H3 ((ms ++ r).map nodeK) wv ∧ NP L t a b ms i n j (ms ++ r)) ?_ ?_ ?_ ?_
        · exact ⟨kvs, [], wv, _, _, _, rfl, sm2, htt2, hnd2, by rw [List.append_nil]; exact hks, hW2, by rw [List.append_nil]; exact hwv2, by rw [List.append_nil]; exact NP.init nq n⟩
        · rintro j σ H3 _ ⟨_, _, _, _, _, _, _, s3, _⟩
          exact .inl (.inl (s3 _ _ hl))
        · rintro j v3 σ H3 H3' hj ⟨kv3, r3, wv3, u16, u17, u18, rfl, sm3, htt3, hd3, hks3, hW3, hwv3, np3⟩ ⟨e1, ex⟩
          subst e1
          obtain ⟨k, hk1, hk3⟩ := (NKs.tk (Tk.same sm3) _ _ hus).getV ex
          rw [List.getElem?_map] at hk1
          obtain ⟨x0, hst, rfl⟩ := Option.map_eq_some_iff.mp hk1
          obtain ⟨s4a, u, z, rfl, h1, h2, h3⟩ := step_snd hk3
          refine ⟨s4a, _, rfl, h1, rfl, _, _, rfl, _, _, rfl, rfl, ?_⟩
          refine ⟨_, rfl, _, rfl, _, rfl, _, _, rfl, rfl, sz 2 (by decide), fun t5 n5 => ?_⟩
          dsimp only
          rw [eadv]
          have s5 := same_new (o := .tup [z, .int ((adv t a b n : Nat) : Int)]) n5
          have hlat : NK K (upd H3' t5 (.tup [z, .int ((adv t a b n : Nat) : Int)])) (nodeK (x0.2, adv t a b n)) (.ref t5) := two_mk (.inl (.inl upd_same)) (NK.tk (Tk.same s5) _ _ h3) (.num _)
          generalize upd H3' t5 (.tup [z, .int ((adv t a b n : Nat) : Int)]) = H5 at *
          have sm5 := Same.trans sm3 s5
          have hd5 := hd3.same s5
          have hmsl3 := np3.lenK all
          refine ⟨_, rfl, _, rfl, d, t5, kv3, (x0.2, adv t a b n), rfl, rfl, hd5.r, hlat, _, rfl, ?_⟩
          have npa := np3.add nq hn h4' hst
          by_cases hin3 : (x0.2, adv t a b n) ∈ ms ++ r3
          · rw [isSome_in hks3 hin3]
            refine iteF ?_
            have e1 : addN (ms ++ r3) (x0.2, adv t a b n) = ms ++ r3 := if_pos hin3
            rw [e1] at npa
            exact ⟨kv3, r3, wv3, _, _, _, rfl, sm5, sqT s5 htt3, hd5, hks3, s5 _ _ hW3, NKs.tk (Tk.same s5) _ _ hwv3, npa⟩
          · rw [isSome_out hks3 hin3]
            refine iteT ?_
            have e1 : addN (ms ++ r3) (x0.2, adv t a b n) = ms ++ (r3 ++ [(x0.2, adv t a b n)]) := by rw [← List.append_assoc]; exact if_neg hin3
            rw [e1] at npa
            have hkl : kv3.length = (ms ++ r3).length := by rw [← hks3, List.length_map]
            refine ⟨_, rfl, _, rfl, d, t5, kv3, (x0.2, adv t a b n), rfl, rfl, hd5, hlat, by rw [hkl]; exact Nat.lt_of_le_of_lt (m := 5000) (by omega) (by decide), fun ob hno => ?_⟩
            have tk7 : Tk H5 (upd H5 d ob) := Tk.upd hd5.not
            have sm7 : Same Hb (upd H5 d ob) := Same.mut sm5 Hd
            have hW7 : upd H5 d ob W = some (.lst wv3) := by rw [upd_ne (Ne.symm dW)]; exact s5 _ _ hW3
            have tk37 : Tk H3' (upd H5 d ob) := Tk.trans (Tk.same s5) tk7
            have hlat7 := NK.tk tk7 _ _ hlat
            have htt7 := tk37.sqt htt3
            have hwv7 := NKs.tk tk37 _ _ hwv3
            have hkk7 := keys_putG hks3 (x0.2, adv t a b n) (.bl true)
            rw [if_neg hin3, List.append_assoc] at hkk7
            generalize upd H5 d ob = H7 at *
            have hgl : wv3.length = (ms ++ r3).length := by have := hwv3.length; simpa using this
            refine ⟨_, rfl, .inl ⟨rfl, _, .inl (.inl hW7)⟩, _, rfl, W, wv3, _, rfl, rfl, hW7, by rw [hgl]; exact Nat.lt_of_le_of_lt (m := 5000) (by omega) (by decide), ?_⟩
            have tk8 : Tk H7 (upd H7 W (.lst (wv3 ++ [.ref t5]))) := Tk.mut hW7 True.intro
            refine ⟨_, r3 ++ [(x0.2, adv t a b n)], wv3 ++ [.ref t5], _, _, _, rfl, Same.mut sm7 HW, tk8.sqt htt7, hno.upd dW (by rw [hW7]; exact True.intro), hkk7, upd_same, ?_, npa⟩
            rw [← List.append_assoc, List.map_append]
            exact NKs.append (NKs.tk tk8 _ _ hwv7) (.cons (NK.tk tk8 _ _ hlat7) .nil)
        · rintro σ H3 ⟨kv3, r3, wv3, u16, u17, u18, rfl, sm3, htt3, hd3, hks3, hW3, hwv3, np3⟩
          rw [hul] at np3
          exact ⟨kv3, ms ++ r3, wv3, _, _, _, _, _, _, _, _, rfl, sm3, htt3, hd3, hks3, hW3, hwv3, np3.fin nq hn h4', by simp; omega⟩
  · rintro σ H1 ⟨kvs, ms, wv, u11, u12, u13, u14, u15, u16, u17, u18, rfl, sm, htt, hnd, hks, hW, hwv, nq, hile⟩
    have hmsl := nq.len all
    exact q false _ (Same.trans sB sm) (by simp [nq.done (by omega)])
end
end G6

-- G6F_Aq
namespace G6
open PySem PySem.Spec PyProof.Rows L2
theorem letter_end (k : Nat) : letterS k ≠ "end" := by
  match k with
  | 0 => decide +kernel
  | 1 => decide +kernel
  | 2 => decide +kernel
  | k + 3 =>
    have : letterS (k + 3) = "a" := by simp [letterS, List.getD]
    rw [this]
    decide +kernel
theorem step_lt {L : Nat} {t : List Item} {p : Ph} {x : Sg × Ph} {k : Nat} (h : x ∈ steps L t p) (e : x.1 = .lt k) : ∃ r ns, itemAt t p.1 = .look r ns ∧ r ∉ p.2 := by
  unfold steps at h
  cases hi : itemAt t p.1 with
  | look r ns =>
    rw [hi] at h
    refine ⟨r, ns, rfl, fun hin => ?_⟩
    rw [stepsI_in hin] at h
    simp at h
    rw [h] at e
    cases e
  | say w m =>
    rw [hi] at h
    simp [stepsI] at h
    rw [h] at e
    cases e
  | stop =>
    rw [hi] at h
    simp [stepsI] at h
theorem rowIn_of {L : Nat} {t : List Item} {lot : List Ph} {p : Ph} {x : Sg × Ph} {r : Nat} {ns : List Nat} (hp : p ∈ lot) (hx : x ∈ steps L t p) (hq : x.2 ∈ lot) (e : itemAt t p.1 = .look r ns) (n : r ∉ p.2) : RowIn L t lot r :=
  ⟨p, hp, x.2, hq, List.mem_map.mpr ⟨x, hx, rfl⟩, by unfold isLook; rw [e]; simp [isLookI, n]⟩
theorem intK_ph (p : Ph) : intK (phK p) = true := by
  show (intK (num p.1) && intKs [nums p.2]) = true
  show (true && (intK (nums p.2) && true)) = true
  have : intK (nums p.2) = true := intKs_num p.2
  rw [this]
  rfl
theorem intKs_ph : ∀ l : List Ph, intKs (l.map phK) = true
  | [] => rfl
  | p :: l => by
    show (intK (phK p) && intKs (l.map phK)) = true
    rw [intKs_ph l, intK_ph]
    rfl
section
variable {P : Program} {w : World} {K : PySem.W.Frag} {mg : Str → Option Value} {base : Heap}
abbrev N_rows_in : List Str := ["plan", "lot", "inner", "found", "phase", "sign", "there"]
theorem sc_rows_in : FnScope N_rows_in ["plan", "lot"] (defScope s_rows_in) := ⟨rfl, rfl, rfl, by decide +kernel, rfl, by decide +kernel, by decide +kernel⟩
def sp_rows_in (P : Program) (w : World) (K : PySem.W.Frag) : Sp := fun vs H Q _ => ∃ (x la : Addr) (t : List Item) (R L : Nat) (ks : List Ph) (lv : List V) (lot : List Ph), vs = [.ref x, .ref la] ∧ PlanAt P w K H x R L t ks ∧ WF R L t ∧ H la = some (.lst lv) ∧ NKs K H (lot.map phK) lv ∧ LotOk (suc L t) ks lot ∧
  ∀ p rs H', Same H H' → SqT K H' p (vI rs) → rs.length ≤ 6 → (∀ r ∈ rs, RowIn L t lot r) → Q (.ref p) H'
theorem f_rows_in (c : Cn K mg) : C8.Cal P w K mg base 1 "rows_in" (sp_rows_in P w K) [] := by
  refine cal_of (N := N_rows_in) c.g_rows_in c.d_rows_in sc_rows_in (fun _ _ _ _ _ _ us hl => match us, hl with | [_, _], _ => rfl) (fun vs H Q E h => ?len) (fun cdv A outer s H vs Q E hr h => ?_)
  case len => obtain ⟨x, la, t, R, L, ks, lv, lot, rfl, _⟩ := h; rfl
  obtain ⟨x, la, t, R, L, ks, lv, lot, rfl, pl, wf, hla, hlv, lok, q⟩ := h
  refine ⟨_, (pss_cons (knsetc P w K EP (i := 2) (own := [("phase", 4)]) (g := gName 4) hr sc_rows_in.nd rfl rfl (sw_trueD rfl rfl rfl (by decide +kernel)) (kpi_list K (pv 1)) (blkOk_by (own := [("phase", 4)]) (N := N_rows_in) (sc := defScope s_rows_in) (by decide +kernel)) (fun _ _ _ _ _ => (pg_name (i := 4) sc_rows_in.nd rfl (Or.inl rfl))) (fun _ _ _ _ _ => (pv 4)) (fun _ _ _ _ _ => pe_bl))
      (pss_cons (ps_set (i := 3) sc_rows_in.nd rfl (Or.inl rfl) pe_dnewK)
      (pss_cons (ps_for PassesOwn.never rfl (kpi_list K (pv 1)) (pg_name (i := 4) sc_rows_in.nd rfl (Or.inl rfl)) (pss_one (ps_for PassesOwn.never rfl (kpi_list K (knget P w K EP hr (kfld K (pv 0)) (pv 4))) (kpg_tup K (pgs_cons (pg_name (i := 5) sc_rows_in.nd rfl (Or.inl rfl)) (pgs_cons (pg_name (i := 6) sc_rows_in.nd rfl (Or.inl rfl)) pgs_nil))) (pss_one (ps_if (PW.pt (pw_and (pt_cmp (pc_notN (pv 5))) (pw_and (pt_cmpR op_ne (pv 5) (pe_glob (v := .str "end") (by rfl) c.sEnd.choose_spec ⟨_, rfl⟩) (nomark _)) (pw_and1 (pt_cmp (knin P w K EP hr (pv 6) (pv 2))))))) (pss_one (ps_dput (hu_of hr) (pv 3) (kixT K (kixT K (kfld K (pv 0)) (kixT K (pv 4) pe_int)) pe_int) pe_bl rfl)) pss_nil)))))
      (pss_one (ps_ret (pe_callTy (r := rTupOf K) (kc_tuple K) (by rfl) c.z_tuple (by decide +kernel) (pa_cons (pe_callB (r := rSortN P w K) (kc_sorted P w K hr) (by rfl) c.z_sorted (by decide +kernel) (pa_cons (pv 3) pa_nil)) pa_nil))))))), ?_⟩
  obtain ⟨dx, ta, dk, ws, hx, hta, htw, km, all⟩ := pl
  have hlen : ks.length ≤ 1024 := Nat.le_trans (all.len wf) wf.univ_le
  have hll : lv.length = lot.length := by have := hlv.length; simpa using this
  have hlot : lot.length ≤ 1024 := Nat.le_trans (nodup_len lok.nd lok.kks) hlen
  refine ⟨_, rfl, la, rfl, ⟨lv, .inl (.inl hla)⟩, fun D nD hDs => ?_⟩
  refine nc_all (E := EP) (walk_list (xs := lv)) lot hll.symm lok.nd (fun _ _ _ _ => True) nD hDs (by rw [hll]; exact sz _ (by omega)) (fun H1 s1 => .inl (.inl (s1 _ _ hla))) (fun i H x H' y => by rw [y.1]; exact Same.refl _) (fun _ _ _ _ _ _ _ => True.intro) (fun _ _ _ _ _ _ _ _ => True.intro) ?_ ?_
  · intro i k x1 H1 H2 kv2 hi hk sm hn hkeys hr ⟨e, ex⟩ Qy hy
    subst e
    obtain ⟨k2, hk1, hk2⟩ := (NKs.tk (Tk.same sm) _ _ hlv).getV ex
    rw [List.getElem?_map, hk] at hk1
    cases hk1
    obtain ⟨b, e, rfl, hb, he⟩ := ph_inv hk2
    exact ⟨rfl, _, rfl, hy _ _ _ (Same.refl _) hk2 True.intro⟩
  intro H9 kv9 sm9 hn9 hk9 hr9
  intro fd nfd
  have Hfd : H fd = none := Same.free sm9 nfd
  have sfd := same_new (o := .dK []) nfd
  have Dfd : D ≠ fd := fun e => by
    subst e
    obtain ⟨o, ho⟩ := hn9.some
    rw [ho] at nfd
    cases nfd
  refine ⟨_, rfl, la, rfl, ⟨lv, .inl (.inl (sfd _ _ (sm9 _ _ hla)))⟩, ?_⟩
  refine for_it (walk_list (xs := lv)) (fun i σ H1 => ∃ (kv : List (Key × V)) (rs : List Nat) (u4 u5 u6 : Option V), σ = [some (.ref x), some (.ref la), some (.ref D), some (.ref fd), u4, u5, u6] ∧ Same H H1 ∧ ND P w K H1 EP D kv9 ∧ H1 fd = some (.dK kv) ∧ kv.map (·.1) = rs.map (fun r : Nat => (Sum.inl (r : Int) : Key)) ∧ rs.Nodup ∧ ∀ r ∈ rs, r < R ∧ RowIn L t lot r) ?_ ?_ ?_ ?_
  · exact ⟨[], [], _, _, _, rfl, Same.trans sm9 sfd, hn9.same sfd, upd_same, rfl, .nil, by simp⟩
  · rintro i σ H1 _ ⟨_, _, _, _, _, _, s1, _⟩
    exact .inl (.inl (s1 _ _ hla))
  · rintro i v σ H1 H1' hi ⟨kv, rs, u4, u5, u6, rfl, sm, hD, hfd, hkv, hrn, hrs⟩ ⟨e1, ex⟩
    subst e1
    obtain ⟨k, hk1, hk2⟩ := (NKs.tk (Tk.same sm) _ _ hlv).getV ex
    rw [List.getElem?_map] at hk1
    obtain ⟨p, hp, rfl⟩ := Option.map_eq_some_iff.mp hk1
    have hpl : p ∈ lot := List.mem_of_getElem? hp
    have hpk := lok.kks p hpl
    have okp := ((all.mem p).mp hpk).ok wf
    obtain ⟨b, e, rfl, hb, he⟩ := ph_inv hk2
    obtain ⟨kvp, l, us, hkd, hval, hl, hus⟩ := (km.r).get hpk
    have hul : us.length = (steps L t p).length := by have := hus.length; simpa using this
    refine ⟨_, rfl, x, _, _, _, _, rfl, sm _ _ hx, c.cPlan, c.nKept, rfl, _, rfl, dk, b, kvp, p, _, rfl, rfl, hkd.same sm, hk2, hval, l, rfl, ⟨us, .inl (.inl (sm _ _ hl))⟩, ?_⟩
    refine for_it (walk_list (xs := us)) (fun j σ H1 => ∃ (kv : List (Key × V)) (rs : List Nat) (u5 u6 : Option V), σ = [some (.ref x), some (.ref la), some (.ref D), some (.ref fd), some (.ref b), u5, u6] ∧ Same H H1 ∧ ND P w K H1 EP D kv9 ∧ H1 fd = some (.dK kv) ∧ kv.map (·.1) = rs.map (fun r : Nat => (Sum.inl (r : Int) : Key)) ∧ rs.Nodup ∧ (∀ r ∈ rs, r < R ∧ RowIn L t lot r) ∧ NK K H1 (phK p) (.ref b)) ?_ ?_ ?_ ?_
    · exact ⟨kv, rs, _, _, rfl, sm, hD, hfd, hkv, hrn, hrs, hk2⟩
    · rintro j σ H1 _ ⟨_, _, _, _, _, s1, _⟩
      exact .inl (.inl (s1 _ _ hl))
    · rintro j v3 σ H3 H3' hj ⟨kv3, rs3, u5, u6, rfl, sm3, hD3, hfd3, hkv3, hrn3, hrs3, hp3⟩ ⟨e1, ex⟩
      subst e1
      obtain ⟨k, hk1, hk3⟩ := (NKs.tk (Tk.same sm3) _ _ hus).getV ex
      rw [List.getElem?_map] at hk1
      obtain ⟨x0, hst, rfl⟩ := Option.map_eq_some_iff.mp hk1
      have hx0 : x0 ∈ steps L t p := List.mem_of_getElem? hst
      obtain ⟨sa, u, z, rfl, h1, h2, h3⟩ := step_snd hk3
      refine ⟨sa, _, rfl, h1, rfl, _, _, rfl, _, _, rfl, rfl, ?_⟩
      have next : ∀ (u5 u6 : Option V), ∃ (kv : List (Key × V)) (rs : List Nat) (u5' u6' : Option V), [some (.ref x), some (.ref la), some (.ref D), some (.ref fd), some (.ref b), u5, u6] = [some (.ref x), some (.ref la), some (.ref D), some (.ref fd), some (.ref b), u5', u6'] ∧ Same H H3' ∧ ND P w K H3' EP D kv9 ∧ H3' fd = some (.dK kv) ∧ kv.map (·.1) = rs.map (fun r : Nat => (Sum.inl (r : Int) : Key)) ∧ rs.Nodup ∧ (∀ r ∈ rs, r < R ∧ RowIn L t lot r) ∧ NK K H3' (phK p) (.ref b) :=
        fun u5 u6 => ⟨kv3, rs3, _, _, rfl, sm3, hD3, hfd3, hkv3, hrn3, hrs3, hp3⟩
      cases hsg : x0.1 with
      | one =>
        rw [hsg] at h2
        have : u = .non := by cases h2; rfl
        subst this
        exact ⟨_, rfl, false, rfl, iteF (iteF (next _ _))⟩
      | fin =>
        rw [hsg] at h2
        have : u = .str "end" := by cases h2; rfl
        subst this
        exact ⟨_, rfl, true, rfl, iteT ⟨_, rfl, rfl, false, rfl, iteF (iteF (next _ _))⟩⟩
      | lt k =>
        rw [hsg] at h2
        have : u = .str (letterS k) := by cases h2; rfl
        subst this
        refine ⟨_, rfl, true, rfl, iteT ⟨_, rfl, rfl, true, ?_, iteT ?_⟩⟩
        · have : decide (V.str (letterS k) = V.str "end") = false := decide_eq_false fun e => letter_end k (by injection e)
          rw [this]
          rfl
        obtain ⟨b2, e2, rfl, hb2, he2⟩ := ph_inv h3
        refine ⟨_, rfl, _, rfl, D, b2, kv9, x0.2, rfl, rfl, hD3.r, h3, _, rfl, ?_⟩
        by_cases hin : x0.2 ∈ lot
        · rw [isSome_in hk9 hin]
          refine iteT ?_
          obtain ⟨r, ns, hit, hni⟩ := step_lt hx0 hsg
          have hri := rowIn_of hpl hx0 hin hit hni
          obtain ⟨iv, hiv, hitv⟩ := item_get htw okp.1
          rw [hit] at hitv
          obtain ⟨ia, ib, rfl, hia, hib⟩ := look_inv hitv
          have hrR : r < R := by have := wf.at okp.1; rw [hit] at this; exact this.1
          have hkl : kv3.length = rs3.length := by
            have := congrArg List.length hkv3
            simpa using this
          have hrl : rs3.length ≤ R := by
            have := nodup_len hrn3 (m := List.range R) (fun r hr => List.mem_range.mpr (hrs3 r hr).1)
            simpa using this
          have hR6 := wf.r6
          obtain ⟨b3, e3, eb3, hb3, _⟩ := ph_inv hp3
          cases eb3
          refine ⟨_, rfl, _, rfl, x, _, _, _, _, rfl, sm3 _ _ hx, c.cPlan, c.nTable, rfl, _, rfl, _, _, _, _, rfl, rfl, hb3, rfl, _, _, _, _, rfl, rfl, sqT sm3 hta, hiv, _, _, _, _, rfl, rfl, sqT sm3 hia, rfl, fd, _, rfl, .inl ⟨kv3, .inl (r : Int), hfd3, rfl, Nat.lt_of_le_of_lt (m := 1000) (by omega) (by decide), rfl⟩, ?_⟩
          have hkk := keys_putG hkv3 (.inl (r : Int)) (.bl true)
          have nt : NoT (H3' fd) := by rw [hfd3]; exact True.intro
          refine ⟨_, if r ∈ rs3 then rs3 else rs3 ++ [r], _, _, rfl, Same.mut sm3 Hfd, hD3.upd Dfd nt, upd_same, ?_, ?_, ?_, NK.tk (Tk.upd nt) _ _ hp3⟩
          · rw [hkk]
            have e1 : (Sum.inl (r : Int) : Key) ∈ rs3.map (fun r : Nat => (Sum.inl (r : Int) : Key)) ↔ r ∈ rs3 := by
              rw [List.mem_map]
              constructor
              · rintro ⟨y, hy, e⟩
                have : y = r := by injection e with e; omega
                exact this ▸ hy
              · exact fun h => ⟨r, h, rfl⟩
            by_cases hm : r ∈ rs3
            · rw [if_pos hm, if_pos (e1.mpr hm)]
            · rw [if_neg hm, if_neg (fun z => hm (e1.mp z)), List.map_append]
              rfl
          · split
            · exact hrn3
            · rename_i hm; exact nodup_snoc hrn3 hm
          · intro y hy
            split at hy
            · exact hrs3 y hy
            · rcases List.mem_append.mp hy with h | h
              · exact hrs3 y h
              · simp at h
                subst h
                exact ⟨hrR, hri⟩
        · rw [isSome_out hk9 hin]
          exact iteF (next _ _)
    · rintro σ H1 ⟨kv3, rs3, u5, u6, rfl, sm3, hD3, hfd3, hkv3, hrn3, hrs3, hp3⟩
      exact ⟨kv3, rs3, _, _, _, rfl, sm3, hD3, hfd3, hkv3, hrn3, hrs3⟩
  · rintro σ H1 ⟨kv, rs, u4, u5, u6, rfl, sm, hD, hfd, hkv, hrn, hrs⟩
    have hrl : rs.length ≤ 6 := by
      have := nodup_len hrn (m := List.range R) (fun r hr => List.mem_range.mpr (hrs r hr).1)
      have h6 := wf.r6
      simp at this
      omega
    have hxs : vI rs = kv.map fun kv => kV kv.1 := by
      have e : (kv.map fun kv => kV kv.1) = (kv.map (·.1)).map kV := by rw [List.map_map]; rfl
      rw [e, hkv, List.map_map]
      rfl
    refine ⟨_, rfl, fd, vI rs, rs.map num, rfl, .inr (.inr (.inr ⟨kv, .inl hfd, hxs⟩)), vI_nks _, alk_num _, by rw [vI_len]; exact sz _ (by omega), fun p np => ?_⟩
    rw [sort_vI] at *
    refine ⟨p, _, rfl, .inl (.inl upd_same), fun tp ntp => ?_⟩
    exact q tp (asc rs) _ (Same.trans sm (Same.trans (same_new np) (same_new ntp))) (.inl (.inl upd_same)) (by rw [(asc_perm rs).length_eq]; exact hrl) fun r hr => (hrs r ((asc_perm rs).mem_iff.mp hr)).2
end
end G6

-- G6F_Ar
namespace G6
open PySem PySem.Spec PyProof.Rows L2
section
variable {P : Program} {w : World} {K : PySem.W.Frag} {mg : Str → Option Value} {base : Heap}
def PcOk (L : Nat) (t : List Item) (ks : List Ph) (pc : List Ph × List Nat) : Prop := pc.2.length ≤ 6 ∧ ∃ lot, LotOk (suc L t) ks lot ∧ ∀ r ∈ pc.2, RowIn L t lot r
abbrev N_kept_pieces : List Str := ["plan", "lines", "found", "lot"]
theorem sc_kept_pieces : FnScope N_kept_pieces ["plan"] (defScope s_kept_pieces) := ⟨rfl, rfl, rfl, by decide +kernel, rfl, by decide +kernel, by decide +kernel⟩
def sp_kept_pieces (P : Program) (w : World) (K : PySem.W.Frag) : Sp := fun vs H Q _ => ∃ (x : Addr) (t : List Item) (R L : Nat) (ks : List Ph), vs = [.ref x] ∧ PlanAt P w K H x R L t ks ∧ WF R L t ∧
  ∀ l us (pcs : List (List Ph × List Nat)) H', Same H H' → H l = none → H' l = some (.lst us) → NKs K H' (pcs.map pieceK) us → pcs.length ≤ 1024 → (∀ pc ∈ pcs, PcOk L t ks pc) → Q (.ref l) H'
theorem f_kept_pieces (c : Cn K mg) : C8.Cal P w K mg base 3 "kept_pieces" (sp_kept_pieces P w K) [] := by
  have h_lines_of := f_lines_of (P := P) (w := w) (base := base) c
  have h_lots_of := f_lots_of (P := P) (w := w) (base := base) c
  have h_rows_in := f_rows_in (P := P) (w := w) (base := base) c
  refine cal_of (N := N_kept_pieces) c.g_kept_pieces c.d_kept_pieces sc_kept_pieces (fun _ _ _ _ _ _ us hl => match us, hl with | [_], _ => rfl) (fun vs H Q E h => ?len) (fun cdv A outer s H vs Q E hr h => ?_)
  case len => obtain ⟨x, t, R, L, ks, rfl, _⟩ := h; rfl
  obtain ⟨x, t, R, L, ks, rfl, pl, wf, q⟩ := h
  refine ⟨_, (pss_cons (ps_set (i := 1) sc_kept_pieces.nd rfl (Or.inl rfl) (C8.pe_c h_lines_of hr (by decide) (by rfl) (pa_cons (pv 0) pa_nil)))
      (pss_cons (ps_set (i := 2) sc_kept_pieces.nd rfl (Or.inl rfl) (pe_lst pa_nil))
      (pss_cons (ps_for PassesOwn.never rfl (kpi_list K (C8.pe_c h_lots_of hr (by decide) (by rfl) (pa_cons (pv 1) pa_nil))) (pg_name (i := 3) sc_kept_pieces.nd rfl (Or.inl rfl)) (pss_one (ps_if (PW.pt (pw_or (pt_cmpR op_gt (pe_callB (r := rLenA K) (kc_len K) (by rfl) c.z_len (by decide +kernel) (pa_cons (pv 3) pa_nil)) pe_int (nomark _)) (pw_or1 (pt_cmpR (r := rInN K) (kop_in K hr) (kixL K (pv 3) pe_int) (knget P w K EP hr (pv 1) (kixL K (pv 3) pe_int)) (by rfl))))) (pss_one (ps_expr (kbm K PySem.F.slot_list_append PySem.F.type_list_append mt_append (pv 2) (pa_cons (pe_tup (pa_cons (pe_callTy (r := rTupOf K) (kc_tuple K) (by rfl) c.z_tuple (by decide +kernel) (pa_cons (pe_callB (r := rSortN P w K) (kc_sorted P w K hr) (by rfl) c.z_sorted (by decide +kernel) (pa_cons (pv 3) pa_nil)) pa_nil)) (pa_cons (C8.pe_c h_rows_in hr (by decide) (by rfl) (pa_cons (pv 0) (pa_cons (pv 3) pa_nil))) pa_nil))) pa_nil)))) pss_nil)))
      (pss_one (ps_ret (pe_callB (r := rSortN P w K) (kc_sorted P w K hr) (by rfl) c.z_sorted (by decide +kernel) (pa_cons (pv 2) pa_nil))))))), ?_⟩
  have all : AllPh L t ks := by obtain ⟨_, _, _, _, _, _, _, _, a⟩ := pl; exact a
  have hlen : ks.length ≤ 1024 := Nat.le_trans (all.len wf) wf.univ_le
  refine ⟨_, rfl, x, t, R, L, ks, rfl, pl, wf, fun d Hb sB nd km => ?_⟩
  refine ⟨sz 0 (by decide), fun fl nfl => ?_⟩
  have sfl := same_new (o := .lst []) nfl
  have Hfl : H fl = none := Same.free sB nfl
  have hfl0 : upd Hb fl (.lst []) fl = some (.lst []) := upd_same
  have km1 := km.same sfl
  generalize upd Hb fl (.lst []) = Hc at *
  refine ⟨_, rfl, d, t, R, L, ks, rfl, km1, all, wf, fun ll us lots H2 s2 nll hll hlots hok hln => ?_⟩
  have llfl : ll ≠ fl := fun e => by subst e; rw [hfl0] at nll; cases nll
  refine ⟨ll, rfl, ⟨us, .inl (.inl hll)⟩, ?_⟩
  have hful : us.length = lots.length := (Paired.length hlots).symm
  have hlots2 : Paired (LotAt K H2 (· = fl)) lots us := by
    have conv : ∀ {l : List (List Ph)} {m : List V}, Paired (LotAt K H2 (· = ll)) l m → (∀ lot ∈ l, lot ≠ []) → Paired (LotAt K H2 (· = fl)) l m := by
      intro l m hp
      induction hp with
      | nil => exact fun _ => .nil
      | @cons a b l m r t ih =>
        intro hne
        refine .cons ?_ (ih fun lot h => hne lot (List.mem_cons_of_mem _ h))
        obtain ⟨ad, vs, e, n, h1, h2⟩ := r
        refine ⟨ad, vs, e, fun z => ?_, h1, h2⟩
        have z : ad = fl := z
        subst z
        rw [s2 _ _ hfl0] at h1
        cases h1
        have := h2.length
        simp at this
        exact hne a List.mem_cons_self (List.eq_nil_of_length_eq_zero this.symm)
    exact conv hlots fun lot h => (hok lot h).2
  refine for_it (walk_list (xs := us)) (fun i σ H1 => ∃ (pcs : List (List Ph × List Nat)) (pv : List V) (u3 : Option V), σ = [some (.ref x), some (.ref d), some (.ref fl), u3] ∧ Same Hb H1 ∧ H1 ll = some (.lst us) ∧ Paired (LotAt K H1 (· = fl)) lots us ∧ H1 fl = some (.lst pv) ∧ NKs K H1 (pcs.map pieceK) pv ∧ pcs.length ≤ i ∧ ∀ pc ∈ pcs, PcOk L t ks pc) ?_ ?_ ?_ ?_
  · exact ⟨[], [], _, rfl, Same.trans sfl s2, hll, hlots2, s2 _ _ hfl0, .nil, by simp, by simp⟩
  · rintro i σ H1 _ ⟨_, _, _, _, _, h, _⟩
    exact .inl (.inl h)
  · rintro i v σ H1 H1' hi ⟨pcs, pv, u3, rfl, sm, hl1, hlo, hfl, hpv, hpl, hpc⟩ ⟨e1, ex⟩
    subst e1
    have hil : i < lots.length := by omega
    obtain ⟨v', hv', hlat⟩ := paired_get hlo (List.getElem?_eq_getElem hil)
    have hvv : v = v' := by rw [ex] at hv'; exact Option.some.inj hv'
    subst hvv
    have hlotm : lots[i] ∈ lots := List.getElem_mem hil
    generalize lots[i] = lot at hlat hlotm
    obtain ⟨la, lv, rfl, nfl', hla, hlv⟩ := hlat
    obtain ⟨lok, hne⟩ := hok lot hlotm
    have hlvl : lv.length = lot.length := by have := hlv.length; simpa using this
    have hlotl : lot.length ≤ 1024 := Nat.le_trans (nodup_len lok.nd lok.kks) hlen
    cases lot with
    | nil => exact (hne rfl).elim
    | cons p rest =>
    have hp0 := hlv
    cases hp0 with
    | @cons _ v0 _ lvr hp hrest =>
    obtain ⟨b, e, rfl, hb, he⟩ := ph_inv hp
    have hpk : p ∈ ks := lok.kks p List.mem_cons_self
    have next : ∀ (u3 : Option V), ∃ (pcs : List (List Ph × List Nat)) (pv : List V) (u3' : Option V), [some (.ref x), some (.ref d), some (.ref fl), u3] = [some (.ref x), some (.ref d), some (.ref fl), u3'] ∧ Same Hb H1' ∧ H1' ll = some (.lst us) ∧ Paired (LotAt K H1' (· = fl)) lots us ∧ H1' fl = some (.lst pv) ∧ NKs K H1' (pcs.map pieceK) pv ∧ pcs.length ≤ i + 1 ∧ ∀ pc ∈ pcs, PcOk L t ks pc :=
      fun u3 => ⟨pcs, pv, _, rfl, sm, hl1, hlo, hfl, hpv, by omega, hpc⟩
    obtain ⟨kvp, l, ls, hkd, hval, hl, hls⟩ := ((km.same sm).r).get hpk
    refine ⟨_, rfl, _, _, rfl, .inl (.inl (.inl hla)), _, _, rfl, rfl, _, rfl, ?_⟩
    by_cases h1 : 1 < (V.ref b :: lvr).length
    rw [decide_eq_true (by omega)]
    refine iteT (iteT ?_)
    rotate_left 1
    rw [decide_eq_false (by omega)]
    refine iteF ⟨_, rfl, la, _, _, _, rfl, rfl, .inl (.inl hla), atI_nat (j := 0) rfl, _, rfl, _, rfl, la, _, _, _, rfl, rfl, .inl (.inl hla), atI_nat (j := 0) rfl, d, b, kvp, p, _, rfl, rfl, hkd, hp, hval, phK p, lineK L t p, l, ls, hp, rfl, .inr (.inl (.inl hl)), hls, intK_ph p, ?_, Nat.le_trans (depth_ph p) (by decide), _, rfl, ?_⟩
    · have : lineK L t p = (suc L t p).map phK := lineK_suc L t p
      rw [this]
      exact intKs_ph _
    cases decide (phK p ∈ lineK L t p)
    exact iteF (next _)
    refine iteT ?_
    all_goals
      have hlx : SqL K H1' la (V.ref b :: lvr) := .inl (.inl hla)
      obtain ⟨es, hperm, hes⟩ := sortN_out hlv (PySem.W.dataLe false fun b => b.1.data)
      obtain ⟨lot', hp', rfl⟩ := perm_map hperm.symm _ rfl
      refine ⟨_, rfl, .inl ⟨rfl, _, .inl (.inl hfl)⟩, _, rfl, la, _, (p :: rest).map phK, rfl, .inl hlx, hlv, alk_ph _, by rw [hlvl]; exact sz _ (by omega), fun s1 ns1 => ?_⟩
      generalize ((((p :: rest).map phK).zip (V.ref b :: lvr)).mergeSort (PySem.W.dataLe false fun b => b.1.data)).map (·.2) = ys at hes
      refine ⟨s1, ys, rfl, .inl (.inl upd_same), fun tp ntp => ?_⟩
      have s34 := Same.trans (same_new (o := .lst ys) ns1) (same_new (o := .tup ys) ntp)
      have htp : SqT K (upd (upd H1' s1 (.lst ys)) tp (.tup ys)) tp ys := .inl (.inl upd_same)
      generalize upd (upd H1' s1 (.lst ys)) tp (.tup ys) = H4 at *
      refine ⟨_, rfl, _, rfl, x, la, t, R, L, ks, _, p :: rest, rfl, pl.same (Same.trans sB (Same.trans sm s34)), wf, s34 _ _ hla, NKs.tk (Tk.same s34) _ _ hlv, lok, fun pr rs H5 s5 hpr hrl hrin => ?_⟩
      refine ⟨sz 2 (by decide), fun t2 n2 => ?_⟩
      have s6 := same_new (o := .tup [.ref tp, .ref pr]) n2
      have s46 := Same.trans s5 s6
      have s36 := Same.trans s34 s46
      have hpvl : pv.length = pcs.length := by have := hpv.length; simpa using this
      refine ⟨fl, pv, _, rfl, rfl, s36 _ _ hfl, Nat.lt_of_le_of_lt (m := 2000) (by omega) (by decide), ?_⟩
      have ht2 : upd H5 t2 (.tup [.ref tp, .ref pr]) t2 = some (.tup [.ref tp, .ref pr]) := upd_same
      generalize upd H5 t2 (.tup [.ref tp, .ref pr]) = H6 at *
      have hfl6 := s36 _ _ hfl
      have tk7 : Tk H6 (upd H6 fl (.lst (pv ++ [.ref t2]))) := Tk.mut hfl6 True.intro
      have sb7 : SB (· = fl) H6 (upd H6 fl (.lst (pv ++ [.ref t2]))) := (SB.refl (fun b e => by subst e; rw [hfl6]; exact True.intro)).upd rfl
      refine ⟨pcs ++ [(lot', rs)], pv ++ [.ref t2], _, rfl, Same.mut (Same.trans sm s36) nfl, sb7.out _ _ llfl (s36 _ _ hl1), ?_, upd_same, ?_, by simp; omega, ?_⟩
      · exact Paired.mapP hlo fun _ _ z => (z.same s36).sb sb7 fun b us n _ => n
      · rw [List.map_append]
        refine NKs.append (NKs.tk (Tk.trans (Tk.same s36) tk7) _ _ hpv) (.cons ?_ .nil)
        exact two_mk (.inl (.inl (by rw [upd_ne (fun e => by rw [e, hfl6] at ht2; cases ht2)]; exact ht2))) (.tup (tk7.sqt (sqT s46 htp)) (NKs.tk (Tk.trans (Tk.same (Same.trans s34 s46)) tk7) _ _ hes)) (nums_mk (tk7.sqt (sqT s6 hpr)))
      · intro pc hpcm
        rcases List.mem_append.mp hpcm with h | h
        · exact hpc pc h
        · simp at h
          subst h
          exact ⟨hrl, p :: rest, lok, hrin⟩
  · rintro σ H1 ⟨pcs, pv, u3, rfl, sm, hl1, hlo, hfl, hpv, hpl, hpc⟩
    have hpvl : pv.length = pcs.length := by have := hpv.length; simpa using this
    obtain ⟨es, hperm, hes⟩ := sortN_out hpv (PySem.W.dataLe false fun b => b.1.data)
    obtain ⟨pcs', hp', rfl⟩ := perm_map hperm.symm _ rfl
    refine ⟨_, rfl, fl, pv, pcs.map pieceK, rfl, .inl (.inl (.inl hfl)), hpv, alk_piece pcs, by rw [hpvl]; exact sz _ (by omega), fun s1 ns1 => ?_⟩
    generalize (((pcs.map pieceK).zip pv).mergeSort (PySem.W.dataLe false fun b => b.1.data)).map (·.2) = ys at *
    exact q s1 ys pcs' _ (Same.trans sB (Same.trans sm (same_new ns1))) (Same.free (Same.trans sB sm) ns1) upd_same (NKs.tk (Tk.new ns1) _ _ hes) (by rw [← hp'.length_eq]; omega) fun pc h => hpc pc (hp'.mem_iff.mpr h)
abbrev N_web : List Str := ["plan", "found", "lot", "rows", "pair"]
theorem sc_web : FnScope N_web ["plan"] (defScope s_web) := ⟨rfl, rfl, rfl, by decide +kernel, rfl, by decide +kernel, by decide +kernel⟩
def sp_web (P : Program) (w : World) (K : PySem.W.Frag) : Sp := fun vs H Q _ => ∃ (x : Addr) (t : List Item) (R L : Nat) (ks : List Ph), vs = [.ref x] ∧ PlanAt P w K H x R L t ks ∧ WF R L t ∧
  ∀ a us (ps : List (Nat × Nat)) H', Same H H' → SqT K H' a us → NKs K H' (ps.map pairK) us → ps.length ≤ 100000 → (∀ p ∈ ps, Acr L t p.1 p.2) → Q (.ref a) H'
theorem prs_len {rs : List Nat} (h : rs.length ≤ 6) : (prs rs).length ≤ 36 := Nat.le_trans (prsN_len rs rs.length) (Nat.mul_le_mul h h)
theorem f_web (c : Cn K mg) : C8.Cal P w K mg base 4 "web" (sp_web P w K) [] := by
  have h_kept_pieces := f_kept_pieces (P := P) (w := w) (base := base) c
  have h_pairs_among := f_pairs_among (P := P) (w := w) (base := base) c
  refine cal_of (N := N_web) c.g_web c.d_web sc_web (fun _ _ _ _ _ _ us hl => match us, hl with | [_], _ => rfl) (fun vs H Q E h => ?len) (fun cdv A outer s H vs Q E hr h => ?_)
  case len => obtain ⟨x, t, R, L, ks, rfl, _⟩ := h; rfl
  obtain ⟨x, t, R, L, ks, rfl, pl, wf, q⟩ := h
  refine ⟨_, (pss_cons (ps_set (i := 1) sc_web.nd rfl (Or.inl rfl) (knnew P w))
      (pss_cons (ps_for PassesOwn.never rfl (kpi_list K (C8.pe_c h_kept_pieces hr (by decide) (by rfl) (pa_cons (pv 0) pa_nil))) (kpg_tup K (pgs_cons (pg_name (i := 2) sc_web.nd rfl (Or.inl rfl)) (pgs_cons (pg_name (i := 3) sc_web.nd rfl (Or.inl rfl)) pgs_nil))) (pss_one (ps_for PassesOwn.never rfl (kpi_list K (C8.pe_c h_pairs_among hr (by decide) (by rfl) (pa_cons (pv 3) pa_nil))) (pg_name (i := 4) sc_web.nd rfl (Or.inl rfl)) (pss_one (knput P w K EQ hr (pv 1) (pv 4) pe_bl)))))
      (pss_one (ps_ret (pe_callTy (r := rTupOf K) (kc_tuple K) (by rfl) c.z_tuple (by decide +kernel) (pa_cons (pe_callB (r := rSortN P w K) (kc_sorted P w K hr) (by rfl) c.z_sorted (by decide +kernel) (pa_cons (pv 1) pa_nil)) pa_nil)))))), ?_⟩
  have all : AllPh L t ks := by obtain ⟨_, _, _, _, _, _, _, _, a⟩ := pl; exact a
  intro fd nfd hsys
  have sfd := same_new (o := NDo P w fd []) nfd
  have hnd0 : ND P w K (upd H fd (NDo P w fd [])) EQ fd ([] : List ((Nat × Nat) × V)) := ND.empty hsys upd_same
  generalize upd H fd (NDo P w fd []) = Ha at *
  refine ⟨_, rfl, x, t, R, L, ks, rfl, pl.same sfd, wf, fun l us pcs Hb sB nl hl hus hpl hpc => ?_⟩
  have lfd : l ≠ fd := fun e => by
    subst e
    obtain ⟨o, ho⟩ := hnd0.some
    rw [ho] at nl
    cases nl
  have husl : us.length = pcs.length := by have := hus.length; simpa using this
  refine ⟨l, rfl, ⟨us, .inl (.inl hl)⟩, ?_⟩
  refine for_it (walk_list (xs := us)) (fun i σ H1 => ∃ (kv : List ((Nat × Nat) × V)) (ps : List (Nat × Nat)) (u2 u3 u4 : Option V), σ = [some (.ref x), some (.ref fd), u2, u3, u4] ∧ Same H H1 ∧ H1 l = some (.lst us) ∧ NKs K H1 (pcs.map pieceK) us ∧ ND P w K H1 EQ fd kv ∧ kv.map (·.1) = ps ∧ ps.length ≤ 36 * i ∧ ∀ p ∈ ps, Acr L t p.1 p.2) ?_ ?_ ?_ ?_
  · exact ⟨[], [], _, _, _, rfl, Same.trans sfd sB, hl, hus, hnd0.same sB, rfl, by simp, by simp⟩
  · rintro i σ H1 _ ⟨_, _, _, _, _, _, _, h, _⟩
    exact .inl (.inl h)
  · rintro i v σ H1 H1' hi ⟨kv, ps, u2, u3, u4, rfl, sm, hl1, hus1, hnd, hkv, hpsl, hps⟩ ⟨e1, ex⟩
    subst e1
    obtain ⟨k, hk1, hk2⟩ := hus1.getV ex
    rw [List.getElem?_map] at hk1
    obtain ⟨pc, hpcm, rfl⟩ := Option.map_eq_some_iff.mp hk1
    obtain ⟨hrl, lot, lok, hrin⟩ := hpc pc (List.mem_of_getElem? hpcm)
    obtain ⟨ta, u, z, rfl, h1, h2, h3⟩ := two_inv hk2
    obtain ⟨ra, rfl, hra⟩ := nums_inv h3
    refine ⟨ta, _, rfl, h1, rfl, _, _, rfl, _, _, rfl, rfl, ?_⟩
    refine ⟨_, rfl, ra, pc.2, rfl, .inr hra, by omega, fun l2 us2 H2 s2 nl2 hl2 hus2 => ?_⟩
    have l2fd : l2 ≠ fd := fun e => by
      subst e
      obtain ⟨o, ho⟩ := hnd.some
      rw [ho] at nl2
      cases nl2
    have hul2 : us2.length = (prs pc.2).length := by have := hus2.length; simpa using this
    refine ⟨l2, rfl, ⟨us2, .inl (.inl hl2)⟩, ?_⟩
    refine for_it (walk_list (xs := us2)) (fun j σ H3 => ∃ (kv : List ((Nat × Nat) × V)) (ps : List (Nat × Nat)) (u4 : Option V), σ = [some (.ref x), some (.ref fd), some u, some (.ref ra), u4] ∧ Same H H3 ∧ H3 l = some (.lst us) ∧ NKs K H3 (pcs.map pieceK) us ∧ H3 l2 = some (.lst us2) ∧ NKs K H3 ((prs pc.2).map pairK) us2 ∧ ND P w K H3 EQ fd kv ∧ kv.map (·.1) = ps ∧ ps.length ≤ 36 * i + j ∧ ∀ p ∈ ps, Acr L t p.1 p.2) ?_ ?_ ?_ ?_
    · exact ⟨kv, ps, _, rfl, Same.trans sm s2, s2 _ _ hl1, NKs.tk (Tk.same s2) _ _ hus1, hl2, hus2, hnd.same s2, hkv, by omega, hps⟩
    · rintro j σ H3 _ ⟨_, _, _, _, _, _, _, h, _⟩
      exact .inl (.inl h)
    · rintro j v3 σ H3 H3' hj ⟨kv3, ps3, u4, rfl, sm3, hl3, hus3, hl23, hus23, hnd3, hkv3, hpsl3, hps3⟩ ⟨e1, ex3⟩
      subst e1
      obtain ⟨k, hk1, hk3⟩ := hus23.getV ex3
      rw [List.getElem?_map] at hk1
      obtain ⟨pp, hppm, rfl⟩ := Option.map_eq_some_iff.mp hk1
      obtain ⟨pa, w1, w2, rfl, _, _, _⟩ := two_inv hk3
      obtain ⟨hr1, hr2⟩ := mem_prs (List.mem_of_getElem? hppm)
      have hkl : kv3.length = ps3.length := by rw [← hkv3, List.length_map]
      have hpl36 := prs_len hrl
      have hi24 : i < 1024 := by omega
      refine ⟨_, rfl, _, rfl, fd, pa, kv3, pp, rfl, rfl, hnd3, hk3, by rw [hkl]; exact Nat.lt_of_le_of_lt (m := 100000) (by omega) (by decide), fun ob hno => ?_⟩
      have hkk := keys_putG hkv3 pp (.bl true)
      have tk4 : Tk H3' (upd H3' fd ob) := Tk.upd hnd3.not
      refine ⟨_, _, _, rfl, Same.mut sm3 nfd, by rw [upd_ne lfd]; exact hl3, NKs.tk tk4 _ _ hus3, by rw [upd_ne l2fd]; exact hl23, NKs.tk tk4 _ _ hus23, hno, hkk, ?_, ?_⟩
      · split
        · omega
        · rw [List.length_append, List.length_singleton]
          omega
      · intro y hy
        split at hy
        · exact hps3 y hy
        · rcases List.mem_append.mp hy with h | h
          · exact hps3 y h
          · simp at h
            subst h
            exact piece_acr lok all (hrin _ hr1) (hrin _ hr2)
    · rintro σ H3 ⟨kv3, ps3, u4, rfl, sm3, hl3, hus3, hl23, hus23, hnd3, hkv3, hpsl3, hps3⟩
      have := prs_len hrl
      exact ⟨kv3, ps3, _, _, _, rfl, sm3, hl3, hus3, hnd3, hkv3, by omega, hps3⟩
  · rintro σ H1 ⟨kv, ps, u2, u3, u4, rfl, sm, hl1, hus1, hnd, hkv, hpsl, hps⟩
    obtain ⟨xs, hsrc, hxs⟩ := hnd.r.src
    rw [hkv] at hxs
    replace hxs : NKs K H1 (ps.map pairK) xs := hxs
    have hxl : xs.length = ps.length := by have := hxs.length; simpa using this
    obtain ⟨es, hperm, hes⟩ := sortN_out hxs (PySem.W.dataLe false fun b => b.1.data)
    obtain ⟨ps', hp', rfl⟩ := perm_map hperm.symm _ rfl
    have hb : ps.length ≤ 100000 := by omega
    refine ⟨_, rfl, fd, xs, ps.map pairK, rfl, hsrc, hxs, alk_pair ps, by rw [hxl]; exact sz _ (by omega), fun s1 ns1 => ?_⟩
    generalize (((ps.map pairK).zip xs).mergeSort (PySem.W.dataLe false fun b => b.1.data)).map (·.2) = ys at *
    refine ⟨s1, ys, rfl, .inl (.inl upd_same), fun tp ntp => ?_⟩
    have s2 := Same.trans (same_new (o := .lst ys) ns1) (same_new (o := .tup ys) ntp)
    exact q tp ys ps' _ (Same.trans sm s2) (.inl (.inl upd_same)) (NKs.tk (Tk.same s2) _ _ hes) (by rw [← hp'.length_eq]; exact hb) fun p h => hps p (hp'.mem_iff.mpr h)
end
end G6

-- G6F_At
namespace G6
open PySem PySem.Spec PyProof.Rows L2
/-- the rows of a pair cross -/
noncomputable def acrB (L : Nat) (t : List Item) (p : Nat × Nat) : Bool := @decide (Acr L t p.1 p.2 ∨ Acr L t p.2 p.1) (Classical.propDecidable _)
theorem acrB_iff {L : Nat} {t : List Item} {p : Nat × Nat} : acrB L t p = true ↔ Acr L t p.1 p.2 ∨ Acr L t p.2 p.1 := @decide_eq_true_iff _ (Classical.propDecidable _)
noncomputable def crs (R L : Nat) (t : List Item) : List (Nat × Nat) := (prs (List.range R)).filter (acrB L t)
theorem filter_range {α : Type} (d : α) (f : α → Bool) (l : List α) : ((List.range l.length).filter fun i => f (l.getD i d)).map (fun i => l.getD i d) = l.filter f := by
  have e : l = (List.range l.length).map fun i => l.getD i d := by
    refine List.ext_getElem (by simp) fun i h1 h2 => ?_
    simp [h1]
  conv => rhs; rw [e]
  rw [List.filter_map]
  rfl
theorem rgV_range (R : Nat) : rgV 0 (R : Int) = vI (List.range R) := by
  unfold rgV vI
  have : ((R : Int) - 0).toNat = R := by omega
  rw [this]
  refine List.map_congr_left fun i _ => ?_
  rw [Int.zero_add]
section
variable {P : Program} {w : World} {K : PySem.W.Frag} {mg : Str → Option Value} {base : Heap}
abbrev N_crosses : List Str := ["plan", "pair"]
theorem sc_crosses : FnScope N_crosses ["plan"] (defScope s_crosses) := ⟨rfl, rfl, rfl, by decide +kernel, rfl, by decide +kernel, by decide +kernel⟩
def sp_crosses (P : Program) (w : World) (K : PySem.W.Frag) : Sp := fun vs H Q _ => ∃ (x : Addr) (t : List Item) (R L : Nat) (ks : List Ph), vs = [.ref x] ∧ PlanAt P w K H x R L t ks ∧ WF R L t ∧
  ∀ a us (ps : List (Nat × Nat)) H', Same H H' → SqT K H' a us → NKs K H' (ps.map pairK) us → ps.Perm (crs R L t) → Q (.ref a) H'
theorem f_crosses (c : Cn K mg) : C8.Cal P w K mg base 4 "crosses" (sp_crosses P w K) [] := by
  have h_is_across := f_is_across (P := P) (w := w) (base := base) c
  have h_pairs_among := f_pairs_among (P := P) (w := w) (base := base) c
  refine cal_of (N := N_crosses) c.g_crosses c.d_crosses sc_crosses (fun _ _ _ _ _ _ us hl => match us, hl with | [_], _ => rfl) (fun vs H Q E h => ?len) (fun cdv A outer s H vs Q E hr h => ?_)
  case len => obtain ⟨x, t, R, L, ks, rfl, _⟩ := h; rfl
  obtain ⟨x, t, R, L, ks, rfl, pl, wf, q⟩ := h
  refine ⟨_, (pss_one (ps_ret (pe_callTy (r := rTupOf K) (kc_tuple K) (by rfl) c.z_tuple (by decide +kernel) (pa_cons (pe_callB (r := rSortN P w K) (kc_sorted P w K hr) (by rfl) c.z_sorted (by decide +kernel) (pa_cons (pe_lc (own := [("pair", 1)]) (g := gName 1) rfl sc_crosses.nd (kpi_list K (C8.pe_c h_pairs_among hr (by decide) (by rfl) (pa_cons (pe_listRg rfl (by rfl) c.z_list (prg_1 (by rfl) c.z_range (kfld K (pv 0)))) pa_nil))) (blkOk_by (own := [("pair", 1)]) (N := N_crosses) (sc := defScope s_crosses) (by decide +kernel)) (fun _ _ _ _ _ => (pg_name (i := 1) sc_crosses.nd rfl (Or.inl rfl))) (fun _ _ _ _ _ => (pts_one (pt_val (C8.pe_c h_is_across hr (by decide) (by rfl) (pa_cons (pv 0) (pa_cons (kixT K (pv 1) pe_int) (pa_cons (kixT K (pv 1) pe_int) pa_nil))))))) (fun _ _ _ _ _ => (pv 1))) pa_nil)) pa_nil)))), ?_⟩
  have pl0 := pl
  obtain ⟨dx, ta, dk, ws, hx, hta, htw, km, all⟩ := pl0
  have h6 := wf.r6
  refine ⟨_, rfl, x, _, _, _, _, rfl, hx, c.cPlan, c.nRows, rfl, _, rfl, RgOk.of_le (by decide) (by omega) (by decide) (by omega), fun rl nrl => ?_⟩
  rw [rgV_range] at *
  have s1 := same_new (o := .lst (vI (List.range R))) nrl
  refine ⟨rl, List.range R, rfl, .inl (.inl (.inl upd_same)), by simp; omega, fun l us H2 s2 nl hl hus => ?_⟩
  have s12 := Same.trans s1 s2
  have hul : us.length = (prs (List.range R)).length := by have := hus.length; simpa using this
  have hpl : (prs (List.range R)).length ≤ 36 := prs_len (by simp; omega)
  refine ⟨l, rfl, ⟨us, .inl (.inl hl)⟩, fun D nD => ?_⟩
  refine lc_all (walk_list (xs := us)) (fun i y H => NK K H (pairK ((prs (List.range R)).getD i (0, 0))) y) (fun i => acrB L t ((prs (List.range R)).getD i (0, 0))) nD (by rw [hul]; exact sz _ (by omega)) (fun H5 s5 => .inl (.inl (s5 _ _ hl))) (fun i H x H' y => by rw [y.1]; exact Same.refl _) (fun i y H H' s' r => NK.tk (Tk.same s') _ _ r) (fun i y H _ _ e r => NK.tk (Tk.mut e True.intro) _ _ r) ?_ ?_
  · intro i v H3 H4 hi sm _ ⟨e1, ex⟩ Qy Qn hy hn
    subst e1
    obtain ⟨k, hk1, hk2⟩ := (NKs.tk (Tk.same sm) _ _ hus).getV ex
    rw [List.getElem?_map] at hk1
    obtain ⟨pp, hpp, rfl⟩ := Option.map_eq_some_iff.mp hk1
    have epp : (prs (List.range R)).getD i (0, 0) = pp := by rw [List.getD_eq_getElem?_getD, hpp]; rfl
    rw [epp] at hy hn
    obtain ⟨pa, w1, w2, rfl, hpa, h1, h2⟩ := two_inv hk2
    have := num_inv h1
    subst this
    have := num_inv h2
    subst this
    refine ⟨rfl, _, rfl, _, rfl, _, _, _, _, rfl, rfl, hpa, rfl, _, rfl, _, _, _, _, rfl, rfl, hpa, rfl, x, pp.1, pp.2, t, R, L, ks, rfl, pl.same (Same.trans s12 sm), wf, fun k H5 s5 hk => ?_⟩
    refine ⟨k, rfl, ?_⟩
    have hkk : acrB L t pp = k := by
      have : acrB L t pp = true ↔ k = true := acrB_iff.trans hk.symm
      exact Bool.eq_iff_iff.mpr this
    cases k with
    | true => exact iteT ⟨_, rfl, hy hkk _ _ s5 (NK.tk (Tk.same s5) _ _ hk2)⟩
    | false => exact iteF (hn hkk _ s5)
  · intro H3 ys sm hys hp
    have hnk : NKs K H3 ((((List.range us.length).filter fun i => acrB L t ((prs (List.range R)).getD i (0, 0))).map fun i => (prs (List.range R)).getD i (0, 0)).map pairK) ys := by
      rw [List.map_map]
      exact nks_paired (f := fun i => pairK ((prs (List.range R)).getD i (0, 0))) hp
    rw [hul, filter_range] at hnk
    replace hnk : NKs K H3 ((crs R L t).map pairK) ys := hnk
    have hyl : ys.length = (crs R L t).length := by have := hnk.length; simpa using this
    have hcl : (crs R L t).length ≤ 36 := Nat.le_trans (List.length_filter_le _ _) hpl
    obtain ⟨es, hperm, hes⟩ := sortN_out hnk (PySem.W.dataLe false fun b => b.1.data)
    obtain ⟨ps', hp', rfl⟩ := perm_map hperm.symm _ rfl
    refine ⟨D, ys, (crs R L t).map pairK, rfl, .inl (.inl (.inl hys)), hnk, alk_pair _, by rw [hyl]; exact sz _ (by omega), fun p1 np1 => ?_⟩
    generalize ((((crs R L t).map pairK).zip ys).mergeSort (PySem.W.dataLe false fun b => b.1.data)).map (·.2) = zs at *
    refine ⟨p1, zs, rfl, .inl (.inl upd_same), fun tp ntp => ?_⟩
    have s4 := Same.trans (same_new (o := .lst zs) np1) (same_new (o := .tup zs) ntp)
    exact q tp zs ps' _ (Same.trans s12 (Same.trans sm s4)) (.inl (.inl upd_same)) (NKs.tk (Tk.same s4) _ _ hes) hp'.symm
abbrev N_fewest_hands : List Str := ["plan"]
theorem sc_fewest_hands : FnScope N_fewest_hands ["plan"] (defScope s_fewest_hands) := ⟨rfl, rfl, rfl, by decide +kernel, rfl, by decide +kernel, by decide +kernel⟩
def sp_fewest_hands (P : Program) (w : World) (K : PySem.W.Frag) : Sp := fun vs H Q _ => ∃ (x : Addr) (t : List Item) (R L : Nat) (ks : List Ph), vs = [.ref x] ∧ PlanAt P w K H x R L t ks ∧ WF R L t ∧
  ∀ (m : Nat) (ps : List (Nat × Nat)) H', Same H H' → (∀ p ∈ ps, Acr L t p.1 p.2) → (hue (badP ps) R).1 = m → Q (.int (m : Int)) H'
theorem f_fewest_hands (c : Cn K mg) : C8.Cal P w K mg base 10 "fewest_hands" (sp_fewest_hands P w K) [] := by
  have h_hues := f_hues (P := P) (w := w) (base := base) c
  have h_web := f_web (P := P) (w := w) (base := base) c
  refine cal_of (N := N_fewest_hands) c.g_fewest_hands c.d_fewest_hands sc_fewest_hands (fun _ _ _ _ _ _ us hl => match us, hl with | [_], _ => rfl) (fun vs H Q E h => ?len) (fun cdv A outer s H vs Q E hr h => ?_)
  case len => obtain ⟨x, t, R, L, ks, rfl, _⟩ := h; rfl
  obtain ⟨x, t, R, L, ks, rfl, pl, wf, q⟩ := h
  refine ⟨_, (pss_one (ps_ret (kixT K (C8.pe_c h_hues hr (by decide) (by rfl) (pa_cons (kfld K (pv 0)) (pa_cons (C8.pe_c h_web hr (by decide) (by rfl) (pa_cons (pv 0) pa_nil)) pa_nil))) pe_int))), ?_⟩
  have pl0 := pl
  obtain ⟨dx, ta, dk, ws, hx, hta, htw, km, all⟩ := pl0
  refine ⟨_, rfl, x, _, _, _, _, rfl, hx, c.cPlan, c.nRows, rfl, _, rfl, x, t, R, L, ks, rfl, pl, wf, fun a us ps H2 s2 ha hus hpl hps => ?_⟩
  refine ⟨R, a, us, ps, rfl, ha, hus, wf.r1, wf.r6, fun a3 b3 m d H3 s3 hh h1 h2 => ?_⟩
  exact ⟨_, _, _, _, rfl, rfl, h1, rfl, q m ps _ (Same.trans s2 s3) hps (by rw [hh])⟩
abbrev N_fewest_once : List Str := ["plan"]
theorem sc_fewest_once : FnScope N_fewest_once ["plan"] (defScope s_fewest_once) := ⟨rfl, rfl, rfl, by decide +kernel, rfl, by decide +kernel, by decide +kernel⟩
def sp_fewest_once (P : Program) (w : World) (K : PySem.W.Frag) : Sp := fun vs H Q _ => ∃ (x : Addr) (t : List Item) (R L : Nat) (ks : List Ph), vs = [.ref x] ∧ PlanAt P w K H x R L t ks ∧ WF R L t ∧
  ∀ (m : Nat) (ps : List (Nat × Nat)) H', Same H H' → ps.Perm (crs R L t) → (hue (badP ps) R).1 = m → Q (.int (m : Int)) H'
theorem f_fewest_once (c : Cn K mg) : C8.Cal P w K mg base 10 "fewest_once" (sp_fewest_once P w K) [] := by
  have h_hues := f_hues (P := P) (w := w) (base := base) c
  have h_crosses := f_crosses (P := P) (w := w) (base := base) c
  refine cal_of (N := N_fewest_once) c.g_fewest_once c.d_fewest_once sc_fewest_once (fun _ _ _ _ _ _ us hl => match us, hl with | [_], _ => rfl) (fun vs H Q E h => ?len) (fun cdv A outer s H vs Q E hr h => ?_)
  case len => obtain ⟨x, t, R, L, ks, rfl, _⟩ := h; rfl
  obtain ⟨x, t, R, L, ks, rfl, pl, wf, q⟩ := h
  refine ⟨_, (pss_one (ps_ret (kixT K (C8.pe_c h_hues hr (by decide) (by rfl) (pa_cons (kfld K (pv 0)) (pa_cons (C8.pe_c h_crosses hr (by decide) (by rfl) (pa_cons (pv 0) pa_nil)) pa_nil))) pe_int))), ?_⟩
  have pl0 := pl
  obtain ⟨dx, ta, dk, ws, hx, hta, htw, km, all⟩ := pl0
  refine ⟨_, rfl, x, _, _, _, _, rfl, hx, c.cPlan, c.nRows, rfl, _, rfl, x, t, R, L, ks, rfl, pl, wf, fun a us ps H2 s2 ha hus hps => ?_⟩
  refine ⟨R, a, us, ps, rfl, ha, hus, wf.r1, wf.r6, fun a3 b3 m d H3 s3 hh h1 h2 => ?_⟩
  exact ⟨_, _, _, _, rfl, rfl, h1, rfl, q m ps _ (Same.trans s2 s3) hps (by rw [hh])⟩
abbrev N_least_once : List Str := ["plan"]
theorem sc_least_once : FnScope N_least_once ["plan"] (defScope s_least_once) := ⟨rfl, rfl, rfl, by decide +kernel, rfl, by decide +kernel, by decide +kernel⟩
def sp_least_once (P : Program) (w : World) (K : PySem.W.Frag) : Sp := fun vs H Q _ => ∃ (x : Addr) (t : List Item) (R L : Nat) (ks : List Ph), vs = [.ref x] ∧ PlanAt P w K H x R L t ks ∧ WF R L t ∧
  ∀ (b : Addr) (d : List Nat) (ps : List (Nat × Nat)) H', Same H H' → ps.Perm (crs R L t) → (hue (badP ps) R).2 = d → SqT K H' b (vI d) → Q (.ref b) H'
theorem f_least_once (c : Cn K mg) : C8.Cal P w K mg base 10 "least_once" (sp_least_once P w K) [] := by
  have h_hues := f_hues (P := P) (w := w) (base := base) c
  have h_crosses := f_crosses (P := P) (w := w) (base := base) c
  refine cal_of (N := N_least_once) c.g_least_once c.d_least_once sc_least_once (fun _ _ _ _ _ _ us hl => match us, hl with | [_], _ => rfl) (fun vs H Q E h => ?len) (fun cdv A outer s H vs Q E hr h => ?_)
  case len => obtain ⟨x, t, R, L, ks, rfl, _⟩ := h; rfl
  obtain ⟨x, t, R, L, ks, rfl, pl, wf, q⟩ := h
  refine ⟨_, (pss_one (ps_ret (kixT K (C8.pe_c h_hues hr (by decide) (by rfl) (pa_cons (kfld K (pv 0)) (pa_cons (C8.pe_c h_crosses hr (by decide) (by rfl) (pa_cons (pv 0) pa_nil)) pa_nil))) pe_int))), ?_⟩
  have pl0 := pl
  obtain ⟨dx, ta, dk, ws, hx, hta, htw, km, all⟩ := pl0
  refine ⟨_, rfl, x, _, _, _, _, rfl, hx, c.cPlan, c.nRows, rfl, _, rfl, x, t, R, L, ks, rfl, pl, wf, fun a us ps H2 s2 ha hus hps => ?_⟩
  refine ⟨R, a, us, ps, rfl, ha, hus, wf.r1, wf.r6, fun a3 b3 m d H3 s3 hh h1 h2 => ?_⟩
  exact ⟨_, _, _, _, rfl, rfl, h1, rfl, q b3 d ps _ (Same.trans s2 s3) hps (by rw [hh]) h2⟩
end
end G6

-- G6F_Ax
namespace G6
open PySem PySem.Spec PyProof.Rows L2
section
variable {P : Program} {w : World} {K : PySem.W.Frag} {mg : Str → Option Value} {base : Heap}
noncomputable def crsN (R L : Nat) (t : List Item) (i : Nat) : List (Nat × Nat) := (prsN (List.range R) i).filter (acrB L t)
noncomputable def crsJ (L : Nat) (t : List Item) (i j : Nat) : List (Nat × Nat) := ((List.range j).map fun r => (r, i)).filter (acrB L t)
theorem crsN_succ {R L : Nat} {t : List Item} {i : Nat} (h : i < R) : crsN R L t (i + 1) = crsN R L t i ++ crsJ L t i i := by
  unfold crsN crsJ
  rw [prsN_succ, List.filter_append, List.take_range]
  have e1 : min i R = i := by omega
  have e2 : (List.range R).getD i 0 = i := by rw [List.getD_eq_getElem?_getD, List.getElem?_range h]; rfl
  rw [e1, e2]
theorem crsJ_succ {L : Nat} {t : List Item} {i j : Nat} : crsJ L t i (j + 1) = crsJ L t i j ++ if acrB L t (j, i) = true then [(j, i)] else [] := by
  unfold crsJ
  rw [List.range_succ, List.map_append, List.filter_append]
  congr 1
  by_cases h : acrB L t (j, i) = true <;> simp [h]
theorem crsN_len {R L : Nat} {t : List Item} {i : Nat} (h6 : R ≤ 6) (hi : i ≤ R) : (crsN R L t i).length ≤ 36 := by
  have h1 := List.length_filter_le (acrB L t) (prsN (List.range R) i)
  have h2 := prsN_len (List.range R) i
  have h3 : i * (List.range R).length ≤ 6 * 6 := Nat.mul_le_mul (by omega) (by simp; omega)
  unfold crsN
  omega
theorem crsJ_len {L : Nat} {t : List Item} {i j : Nat} : (crsJ L t i j).length ≤ j := by
  have h1 := List.length_filter_le (acrB L t) ((List.range j).map fun r => (r, i))
  rw [List.length_map, List.length_range] at h1
  exact h1
abbrev N_law_crosses : List Str := ["_law_spec_here", "_law_found", "_law_other", "_law_one"]
theorem sc_law_crosses : FnScope N_law_crosses ["_law_spec_here"] (defScope s_law_crosses) := ⟨rfl, rfl, rfl, by decide +kernel, rfl, by decide +kernel, by decide +kernel⟩
def sp_law_crosses (K : PySem.W.Frag) : Sp := fun vs H Q _ => ∃ (sa : Addr) (t : List Item) (R L : Nat), vs = [.ref sa] ∧ SpecAt K H sa R L t ∧ WF R L t ∧ Small R L t ∧
  ∀ a us (ps : List (Nat × Nat)) H', Same H H' → SqT K H' a us → NKs K H' (ps.map pairK) us → ps.Perm (crs R L t) → Q (.ref a) H'
theorem f_law_crosses (c : Cn K mg) : C8.Cal P w K mg base 4 "_law_crosses" (sp_law_crosses K) [] := by
  have h_law_way_across := f_law_way_across (P := P) (w := w) (base := base) c
  refine cal_of (N := N_law_crosses) c.g_law_crosses c.d_law_crosses sc_law_crosses (fun _ _ _ _ _ _ us hl => match us, hl with | [_], _ => rfl) (fun vs H Q E h => ?len) (fun cdv A outer s H vs Q E hr h => ?_)
  case len => obtain ⟨sa, t, R, L, rfl, _⟩ := h; rfl
  obtain ⟨sa, t, R, L, rfl, sp, wf, sml, q⟩ := h
  refine ⟨_, (pss_cons (ps_set (i := 1) sc_law_crosses.nd rfl (Or.inl rfl) (pe_lst pa_nil))
      (pss_cons (ps_for PassesOwn.never rfl (pi_range1 (by rfl) c.z_range (pa_cons (kixT K (pv 0) pe_int) pa_nil)) (pg_name (i := 2) sc_law_crosses.nd rfl (Or.inl rfl)) (pss_one (ps_for PassesOwn.never rfl (pi_range1 (by rfl) c.z_range (pa_cons (pv 2) pa_nil)) (pg_name (i := 3) sc_law_crosses.nd rfl (Or.inl rfl)) (pss_one (ps_if (PW.pt (pw_or (pt_val (C8.pe_c h_law_way_across hr (by decide) (by rfl) (pa_cons (pv 0) (pa_cons (pv 3) (pa_cons (pv 2) pa_nil))))) (pw_or1 (pt_val (C8.pe_c h_law_way_across hr (by decide) (by rfl) (pa_cons (pv 0) (pa_cons (pv 2) (pa_cons (pv 3) pa_nil)))))))) (pss_one (ps_expr (kbm K PySem.F.slot_list_append PySem.F.type_list_append mt_append (pv 1) (pa_cons (pe_tup (pa_cons (pv 3) (pa_cons (pv 2) pa_nil))) pa_nil)))) pss_nil)))))
      (pss_one (ps_ret (pe_callTy (r := rTupOf K) (kc_tuple K) (by rfl) c.z_tuple (by decide +kernel) (pa_cons (pe_callB (r := rSortN P w K) (kc_sorted P w K hr) (by rfl) c.z_sorted (by decide +kernel) (pa_cons (pv 1) pa_nil)) pa_nil)))))), ?_⟩
  have sp0 := sp
  obtain ⟨ta, ws, hsa, hta, htw⟩ := sp0
  have h6 := wf.r6
  refine ⟨sz 0 (by decide), fun fl nfl => ?_⟩
  refine ⟨_, rfl, _, _, _, _, rfl, rfl, sqT (same_new nfl) hsa, rfl, (R : Int), rfl, by omega, by omega, ?_⟩
  refine for_it walk_range (fun i σ H1 => ∃ (fv : List V) (u2 u3 : Option V), σ = [some (.ref sa), some (.ref fl), u2, u3] ∧ Same H H1 ∧ H1 fl = some (.lst fv) ∧ NKs K H1 ((crsN R L t i).map pairK) fv) ?_ (fun _ _ _ _ _ => True.intro) ?_ ?_
  · exact ⟨[], _, _, rfl, same_new nfl, upd_same, by simp [crsN, prsN]; exact .nil⟩
  · rintro i x σ H1 H1' hi ⟨fv, u2, u3, rfl, sm, hfl, hfv⟩ ⟨e1, ex⟩
    subst e1 ex
    have hi' : i < R := by simpa using hi
    refine ⟨_, rfl, 0 + (i : Int), rfl, by omega, by omega, ?_⟩
    refine for_it walk_range (fun j σ H2 => ∃ (fv : List V) (u3 : Option V), σ = [some (.ref sa), some (.ref fl), some (.int (0 + (i : Int))), u3] ∧ Same H H2 ∧ H2 fl = some (.lst fv) ∧ NKs K H2 ((crsN R L t i ++ crsJ L t i j).map pairK) fv) ?_ (fun _ _ _ _ _ => True.intro) ?_ ?_
    · exact ⟨fv, _, rfl, sm, hfl, by simp only [crsJ, List.range_zero, List.map_nil, List.filter_nil, List.append_nil]; exact hfv⟩
    · rintro j x σ H2 H2' hj ⟨fv2, u3, rfl, sm2, hfl2, hfv2⟩ ⟨e1, ex⟩
      subst e1 ex
      have hj' : j < i := by omega
      have ei : (0 : Int) + (i : Int) = ((i : Nat) : Int) := Int.zero_add _
      have ej : (0 : Int) + (j : Int) = ((j : Nat) : Int) := Int.zero_add _
      have hl2 : fv2.length ≤ 50 := by
        have h1 := hfv2.length
        rw [List.length_map, List.length_append] at h1
        have h2 := crsN_len (L := L) (t := t) h6 (Nat.le_of_lt hi')
        have h3 := crsJ_len (L := L) (t := t) (i := i) (j := j)
        omega
      refine ⟨_, rfl, _, rfl, _, rfl, sa, j, i, t, R, L, by dsimp only; rw [ei, ej]; rfl, sp.tk (Tk.same sm2), wf, sml, fun k1 H3 s3 hk1 => ⟨k1, rfl, ?_⟩⟩
      have add : ∀ (D : Ends), (∀ σ H2, (∃ (fv : List V) (u3 : Option V), σ = [some (.ref sa), some (.ref fl), some (.int (0 + (i : Int))), u3] ∧ Same H H2 ∧ H2 fl = some (.lst fv) ∧ NKs K H2 ((crsN R L t i ++ crsJ L t i (j + 1)).map pairK) fv) → D.nx σ H2) → ∀ H9, Same H2' H9 → acrB L t (j, i) = true → tDrop (tBM K "list" rAppend (tVar 1) (tCons (tTup (tCons (tVar 3) (tCons (tVar 2) tNil))) tNil)) D
          [some (.ref sa), some (.ref fl), some (.int (0 + (i : Int))), some (.int (0 + (j : Int)))] H9 := by
        intro D hD H9 s9 hb
        have hfl9 := s9 _ _ hfl2
        refine ⟨_, rfl, .inl ⟨rfl, _, .inl (.inl hfl9)⟩, _, rfl, _, rfl, sz 2 (by decide), fun t1 n1 => ?_⟩
        have s1 := same_new (o := .tup [.int (0 + (j : Int)), .int (0 + (i : Int))]) n1
        have hfl1 := s1 _ _ hfl9
        refine ⟨fl, fv2, _, rfl, rfl, hfl1, Nat.lt_of_le_of_lt hl2 (by decide), ?_⟩
        have tm := Tk.mut (o := .lst (fv2 ++ [.ref t1])) hfl1 True.intro
        refine hD _ _ ⟨_, _, rfl, Same.mut (Same.trans sm2 (Same.trans s9 s1)) nfl, upd_same, ?_⟩
        rw [crsJ_succ, if_pos hb, ← List.append_assoc, List.map_append]
        refine NKs.append (NKs.tk (Tk.trans (Tk.same (Same.trans s9 s1)) tm) _ _ hfv2) (.cons (NK.tk tm _ _ (two_mk (.inl (.inl upd_same)) ?_ ?_)) .nil)
        · rw [ej]; exact .num _
        · rw [ei]; exact .num _
      have skip : ∀ H9, Same H2' H9 → acrB L t (j, i) = false → ∃ (fv : List V) (u3 : Option V), [some (V.ref sa), some (.ref fl), some (.int (0 + (i : Int))), some (.int (0 + (j : Int)))] = [some (.ref sa), some (.ref fl), some (.int (0 + (i : Int))), u3] ∧ Same H H9 ∧ H9 fl = some (.lst fv) ∧ NKs K H9 ((crsN R L t i ++ crsJ L t i (j + 1)).map pairK) fv := by
        intro H9 s9 hb
        refine ⟨fv2, _, rfl, Same.trans sm2 s9, s9 _ _ hfl2, ?_⟩
        rw [crsJ_succ, if_neg (by rw [hb]; decide), List.append_nil]
        exact NKs.tk (Tk.same s9) _ _ hfv2
      cases k1 with
      | true =>
        refine iteT (iteT (add _ (fun _ _ h => h) H3 s3 ?_))
        exact acrB_iff.mpr (.inl (hk1.mp rfl))
      | false =>
        refine iteF ⟨_, rfl, _, rfl, _, rfl, sa, i, j, t, R, L, by dsimp only; rw [ei, ej]; rfl, sp.tk (Tk.same (Same.trans sm2 s3)), wf, sml, fun k2 H4 s4 hk2 => ⟨k2, rfl, ?_⟩⟩
        cases k2 with
        | true =>
          refine iteT (add _ (fun _ _ h => h) H4 (Same.trans s3 s4) ?_)
          exact acrB_iff.mpr (.inr (hk2.mp rfl))
        | false =>
          refine iteF (skip H4 (Same.trans s3 s4) ?_)
          refine Bool.eq_false_iff.mpr fun h => ?_
          rcases acrB_iff.mp h with z | z
          · have := hk1.mpr z; cases this
          · have := hk2.mpr z; cases this
    · rintro σ H2 ⟨fv2, u3, rfl, sm2, hfl2, hfv2⟩
      have e : ((0 : Int) + (i : Int) - 0).toNat = i := by omega
      have e2 : ((0 : Int) + (i : Int)).toNat = i := by omega
      rw [e2, ← crsN_succ hi'] at hfv2
      exact ⟨fv2, _, _, rfl, sm2, hfl2, hfv2⟩
  · rintro σ H1 ⟨fv, u2, u3, rfl, sm, hfl, hfv⟩
    have e2 : (R : Int).toNat = R := by omega
    rw [e2] at hfv
    have hcr : crsN R L t R = crs R L t := by unfold crsN crs prs; rw [List.length_range]
    rw [hcr] at hfv
    have hfl2 : fv.length ≤ 36 := by
      have h1 := hfv.length
      rw [List.length_map, ← hcr] at h1
      have := crsN_len (L := L) (t := t) h6 (Nat.le_refl R)
      omega
    obtain ⟨es, hperm, hes⟩ := sortN_out hfv (PySem.W.dataLe false fun b => b.1.data)
    obtain ⟨ps', hp', rfl⟩ := perm_map hperm.symm _ rfl
    refine ⟨_, rfl, fl, fv, (crs R L t).map pairK, rfl, .inl (.inl (.inl hfl)), hfv, alk_pair _, sz _ (by omega), fun p1 np1 => ?_⟩
    generalize ((((crs R L t).map pairK).zip fv).mergeSort (PySem.W.dataLe false fun b => b.1.data)).map (·.2) = zs at *
    refine ⟨p1, zs, rfl, .inl (.inl upd_same), fun tp ntp => ?_⟩
    have s4 := Same.trans (same_new (o := .lst zs) np1) (same_new (o := .tup zs) ntp)
    exact q tp zs ps' _ (Same.trans sm s4) (.inl (.inl upd_same)) (NKs.tk (Tk.same s4) _ _ hes) hp'.symm
end
end G6

-- G6F_Bd
namespace G6
open PySem PySem.Spec PyProof.Rows L2
theorem mem_crs {R L : Nat} {t : List Item} {p : Nat × Nat} : p ∈ crs R L t ↔ (p.1 < p.2 ∧ p.2 < R) ∧ acrB L t p = true := by
  unfold crs
  rw [List.mem_filter]
  have := mem_prs_range (R := R) (r := p.1) (s := p.2)
  rw [show ((p.1, p.2) : Nat × Nat) = p from rfl] at this
  rw [this]
theorem badP_perm {ps ps' : List (Nat × Nat)} (h : ps.Perm ps') : badP ps = badP ps' := by
  funext i j
  unfold badP
  have := h.mem_iff (a := (i, j))
  simp [this]
theorem apartP_eq {ps : List (Nat × Nat)} {R : Nat} {d : List Nat} (hps : ∀ p ∈ ps, p.1 < p.2 ∧ p.2 < R) (hd : d.length = R) : apartP ps d = apart (badP ps) d := by
  rw [Bool.eq_iff_iff]
  unfold apartP apart
  rw [List.isEmpty_iff, List.filter_eq_nil_iff]
  simp only [List.all_eq_true, List.mem_range, Bool.not_eq_true', Bool.and_eq_false_iff]
  constructor
  · intro h j hj i hi
    by_cases hb : (i, j) ∈ ps
    · right
      have := h (i, j) hb
      simpa using this
    · left
      exact decide_eq_false hb
  · intro h p hp
    obtain ⟨h1, h2⟩ := hps p hp
    rcases h p.2 (by omega) p.1 h1 with z | z
    · have : badP ps p.1 p.2 = true := decide_eq_true hp
      rw [this] at z
      cases z
    · rw [z]
      decide
theorem deal_len {R : Nat} (h1 : 1 ≤ R) (h6 : R ≤ 6) : (dealings R).length ≤ 300 := Nat.le_trans (List.length_filter_le _ _) (gok h1 h6 (Nat.le_refl R)).len
theorem intK_nums (l : List Nat) : intK (nums l) = true := intKs_num l
section
variable {P : Program} {w : World} {K : PySem.W.Frag} {mg : Str → Option Value} {base : Heap}
abbrev N_law : List Str := ["_law_script", "_law_pot_here", "_law_turn", "_law_spec_here", "_law_rows", "_law_letters", "_law_table", "_law_plan", "_law_pairs", "_law_some", "_law_fewest", "_law_number", "_law_due", "_law_told", "_law_hand"]
theorem sc_law : FnScope N_law ["_law_script"] (defScope s_law) := ⟨rfl, rfl, rfl, by decide +kernel, rfl, by decide +kernel, by decide +kernel⟩
def spLaw (K : PySem.W.Frag) : Sp := fun vs H Q _ => ∃ (a : Addr) (ns : List Int), vs = [.ref a] ∧ SqL K H a (ns.map V.int) ∧ ns.length ≤ 63 ∧ ∀ H', Q (.bl true) H'
theorem ok_law (c : Cn K mg) {fd : FuncData} (F : FnP K "law" s_law (He.ga K "law") fd) : FnOk P w K mg base CX0 11 (He.ga K "law") fd ["_law_script"] (spLaw K) := by
  refine F.ok (k := 10) sc_law (fun vs H Q E h => ?len) fun cdv A outer s0 H vs Q E hr h => ?_
  case len => obtain ⟨a, ns, rfl, _⟩ := h; rfl
  suffices hb : ∃ t, PSs (cxOf CX0 P w K mg base N_law "law" (defScope s_law) (He.ga K "law") cdv A outer s0 H E).nox (defBody s_law) t ∧ t { nx := fun _ H' => Q .non H', rt := Q } (start N_law vs) H by
    obtain ⟨t, h1, h2⟩ := hb
    exact ⟨t, h1.nox, h2⟩
  obtain ⟨a, ns, rfl, ha, hl, q⟩ := h
  have h_law_pot := f_law_pot (P := P) (w := w) (base := base) c
  have h_law_spec := f_law_spec (P := P) (w := w) (base := base) c
  have h_law_draw := f_law_draw (P := P) (w := w) (base := base) c
  have h_law_ring_spec := f_law_ring_spec (P := P) (w := w) (base := base) c
  have h_Plan := f_Plan (P := P) (w := w) (base := base) c
  have h_law_crosses := f_law_crosses (P := P) (w := w) (base := base) c
  have h_law_dealings := f_law_dealings (P := P) (w := w) (base := base) c
  have h_law_is_apart := f_law_is_apart (P := P) (w := w) (base := base) c
  have h_fewest_once := f_fewest_once (P := P) (w := w) (base := base) c
  have h_fewest_hands := f_fewest_hands (P := P) (w := w) (base := base) c
  have h_least_once := f_least_once (P := P) (w := w) (base := base) c
  have h_law_is_int := f_law_is_int (P := P) (w := w) (base := base) c
  refine ⟨_, (pss_cons (ps_set (i := 1) sc_law.nd rfl (Or.inl rfl) (C8.pe_c h_law_pot hr (by decide) (by rfl) (pa_cons (pv 0) pa_nil)))
      (pss_cons (ps_for PassesOwn.never rfl (pi_range1 (by rfl) c.z_range (pa_cons pe_int pa_nil)) (pg_name (i := 2) sc_law.nd rfl (Or.inl rfl)) (pss_cons (ps_set (i := 3) sc_law.nd rfl (Or.inl rfl) (C8.pe_c h_law_spec hr (by decide) (by rfl) (pa_cons (pv 1) (pa_cons pe_int (pa_cons pe_int (pa_cons pe_int pa_nil))))))
      (pss_cons (ps_if (pt_cmpR op_eq (C8.pe_c h_law_draw hr (by decide) (by rfl) (pa_cons (pv 1) (pa_cons pe_int pa_nil))) pe_int (nomark _)) (pss_one (ps_set (i := 3) sc_law.nd rfl (Or.inl rfl) (C8.pe_c h_law_ring_spec hr (by decide) (by rfl) (pa_cons (pv 1) pa_nil)))) pss_nil)
      (pss_cons (ps_asg (pv 3) (kpg_tup K (pgs_cons (pg_name (i := 4) sc_law.nd rfl (Or.inl rfl)) (pgs_cons (pg_name (i := 5) sc_law.nd rfl (Or.inl rfl)) (pgs_cons (pg_name (i := 6) sc_law.nd rfl (Or.inl rfl)) pgs_nil)))))
      (pss_cons (ps_set (i := 7) sc_law.nd rfl (Or.inl rfl) (C8.pe_mk h_Plan hr (by decide) (by rfl) (pa_cons (pv 4) (pa_cons (pv 5) (pa_cons (pv 6) pa_nil)))))
      (pss_cons (ps_set (i := 8) sc_law.nd rfl (Or.inr rfl) (C8.pe_c h_law_crosses hr (by decide) (by rfl) (pa_cons (pv 3) pa_nil)))
      (pss_cons (ps_setLc (i := 9) (own := [("_law_told", 13)]) (g := gName 13) rfl sc_law.nd rfl rfl (sw_true rfl rfl rfl (by decide +kernel)) (kpi_list K (C8.pe_c h_law_dealings hr (by decide) (by rfl) (pa_cons (pv 4) pa_nil))) (blkOk_by (own := [("_law_told", 13)]) (N := N_law) (sc := defScope s_law) (by decide +kernel)) (fun _ _ _ _ _ => (pg_name (i := 13) sc_law.nd rfl (Or.inl rfl))) (fun _ _ _ _ _ => (pts_one (pt_val (C8.pe_c h_law_is_apart hr (by decide) (by rfl) (pa_cons (pv 8) (pa_cons (pv 13) pa_nil)))))) (fun _ _ _ _ _ => (pv 13)))
      (pss_cons (ps_set (i := 10) sc_law.nd rfl (Or.inr rfl) (pe_callB (r := rMin K) (kc_min K) (by rfl) c.z_min (by decide +kernel) (pa_cons (pe_lc (own := [("_law_told", 13)]) (g := gName 13) (tt := tYes) rfl sc_law.nd (kpi_list K (pv 9)) (blkOk_by (own := [("_law_told", 13)]) (N := N_law) (sc := defScope s_law) (by decide +kernel)) (fun _ _ _ _ _ => (pg_name (i := 13) sc_law.nd rfl (Or.inl rfl))) (fun _ _ _ _ _ => pts_nil) (fun _ _ _ _ _ => (pe_op op_add (pe_callB (r := rMaxT K) (kc_maxT K hr) (by rfl) c.z_max (by decide +kernel) (pa_cons (pv 13) pa_nil)) pe_int))) pa_nil)))
      (pss_cons (ps_set (i := 11) sc_law.nd rfl (Or.inl rfl) (C8.pe_c h_fewest_once hr (by decide) (by rfl) (pa_cons (pv 7) pa_nil)))
      (pss_cons (ps_if (PW.pt (pw_or (pt_not (pt_val (C8.pe_c h_law_is_int hr (by decide) (by rfl) (pa_cons (pv 11) pa_nil)))) (pw_or (pt_cmpR op_ne (pv 11) (pv 10) (nomark _)) (pw_or1 (pt_cmpR op_lt (pv 11) (C8.pe_c h_fewest_hands hr (by decide) (by rfl) (pa_cons (pv 7) pa_nil)) (nomark _)))))) (pss_one (ps_ret pe_bl)) pss_nil)
      (pss_cons (ps_set (i := 12) sc_law.nd rfl (Or.inl rfl) (kixL K (pe_lc (own := [("_law_told", 13)]) (g := gName 13) rfl sc_law.nd (kpi_list K (pv 9)) (blkOk_by (own := [("_law_told", 13)]) (N := N_law) (sc := defScope s_law) (by decide +kernel)) (fun _ _ _ _ _ => (pg_name (i := 13) sc_law.nd rfl (Or.inl rfl))) (fun _ _ _ _ _ => (pts_one (pt_cmpR op_eq (pe_op op_add (pe_callB (r := rMaxT K) (kc_maxT K hr) (by rfl) c.z_max (by decide +kernel) (pa_cons (pv 13) pa_nil)) pe_int) (pv 10) (nomark _)))) (fun _ _ _ _ _ => (pv 13))) pe_int))
      (pss_cons (ps_set (i := 13) sc_law.nd rfl (Or.inl rfl) (C8.pe_c h_least_once hr (by decide) (by rfl) (pa_cons (pv 7) pa_nil)))
      (pss_one (ps_if (PW.pt (pw_or (pt_not (pt_val (pe_callB (r := rIsi K) (kc_isi K) (by rfl) c.z_isinstance (by decide +kernel) (pa_cons (pv 13) (pa_cons (pe_bltn (v := .ty "tuple") (by rfl) c.z_tuple (by decide +kernel) rfl) pa_nil))))) (pw_or (pt_cmpR (r := rEqN K true) (kop_ne K hr) (pv 13) (pv 12) (nomark _)) (pw_or1 (pt_not (pt_val (pe_callB (r := rAll K) (kc_all K) (by rfl) c.z_all (by decide +kernel) (pa_cons (pe_lc (own := [("_law_hand", 14)]) (g := gName 14) (tt := tYes) rfl sc_law.nd (kpi_tup K (pv 13)) (blkOk_by (own := [("_law_hand", 14)]) (N := N_law) (sc := defScope s_law) (by decide +kernel)) (fun _ _ _ _ _ => (pg_name (i := 14) sc_law.nd rfl (Or.inl rfl))) (fun _ _ _ _ _ => pts_nil) (fun _ _ _ _ _ => (C8.pe_c h_law_is_int hr (by decide) (by rfl) (pa_cons (pv 14) pa_nil)))) pa_nil)))))))) (pss_one (ps_ret pe_bl)) pss_nil))))))))))))))
      (pss_one (ps_ret pe_bl)))), ?_⟩
  refine ⟨_, rfl, a, ns, rfl, ha, hl, fun pot g s H1 s1 hp1 => ?_⟩
  refine ⟨4, rfl, by decide, by decide, ?_⟩
  refine for_it walk_range (fun i σ H1 => ∃ u2 u3 u4 u5 u6 u7 u8 u9 u10 u11 u12 u13 u14 : Option V, σ = [some (.ref a), some (.ref pot), u2, u3, u4, u5, u6, u7, u8, u9, u10, u11, u12, u13, u14] ∧ PotAt H1 pot g s) ?_ (fun _ _ _ _ _ => True.intro) ?_ ?_
  · exact ⟨_, _, _, _, _, _, _, _, _, _, _, _, _, rfl, hp1⟩
  · rintro i x0 σ H1 H1' hi ⟨u2, u3, u4, u5, u6, u7, u8, u9, u10, u11, u12, u13, u14, rfl, hp⟩ ⟨e1, ex⟩
    subst e1 ex
    refine ⟨_, rfl, pot, g, s, rfl, hp, fun sa0 R0 L0 t0 H2 ok0 hsa0 hp2 sb2 => ?_⟩
    refine gName_seq ?_
    refine stepS (t := tIfS _ _ _) (fun σ' H3 => ∃ (sa : Addr) (R L : Nat) (t : List Item), σ' = [some (.ref a), some (.ref pot), some (.int (0 + (i : Int))), some (.ref sa), u4, u5, u6, u7, u8, u9, u10, u11, u12, u13, u14] ∧ SpecOk R L t ∧ SpecAt K H3 sa R L t ∧ PotAt H3 pot g s) ?_ ?_
    · intro D' hD'
      refine ⟨_, rfl, pot, g, s, 6, rfl, hp2, by decide, by decide, fun r H3 hr3 hp3 sb3 => ⟨rfl, _, rfl, iteAny ?_ ?_⟩⟩
      · exact ⟨_, rfl, pot, g, s, rfl, hp3, fun sa R L t H4 ok hsa hp4 sb4 => hD' _ _ ⟨sa, R, L, t, rfl, ok, hsa, hp4⟩⟩
      · exact hD' _ _ ⟨sa0, R0, L0, t0, rfl, ok0, hsa0.tk sb3.tk, hp3⟩
    rintro σ' H3 ⟨sa, R, L, t, rfl, ⟨wf, nr, sml⟩, hsa, hp3⟩
    have hsa' := hsa
    obtain ⟨ta, ws, g1, g2, g3⟩ := hsa'
    refine ⟨_, rfl, sa, _, rfl, g1, rfl, _, _, rfl, _, _, rfl, _, _, rfl, rfl, ?_⟩
    refine ⟨_, rfl, _, rfl, _, rfl, fun x dx nx ndx ne => ?_⟩
    have sx : Same H3 (upd (upd H3 dx (.own x)) x (.ins (He.ga K "Plan") dx [])) := Same.trans (same_new ndx) (same_new (by rw [upd_ne (Ne.symm ne)]; exact nx))
    refine ⟨x, dx, ta, ws, t, R, L, rfl, upd_same, sqT sx g2, NKs.tk (Tk.same sx) _ _ g3, wf, nr, fun ks H4 sb4 pl => ⟨rfl, ?_⟩⟩
    have s34 : Same H3 H4 := sb4.back sx (fun b e => by subst e; exact nx)
    refine ⟨_, rfl, sa, t, R, L, rfl, hsa.tk (Tk.same s34), wf, sml, fun pa pus ps H5 s5 hpa hps hperm => ?_⟩
    have hpin : ∀ p ∈ ps, p.1 < p.2 ∧ p.2 < R := fun p hp => (mem_crs.mp (hperm.mem_iff.mp hp)).1
    have hpsl : ps.length ≤ 1000 := by
      have h1 := hperm.length_eq
      have h2 := List.length_filter_le (acrB L t) (prs (List.range R))
      have h3 := prs_len (rs := List.range R) (by have := wf.r6; simpa using this)
      unfold crs at h1
      omega
    refine ⟨_, rfl, R, rfl, wf.r1, wf.r6, fun dl dus H6 s6 ndl hdl hdus => ?_⟩
    have D := dok wf.r1 wf.r6
    have hdll := deal_len wf.r1 wf.r6
    have hdul : dus.length = (dealings R).length := by have := hdus.length; simpa using this
    refine ⟨dl, rfl, ⟨dus, .inl (.inl hdl)⟩, fun D1 nD1 => ?_⟩
    have s56 := s6
    refine lc_all (walk_list (xs := dus)) (fun i y H => NK K H (nums ((dealings R).getD i [])) y) (fun i => apartP ps ((dealings R).getD i [])) nD1 (by rw [hdul]; exact sz _ (by omega)) (fun H7 s7 => .inl (.inl (s7 _ _ hdl))) (fun i H x H' y => by rw [y.1]; exact Same.refl _) (fun i y H H' s' r => NK.tk (Tk.same s') _ _ r) (fun i y H _ _ e r => NK.tk (Tk.mut e True.intro) _ _ r) ?_ ?_
    · intro k v H7 H8 hk sm7 _ ⟨e1, ex⟩ Qy Qn hy hn
      subst e1
      obtain ⟨kk, hk1, hk2⟩ := (NKs.tk (Tk.same sm7) _ _ hdus).getV ex
      rw [List.getElem?_map] at hk1
      obtain ⟨dd, hdd, rfl⟩ := Option.map_eq_some_iff.mp hk1
      have ed : (dealings R).getD k [] = dd := by rw [List.getD_eq_getElem?_getD, hdd]; rfl
      rw [ed] at hy hn
      obtain ⟨da, rfl, hda⟩ := nums_inv hk2
      have hdl2 := D.len dd (List.mem_of_getElem? hdd)
      have s57 := Same.trans s6 sm7
      refine ⟨rfl, _, rfl, _, rfl, pa, da, pus, ps, dd, rfl, sqT s57 hpa, NKs.tk (Tk.same s57) _ _ hps, hda, hpsl, fun p hp => by have := hpin p hp; omega, fun H9 s9 => ⟨_, rfl, ?_⟩⟩
      cases hb : apartP ps dd with
      | true => exact iteT ⟨_, rfl, hy hb _ _ s9 (NK.tk (Tk.same s9) _ _ hk2)⟩
      | false => exact iteF (hn hb _ s9)
    intro H7 ys sm7 hys hpr
    have hnk : NKs K H7 ((((List.range dus.length).filter fun i => apartP ps ((dealings R).getD i [])).map fun i => (dealings R).getD i []).map nums) ys := by
      rw [List.map_map]
      exact nks_paired (f := fun i => nums ((dealings R).getD i [])) hpr
    rw [hdul, filter_rangeG [] (apartP ps)] at hnk
    have hF : (dealings R).filter (apartP ps) = apartOf (badP ps) R := List.filter_congr fun dd hdd => apartP_eq hpin (D.len dd hdd)
    rw [hF] at hnk
    obtain ⟨m, d, hue0⟩ := hue_is (badP ps) wf.r1 wf.r6
    have hFm : ∀ e ∈ apartOf (badP ps) R, e ∈ dealings R := fun e he => (List.mem_filter.mp he).1
    have hFl : (apartOf (badP ps) R).length ≤ 300 := Nat.le_trans (List.length_filter_le _ _) hdll
    have hne : ∀ e ∈ apartOf (badP ps) R, e ≠ [] := fun e he h => by
      have h1 := D.len e (hFm e he)
      have h2 := wf.r1
      rw [h] at h1
      simp at h1
      omega
    have htop : ∀ e ∈ apartOf (badP ps) R, 1 ≤ top1 e := fun e he => (D.tp e (hFm e he)).1
    generalize hFF : apartOf (badP ps) R = FF at *
    have hyl : ys.length = FF.length := by have := hnk.length; simpa using this
    have s47 := Same.trans s5 (Same.trans s6 sm7)
    -- the fewest
    refine ⟨_, rfl, D1, rfl, ⟨ys, .inl (.inl hys)⟩, fun D2 nD2 => ?_⟩
    refine lc_map (walk_list (xs := ys)) (fun i y _ => y = .int ((top1 (FF.getD i []) : Nat) : Int)) nD2 (by rw [hyl]; exact sz _ (by omega)) (fun H8 s8 => .inl (.inl (s8 _ _ hys))) (fun i H x H' y => by rw [y.1]; exact Same.refl _) (fun _ _ _ _ _ e => e) (fun _ _ _ _ _ _ e => e) ?_ (mono_name _) ?_
    · intro k v H8 H9 hk sm8 _ ⟨e1, ex⟩ Qy hy
      subst e1
      obtain ⟨kk, hk1, hk2⟩ := (NKs.tk (Tk.same sm8) _ _ hnk).getV ex
      rw [List.getElem?_map] at hk1
      obtain ⟨dd, hdd, rfl⟩ := Option.map_eq_some_iff.mp hk1
      have ed : FF.getD k [] = dd := by rw [List.getD_eq_getElem?_getD, hdd]; rfl
      rw [ed] at hy
      obtain ⟨da, rfl, hda⟩ := nums_inv hk2
      have hddm : dd ∈ FF := List.mem_of_getElem? hdd
      refine ⟨rfl, _, rfl, tNil_rd (max_of (hne dd hddm) hda ⟨_, _, rfl, rfl, hy _ _ (Same.refl _) ?_⟩)⟩
      show V.int (((top1 dd : Nat) : Int) - 1 + 1) = _
      congr 1
      omega
    intro H8 zs sm8 hzs hpz
    have hze : zs = (FF.map fun e => ((top1 e : Nat) : Int)).map V.int := by
      rw [paired_fn hpz, hyl, List.map_map]
      refine List.ext_getElem (by simp) fun k h1 h2 => ?_
      simp at h1
      simp [h1]
    rw [hze] at hzs
    obtain ⟨e0, he0, ht0⟩ := hue0.ex
    rw [hFF] at he0
    refine ⟨D2, _, rfl, .inl (.inl hzs), by rw [List.length_map]; exact List.length_pos_of_mem he0, fun m' hm hmin => ?_⟩
    have hm' : m' = ((m : Nat) : Int) := by
      obtain ⟨e2, he2, rfl⟩ := List.mem_map.mp hm
      have h1 := hue0.le e2 (by rw [hFF]; exact he2)
      have h2 := hmin _ (List.mem_map.mpr ⟨e0, he0, rfl⟩)
      omega
    subst hm'
    have s48 := Same.trans s47 sm8
    -- the program's number
    refine ⟨_, rfl, x, t, R, L, ks, rfl, pl.same s48, wf, fun m1 ps2 H9 s9 hperm2 hm1 => ?_⟩
    have hb2 : badP ps2 = badP ps := badP_perm (hperm2.trans hperm.symm)
    have hmm : m1 = m := by rw [← hm1, hb2, hue0.eq]
    subst hmm
    have s49 := Same.trans s48 s9
    refine ⟨_, rfl, (m1 : Int), rfl, true, rfl, iteF ⟨_, rfl, _, rfl, rfl, false, by simp, iteF ⟨_, rfl, _, rfl, x, t, R, L, ks, rfl, pl.same s49, wf, fun m3 ps3 H10 s10 hps3 hm3 => ⟨_, _, rfl, rfl, false, ?_, iteF ?_⟩⟩⟩⟩
    · have hle : m3 ≤ m1 := by
        have := hue_mono (bad := badP ps3) (bad' := badP ps) wf.r1 wf.r6 fun i j hij hj hb => by
          have hmem : (i, j) ∈ ps3 := of_decide_eq_true hb
          exact decide_eq_true (hperm.mem_iff.mpr (mem_crs.mpr ⟨⟨hij, hj⟩, acrB_iff.mpr (.inl (hps3 _ hmem))⟩))
        rw [hm3, hue0.eq] at this
        exact this
      show V.bl (decide ((m1 : Int) < (m3 : Int))) = V.bl false
      rw [decide_eq_false (by omega)]
    have s4a := Same.trans s49 s10
    have s7a := Same.trans sm8 (Same.trans s9 s10)
    have hysa := s7a _ _ hys
    have hnka := NKs.tk (Tk.same s7a) _ _ hnk
    -- the least
    refine ⟨_, rfl, D1, rfl, ⟨ys, .inl (.inl hysa)⟩, fun D3 nD3 => ?_⟩
    refine lc_all (walk_list (xs := ys)) (fun i y H => NK K H (nums (FF.getD i [])) y) (fun i => (fun e => decide (top1 e = m1)) (FF.getD i [])) nD3 (by rw [hyl]; exact sz _ (by omega)) (fun H8 s8 => .inl (.inl (s8 _ _ hysa))) (fun i H x H' y => by rw [y.1]; exact Same.refl _) (fun i y H H' s' r => NK.tk (Tk.same s') _ _ r) (fun i y H _ _ e r => NK.tk (Tk.mut e True.intro) _ _ r) ?_ ?_
    · intro k v H11 H12 hk sm11 _ ⟨e1, ex⟩ Qy Qn hy hn
      subst e1
      obtain ⟨kk, hk1, hk2⟩ := (NKs.tk (Tk.same sm11) _ _ hnka).getV ex
      rw [List.getElem?_map] at hk1
      obtain ⟨dd, hdd, rfl⟩ := Option.map_eq_some_iff.mp hk1
      have ed : FF.getD k [] = dd := by rw [List.getD_eq_getElem?_getD, hdd]; rfl
      rw [ed] at hy hn
      obtain ⟨da, rfl, hda⟩ := nums_inv hk2
      have hddm : dd ∈ FF := List.mem_of_getElem? hdd
      refine ⟨rfl, _, rfl, tNil_rd (max_of (hne dd hddm) hda ⟨_, _, rfl, rfl, _, rfl, rfl, decide (top1 dd = m1), ?_, ?_⟩)⟩
      · show V.bl (decide (V.int (((top1 dd : Nat) : Int) - 1 + 1) = V.int (m1 : Int))) = _
        have e1 : ((top1 dd : Nat) : Int) - 1 + 1 = ((top1 dd : Nat) : Int) := by omega
        rw [e1, int_beq]
        rfl
      · cases hb : decide (top1 dd = m1) with
        | true => exact iteT ⟨_, rfl, hy hb _ _ (Same.refl _) hk2⟩
        | false => exact iteF (hn hb _ (Same.refl _))
    intro H11 ys3 sm11 hys3 hpr3
    have hnk3 : NKs K H11 ((((List.range ys.length).filter fun i => (fun e => decide (top1 e = m1)) (FF.getD i [])).map fun i => FF.getD i []).map nums) ys3 := by
      rw [List.map_map]
      exact nks_paired (f := fun i => nums (FF.getD i [])) hpr3
    rw [hyl, filter_rangeG [] (fun e => decide (top1 e = m1))] at hnk3
    have hhd := hue0.hd
    rw [hFF] at hhd
    obtain ⟨dv, hdv1, hdv2⟩ := hnk3.get (i := 0) (k := nums d) (by rw [List.getElem?_map, ← List.head?_eq_getElem?, hhd]; rfl)
    refine ⟨D3, ys3, _, _, rfl, rfl, .inl (.inl hys3), atI_nat (j := 0) hdv1, ?_⟩
    have s4b := Same.trans s4a sm11
    refine ⟨_, rfl, x, t, R, L, ks, rfl, pl.same s4b, wf, fun tb d2 ps4 H12 s12 hperm4 hd2 htb => ?_⟩
    have hb4 : badP ps4 = badP ps := badP_perm (hperm4.trans hperm.symm)
    have hdd : d2 = d := by rw [← hd2, hb4, hue0.eq]
    subst hdd
    have hdv3 := NK.tk (Tk.same s12) _ _ hdv2
    obtain ⟨dva, rfl, hdva⟩ := nums_inv hdv3
    have hpz : PotAt H12 pot g s := hp3.same (Same.trans s34 (Same.trans s4b s12))
    have hd6 : d2.length ≤ 6 := by
      have h1 : d2 ∈ FF := by
        have : d2 ∈ FF.filter (fun e => decide (top1 e = m1)) := List.mem_of_mem_head? (by rw [hhd]; rfl)
        exact (List.mem_filter.mp this).1
      have h2 := D.len d2 (hFm d2 h1)
      have h3 := wf.r6
      omega
    have dep : (nums d2).depth ≤ 60 := Nat.le_trans (depth_nums d2) (by decide)
    refine ⟨_, rfl, _, _, _, _, true, rfl, .ty _, tyx_tup htb, kit_ty (by decide +kernel), true, rfl, iteF ⟨_, rfl, _, rfl, nums d2, nums d2, nums_mk htb, hdv3, intK_nums _, intK_nums _, dep, dep, false, by simp, iteF ?_⟩⟩
    refine ⟨_, rfl, tb, rfl, ⟨_, htb⟩, fun D4 nD4 => ?_⟩
    refine lc_map (walk_tup (xs := vI d2)) (fun _ y _ => y = .bl true) nD4 (by rw [vI_len]; exact sz _ (by omega)) (fun H13 s13 => sqT s13 htb) (fun i H x H' y => by rw [y.1]; exact Same.refl _) (fun i y H H' _ e => e) (fun i y H _ _ _ e => e) ?_ (mono_name _) ?_
    · intro k v H13 H14 hk sm13 _ ⟨e, ex⟩ Qy hy
      subst e
      rw [vI_len] at hk
      rw [vI_get hk] at ex
      cases ex
      exact ⟨rfl, _, rfl, _, rfl, hy _ _ (Same.refl _) rfl⟩
    · intro H13 bs sm13 hbs hpb
      have hbe : bs = (List.replicate d2.length true).map V.bl := by
        have hl2 := Paired.length hpb
        rw [List.length_range, vI_len] at hl2
        refine List.ext_getElem? fun j => ?_
        by_cases hj : j < d2.length
        · obtain ⟨b, hb, r⟩ := paired_get (i := j) (a := j) hpb (by rw [vI_len, List.getElem?_range hj])
          rw [hb, r]
          simp [hj]
        · rw [List.getElem?_eq_none (by omega), List.getElem?_eq_none (by simp; omega)]
      refine ⟨D4, List.replicate d2.length true, rfl, .inl (.inl (by rw [← hbe]; exact hbs)), true, ?_, iteF ?_⟩
      · have : (List.replicate d2.length true).all id = true := by simp
        rw [this]
      · exact ⟨_, _, _, _, _, _, _, _, _, _, _, _, _, rfl, hpz.same sm13⟩
  · rintro σ H1 ⟨u2, u3, u4, u5, u6, u7, u8, u9, u10, u11, u12, u13, u14, rfl, hp⟩
    exact q _
end
end G6

-- G6E0
namespace G6
open PySem PySem.Spec PyProof.Rows L2
theorem facts {P : Program} {w : World} {K : PySem.W.Frag} {h0 h : Heap} {mg : Str → Option Value} {f : Addr} (X : K.In h) (G : h.Ns mainGlobals mg) (hfa : mg ("law" : Str) = some (.ref f)) (c0 : He.SaysX fa fn [] [] exF w h0 K) :
    ∃ fd : FuncData, (∀ (s : Shared) (v : Value), BindsTo s fd ⟨[v], []⟩ [("_law_script", v)]) ∧ ∀ base : Heap, K.In base → base.Ns mainGlobals mg → FnOk P w K mg base CX0 11 f fd ["_law_script"] (spLaw K) := by
  have c : Cn K mg := Cn.mk' X G c0
  obtain ⟨fd, F⟩ := c.d_law
  have e := hfa.symm.trans c.g_law
  cases e
  have b := FunD.bindsA (ps := ["_law_script"]) F fun _ _ _ _ _ _ us hl => match us, hl with | [_], _ => rfl
  exact ⟨fd, fun s v => b s [v] rfl, fun base _ _ => ok_law c F⟩
end G6
open PySem PySem.W PySem.Calls PyProof.Rows
set_option maxRecDepth 100000 in
set_option maxHeartbeats 0 in
theorem PySem.Challenge.cw_wholewalks_k68_whole_fewest_hands_once_holds : PySem.Challenge.rw_wholewalks_k68_whole_fewest_hands_once.Holds := by
  w_on; o_law
  refine HandSHeadRun.head_any (r := OpenLaw.row PySem.Challenge.rw_wholewalks_k68_whole_fewest_hands_once) (q := view (OpenLaw.row PySem.Challenge.rw_wholewalks_k68_whole_fewest_hands_once).prog [62]) (H := G6.hk) (ob := G6.ob) (M := 3000) (loose := G6.nms) (d := HandSHeadRun.topDef (OpenLaw.row PySem.Challenge.rw_wholewalks_k68_whole_fewest_hands_once).prog 62) (kwd := []) G6.ob_eq
    (by kernel_rfl) (fun s => by kernel_rfl) G6.run (by kernel_rfl) (by kernel_rfl) (by kernel_rfl) (by rfl) (by first | assumption | decide +kernel) (by decide +kernel) ⟨rfl, rfl, rfl, rfl, rfl, by decide +kernel⟩ ?hw ?hc
  case hw => w_witness2
  case hc =>
    refine L2.walk_ofE (l := PySem.Challenge.rw_wholewalks_k68_whole_fewest_hands_once) (n := 63) (k := 11) (x := "_law_script") (CX := L2.CX0) rfl (by decide) (by kernel_rfl) ⟨rfl, by decide, by decide⟩ ?F (fun _ _ _ _ z => z)
    intro w mg fa h Y G hmg0
    obtain ⟨K, KX, c⟩ := Y
    have hmg : mg ("law" : PySem.Str) = some (.ref fa) := by
      have e : (HandSHeadRun.topDef (OpenLaw.row PySem.Challenge.rw_wholewalks_k68_whole_fewest_hands_once).prog 62).name = ("law" : PySem.Str) := by kernel_rfl
      rw [← e]
      exact hmg0
    obtain ⟨fd, hb, hF⟩ := G6.facts (P := (PySem.Challenge.rw_wholewalks_k68_whole_fewest_hands_once).prog) (w := w) KX G hmg c
    exact ⟨K, fd, G6.spLaw K, KX, hb, fun H a ns hl _ hS => ⟨a, ns, rfl, hS, hl, fun _ => rfl⟩, hF⟩

