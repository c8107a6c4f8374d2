import PyProof.Rows.All
import Wide.All
import OpenK.AllK
import Wide.FinOn
import KE.KStateDown
import Lean
import HandS.Base
import HandS.Call
import HandS.Ends
import HandS.More
import HandS.Words
import HandS.WordsExc
import HandS.Defaults
import HandS.Head0
import HandS.Head1
import HandS.Head2
import HandS.HeadEnd
import HandS.HeadHook1
import HandS.HeadHook2
import PySem.Challenge.RW_turnindex_k54_whole_stretches_asked_of_t
import PyProof.Rows.SortKeyStr
import PyProof.CollectStr
import HandS.ForMost
import HandS.SortOrd
import HandS.SortInts
import HandS.IsInst
import PyProof.StrOps2
import PyProof.MinMaxWalk
import PyProof.Draws
import PyProof.EnumMake
import PyProof.WalksEnum
import PyProof.SliceStr2
import PyProof.TupleIter
import KE.GoesMore
import PyProof.StrWalks
import PyProof.WalksS
import HandS.Set
import HandS.SetFor
import PyProof.FactsAll.subtypes_3
import PyProof.Rows.SetFrom
import HandS.Walk
set_option Elab.async false
set_option linter.all false
set_option maxRecDepth 100000
set_option maxHeartbeats 0
namespace Tix
open PySem PySem.Spec PyProof.Rows L2
/-! the text by places -/
def top (i : Nat) : Stmt := PySem.Challenge.pw_turnindex_k54_whole_stretches_asked_of_t.main.body.getD i (.Pass ⟨0, 0, 0, 0⟩)
abbrev sIsInt : Stmt := top 9
abbrev sIsText : Stmt := top 10
abbrev sCText : Stmt := top 11
abbrev sCLetter : Stmt := top 12
abbrev sCNumber : Stmt := top 13
abbrev sIsLetter : Stmt := top 15
abbrev sLetters : Stmt := top 16
abbrev sCShape : Stmt := top 17
abbrev sDepths : Stmt := top 18
abbrev sBInit : Stmt := inClass (top 20) 0
abbrev sBEnd : Stmt := inClass (top 20) 1
abbrev sBAhead : Stmt := inClass (top 20) 3
abbrev sBCount : Stmt := inClass (top 20) 5
abbrev sTInit : Stmt := inClass (top 21) 0
abbrev sTStretch : Stmt := inClass (top 21) 3
abbrev sTOrder : Stmt := inClass (top 21) 4
abbrev sTLeast : Stmt := inClass (top 21) 9
abbrev sTBetween : Stmt := inClass (top 21) 10
abbrev sWell : Stmt := top 23
abbrev sDraw : Stmt := top 24
abbrev sPick : Stmt := top 25
abbrev sShape : Stmt := top 26
abbrev sText : Stmt := top 27
abbrev sLDepths : Stmt := top 28
abbrev sRight : Stmt := top 29
abbrev sGreat : Stmt := top 30
abbrev sLaw : Stmt := top 31
def mkD (at_ : Str × Option Str) (x q : Str) (st : Stmt) : He.DefD := ⟨at_, x, q, defArgs st, defBody st, defScope st, [], []⟩
def fn : List He.DefD := [
  mkD ("is_integer", none) "is_integer" "is_integer" sIsInt,
  mkD ("is_text", none) "is_text" "is_text" sIsText,
  mkD ("checked_text", none) "checked_text" "checked_text" sCText,
  mkD ("checked_letter", none) "checked_letter" "checked_letter" sCLetter,
  mkD ("checked_number", none) "checked_number" "checked_number" sCNumber,
  mkD ("is_letter", none) "is_letter" "is_letter" sIsLetter,
  mkD ("letters_in", none) "letters_in" "letters_in" sLetters,
  mkD ("checked_shape", none) "checked_shape" "checked_shape" sCShape,
  mkD ("depths_of", none) "depths_of" "depths_of" sDepths,
  mkD ("Branch", some "__init__") "__init__" "Branch.__init__" sBInit,
  mkD ("Branch", some "is_end") "is_end" "Branch.is_end" sBEnd,
  mkD ("Branch", some "ahead") "ahead" "Branch.ahead" sBAhead,
  mkD ("Branch", some "counted") "counted" "Branch.counted" sBCount,
  mkD ("Tree", some "__init__") "__init__" "Tree.__init__" sTInit,
  mkD ("Tree", some "check_stretch") "check_stretch" "Tree.check_stretch" sTStretch,
  mkD ("Tree", some "check_order") "check_order" "Tree.check_order" sTOrder,
  mkD ("Tree", some "least") "least" "Tree.least" sTLeast,
  mkD ("Tree", some "between") "between" "Tree.between" sTBetween,
  mkD ("_law_well", none) "_law_well" "_law_well" sWell,
  mkD ("_law_draw", none) "_law_draw" "_law_draw" sDraw,
  mkD ("_law_pick", none) "_law_pick" "_law_pick" sPick,
  mkD ("_law_shape", none) "_law_shape" "_law_shape" sShape,
  mkD ("_law_text", none) "_law_text" "_law_text" sText,
  mkD ("_law_depths", none) "_law_depths" "_law_depths" sLDepths,
  mkD ("_law_right", none) "_law_right" "_law_right" sRight,
  mkD ("_law_great_right", none) "_law_great_right" "_law_great_right" sGreat,
  mkD ("law", none) "law" "law" sLaw]
def fa : List He.Fa := [
  .glo "is_integer", .glo "is_text", .glo "checked_text", .glo "checked_letter", .glo "checked_number", .glo "is_letter", .glo "letters_in", .glo "checked_shape", .glo "depths_of", .glo "Branch", .glo "Tree",
  .glo "_law_well", .glo "_law_draw", .glo "_law_pick", .glo "_law_shape", .glo "_law_text", .glo "_law_depths", .glo "_law_right", .glo "_law_great_right", .glo "law",
  .str "LETTERS" "abcdefghijklmnopqrstuvwxyz",
  .free "isinstance", .free "int", .free "bool", .free "str", .free "all", .free "len", .free "tuple", .free "enumerate", .free "sorted", .free "range", .free "set", .free "max", .free "min",
  .cls "Branch", .cls "Tree", .mkr "Branch", .mkr "Tree",
  .meth "Branch" "is_end", .meth "Branch" "ahead", .meth "Branch" "counted",
  .meth "Tree" "check_stretch", .meth "Tree" "check_order", .meth "Tree" "least", .meth "Tree" "between",
  .noat "Branch" "shape", .noat "Branch" "letters", .noat "Branch" "many", .noat "Branch" "sides", .noat "Branch" "bits", .noat "Branch" "ones",
  .noat "Tree" "depths", .noat "Tree" "text", .noat "Tree" "shape", .noat "Tree" "top"]
abbrev R : PySem.W.OpenRow := PySem.W.OpenLaw.row PySem.Challenge.rw_turnindex_k54_whole_stretches_asked_of_t
abbrev hk : PySem.W.Hook := He.hookD 5 fa fn
def ob (s : PySem.W.SharedT) : He.AlD := He.obsDG 5 fa fn (HandSHeadRun.getT s)
theorem ob_eq (s : PySem.W.SharedT) : ob s = hk.obs s.abs := He.obsDG_eq (HandSHeadRun.getT_eq s)
def loose : List Str := ["_wall", "TurnError", "NoText", "NoNumber", "NoShape", "Unordered", "LETTERS", "is_integer", "is_text", "checked_text", "checked_letter", "checked_number", "is_letter", "letters_in", "checked_shape", "depths_of", "Branch", "Tree",
  "_law_well", "_law_draw", "_law_pick", "_law_shape", "_law_text", "_law_depths", "_law_right", "_law_great_right"]
theorem run (w : World) : HandSHeadRun.RunEq R (PySem.W.view R.prog [31]) hk ob 4000 loose w := by
  intro os
  kernel_rfl
end Tix
set_option Elab.async false
set_option linter.all false
set_option maxRecDepth 100000
set_option maxHeartbeats 4000000
/-! Texts as lists of codes; sorting of letters. -/
namespace Tix
open PySem PySem.Spec PyProof.Rows L2

/-! ### numbers in order -/
def ins (a : Nat) : List Nat → List Nat
  | [] => [a]
  | b :: l => if a ≤ b then a :: b :: l else b :: ins a l
def srt : List Nat → List Nat
  | [] => []
  | a :: l => ins a (srt l)
theorem ins_perm (a : Nat) : ∀ l : List Nat, (ins a l).Perm (a :: l)
  | [] => List.Perm.refl _
  | b :: l => by
    unfold ins
    split
    · exact List.Perm.refl _
    · exact ((ins_perm a l).cons b).trans (List.Perm.swap a b l)
theorem srt_perm : ∀ l : List Nat, (srt l).Perm l
  | [] => List.Perm.refl _
  | a :: l => (ins_perm a (srt l)).trans ((srt_perm l).cons a)
def Up (l : List Nat) : Prop := l.Pairwise (· ≤ ·)
theorem ins_up (a : Nat) : ∀ l : List Nat, Up l → Up (ins a l)
  | [], _ => List.pairwise_singleton _ _
  | b :: l, h => by
    obtain ⟨h1, h2⟩ := List.pairwise_cons.mp h
    unfold ins
    split
    · rename_i hab
      refine List.pairwise_cons.mpr ⟨fun x hx => ?_, h⟩
      rcases List.mem_cons.mp hx with e | hx
      · omega
      · have := h1 x hx
        omega
    · rename_i hab
      refine List.pairwise_cons.mpr ⟨fun x hx => ?_, ins_up a l h2⟩
      rcases List.mem_cons.mp ((ins_perm a l).mem_iff.mp hx) with e | hx
      · omega
      · exact h1 x hx
theorem srt_up : ∀ l : List Nat, Up (srt l)
  | [] => List.Pairwise.nil
  | a :: l => ins_up a (srt l) (srt_up l)
theorem up_unique : ∀ {l m : List Nat}, l.Perm m → Up l → Up m → l = m
  | [], m, p, _, _ => (List.Perm.nil_eq p)
  | a :: l, [], p, _, _ => absurd p.length_eq (by simp)
  | a :: l, b :: m, p, hl, hm => by
    obtain ⟨h1, h2⟩ := List.pairwise_cons.mp hl
    obtain ⟨k1, k2⟩ := List.pairwise_cons.mp hm
    have e : a = b := by
      have ha : a ∈ b :: m := p.mem_iff.mp (List.mem_cons_self ..)
      have hb : b ∈ a :: l := p.mem_iff.mpr (List.mem_cons_self ..)
      rcases List.mem_cons.mp ha with e | ha
      · exact e
      · rcases List.mem_cons.mp hb with e | hb
        · exact e.symm
        · have := h1 b hb
          have := k1 a ha
          omega
    subst e
    rw [up_unique (List.Perm.cons_inv p) h2 k2]
theorem srt_of_up {l : List Nat} (h : Up l) : srt l = l := up_unique (srt_perm l) (srt_up l) h
theorem srt_eq {l m : List Nat} (p : m.Perm l) (h : Up m) : m = srt l := up_unique (p.trans (srt_perm l).symm) h (srt_up l)
theorem srt_len (l : List Nat) : (srt l).length = l.length := (srt_perm l).length_eq

/-! ### texts -/
/-- one letter, a text, as a value -/
def lt (c : Nat) : Str := ⟨#[c]⟩
def tx (l : List Nat) : Str := ⟨l.toArray⟩
abbrev lv (c : Nat) : V := .str (lt c)
abbrev tv (l : List Nat) : V := .str (tx l)
theorem tx_list (l : List Nat) : (tx l).cps.toList = l := by simp [tx]
theorem tx_len (l : List Nat) : (tx l).length = l.length := by show l.toArray.size = l.length; simp
theorem tx_one (c : Nat) : tx [c] = lt c := rfl
theorem lt_inj {a b : Nat} (h : lt a = lt b) : a = b := by
  have e : (#[a] : Array Nat) = #[b] := congrArg Str.cps h
  simpa using e
theorem lt_iff {a b : Nat} : lt a = lt b ↔ a = b := ⟨lt_inj, fun e => by rw [e]⟩
theorem tx_inj {a b : List Nat} (h : tx a = tx b) : a = b := by
  have e : (tx a).cps.toList = (tx b).cps.toList := by rw [h]
  rwa [tx_list, tx_list] at e
theorem tx_of (z : Str) : z = tx z.cps.toList := by
  obtain ⟨a⟩ := z
  simp [tx]
theorem lt_list (c : Nat) : (lt c).cps.toList = [c] := rfl
theorem one_lt {a b : Nat} : decide (([a] : List Nat) < [b]) = decide (a < b) := by
  rw [Bool.eq_iff_iff, decide_eq_true_eq, decide_eq_true_eq]
  constructor
  · intro h
    rcases List.cons_lt_cons_iff.mp h with h | ⟨_, h⟩
    · exact h
    · exact absurd h (List.lt_irrefl _)
  · intro h
    exact List.cons_lt_cons_iff.mpr (.inl h)

/-! ### sorted(..) of letters -/
def cv : Value → Nat
  | .str x _ => x.cps.getD 0 0
  | _ => 0
def ltC (v u : Value) : Bool := decide (cv v < cv u)
theorem swo_C : SrtO.Swo ltC := by
  refine ⟨fun x y h => ?_, fun x y z h1 h2 => ?_⟩
  · have a := of_decide_eq_true (p := cv x < cv y) h
    exact decide_eq_false (p := cv y < cv x) (by omega)
  · have a := of_decide_eq_false (p := cv y < cv x) h1
    have b := of_decide_eq_false (p := cv z < cv y) h2
    exact decide_eq_false (p := cv z < cv x) (by omega)
/-- each of these values is a letter -/
def IsLet (v : Value) : Prop := ∃ c t, v = Value.str (lt c) t
theorem vals_let : ∀ {cs : List Nat} {vs : List Value}, Vals (cs.map lv) vs → (∀ v ∈ vs, IsLet v) ∧ vs.map cv = cs
  | [], _, h => by
    cases h
    exact ⟨fun v hv => absurd hv (by simp), rfl⟩
  | c :: cs, _, h => by
    have h' : Vals (lv c :: cs.map lv) _ := h
    cases h' with
    | cons r t =>
      obtain ⟨t', e⟩ := r
      obtain ⟨i1, i2⟩ := vals_let t
      refine ⟨fun v hv => ?_, ?_⟩
      · rcases List.mem_cons.mp hv with e' | hv
        · exact ⟨c, t', e'.trans e⟩
        · exact i1 v hv
      · rw [List.map_cons, i2, e]
        rfl
theorem let_vals : ∀ {vs : List Value}, (∀ v ∈ vs, IsLet v) → Vals ((vs.map cv).map lv) vs
  | [], _ => .nil
  | v :: vs, h => by
    obtain ⟨c, t, e⟩ := h v (List.mem_cons_self ..)
    subst e
    exact .cons ⟨t, rfl⟩ (let_vals fun u hu => h u (List.mem_cons_of_mem _ hu))
section
variable {prog : Program} {w : World} {A : Around} {E : Value → Shared → Prop} {s : Shared}
theorem let_cmp {vs : List Value} (hI : ∀ v ∈ vs, IsLet v) : SrtO.Cmp prog w A s oneType' (fun p => p.1 ∈ vs) (SrtO.lt2 ltC) := by
  intro p q hm hm'
  obtain ⟨a, t, e⟩ := hI _ hm
  obtain ⟨b, u, e'⟩ := hI _ hm'
  show wpAny (model prog w) A (keyLt' oneType' p.1 q.1) (fun r s' => s' = s ∧ r = ltC p.1 q.1) (fun _ _ => False) s
  rw [e, e', keyLt'_oneType]
  exact oneLt_str ⟨rfl, one_lt⟩
theorem strs_let : ∀ {vs : List Value}, (∀ v ∈ vs, IsLet v) → ∃ ss, StrsAre vs ss
  | [], _ => ⟨_, .nil⟩
  | v :: vs, h => by
    obtain ⟨c, t, e⟩ := h v (List.mem_cons_self ..)
    subst e
    obtain ⟨ss, i⟩ := strs_let fun u hu => h u (List.mem_cons_of_mem _ hu)
    exact ⟨_, .cons _ t i⟩
theorem let_sortable {a : Addr} {vs : List Value} (hI : ∀ v ∈ vs, IsLet v) (h2 : 2 ≤ vs.length) : SrtO.SortableO prog w A s a vs ltC := by
  intro h' _
  refine ⟨oneType', fun Q E hq => ?_, let_cmp hI⟩
  match vs, hI, h2 with
  | v1 :: v2 :: rest, hI, _ =>
    obtain ⟨ss, hS⟩ := strs_let hI
    rw [keyKind_strs hS]
    exact wpAny_pure hq
  | [], _, h => exact absurd h (by decide)
  | [v], _, h => exact absurd h (by simp)
theorem let_out {vs out : List Value} (hI : ∀ v ∈ vs, IsLet v) (hs : SrtO.Srtd ltC out) (hb : SrtO.Stb ltC out vs) : Vals ((srt (vs.map cv)).map lv) out := by
  have h1 : ∀ v ∈ out, IsLet v := fun v hv => hI v (hb.perm.mem_iff.mp hv)
  have e : out.map cv = srt (vs.map cv) := by
    refine srt_eq (hb.perm.map cv) (List.pairwise_map.mpr (hs.imp fun {x y} h => ?_))
    exact Nat.not_lt.mp (of_decide_eq_false (p := cv y < cv x) h)
  rw [← e]
  exact let_vals h1
end
theorem vals_pos : ∀ {l : List Nat} {vs : List Value}, vs.length = l.length → (∀ (j : Nat) (v : Value), vs[j]? = some v → ∃ c u, l[j]? = some c ∧ v = Value.str (lt c) u) → Vals (l.map lv) vs
  | [], [], _, _ => .nil
  | [], _ :: _, h, _ => absurd h (by simp)
  | _ :: _, [], h, _ => absurd h (by simp)
  | c :: l, v :: vs, h, at_ => by
    obtain ⟨c', u, e1, e2⟩ := at_ 0 v rfl
    have e3 : c = c' := by simpa using e1
    subst e3
    exact .cons ⟨u, e2⟩ (vals_pos (by simpa using h) fun j v' e => by simpa using at_ (j + 1) v' (by simpa using e))
/-- sorted(xs), xs a list of letters -/
def rSortLet (K : PySem.W.Frag) : List V → Hp → VK → Prop := fun vs H Q => ∃ (a : Addr) (cs : List Nat), vs = [V.ref a] ∧ SqL K H a (cs.map lv) ∧ ∀ p : Addr, H p = none → Q (.ref p) (upd H p (.lst ((srt cs).map lv)))
/-- sorted(x), x a text -/
def rSortTxt : List V → Hp → VK → Prop := fun vs H Q => ∃ l : List Nat, vs = [tv l] ∧ l.length ≤ 100000 ∧ ∀ p : Addr, H p = none → Q (.ref p) (upd H p (.lst ((srt l).map lv)))
theorem fit5 {n : Nat} (h : n ≤ 100000) : n ≤ sizeLine := Nat.le_trans h (by decide)
section
variable {X : Cx}
theorem cr_sortLet : CallR X (.builtin "sorted") (rSortLet X.K) := by
  intro pins s σ H vs us Q I r h
  obtain ⟨a, cs, rfl, hs, q⟩ := h
  obtain ⟨its, rv, hl, hz⟩ := I.list hs
  rw [Vals.ref1 r]
  obtain ⟨i1, i2⟩ := vals_let rv
  refine SrtO.sorted_ord swo_C hl.isList (by rw [← rv.length]; exact hz) (fun h2 h₁ a' _ _ => let_sortable i1 h2) fun out h1 h2 => ?_
  have k1 := let_out i1 h1 h2
  rw [i2] at k1
  obtain ⟨ep, he'⟩ := PyProof.Rows.sortedAll_at s.heap its out.toArray
  have hlen : ((srt cs).map lv).length ≤ sizeLine := by
    rw [List.length_map, srt_len]
    rw [List.length_map] at hz
    exact hz
  exact ⟨.ref _, upd H (s.heap.objs.size + 1) (.lst ((srt cs).map lv)), I.laid (t' := s.toks) (fun _ _ => PyProof.Rows.sortedAll_old) (Nat.le_succ _) ⟨hlen, out, ep, k1, he'⟩, rfl, q _ (I.hok.fresh (Nat.le_succ _))⟩
theorem cr_sortTxt (hc : X.calm = true) : CallR X (.builtin "sorted") rSortTxt := by
  intro pins s σ H vs us Q I r h
  obtain ⟨l, rfl, hz, q⟩ := h
  obtain ⟨u, rfl, t, rfl⟩ := vals1 r
  refine Calls.call_function_entry kind_sorted plain_sorted entry_sorted (args_sorted1 _) ?_
  unfold Builtin.«sorted»
  refine wpAny_bind (m := checkCount "sorted" 1 1 _) (wpAny_pure ?_)
  have hsz : (tx l).cps.size = l.length := by simp [tx]
  refine wpAny_bind (wpAny_collect_str (A := X.A.in1) (I.ok.hd hc) (tx l) t (fun s1 acc k1 g1 d1 o1 hit => ?_) (by rw [hsz]; exact fit5 hz))
  have hv : Vals (l.map lv) acc.toList := by
    refine vals_pos (by rw [Array.length_toList, hit.1, hsz]) fun j v e => ?_
    rw [Array.getElem?_toList] at e
    obtain ⟨c, u, e1, e2⟩ := hit.2 j v e
    refine ⟨c, u, ?_, e2⟩
    have e3 : l[j]? = (tx l).cps.toList[j]? := by rw [tx_list]
    rw [e3, Array.getElem?_toList]
    exact e1
  obtain ⟨i1, i2⟩ := vals_let hv
  have hvl : acc.toList.length = l.length := by rw [← hv.length, List.length_map]
  have hvz : acc.toList.length ≤ sizeLine := by rw [hvl]; exact fit5 hz
  refine wpAny_bind (wpAny_newList ?_ hvz)
  have hoL : (s1.heap.push (seqObj "list" acc.toList.toArray 0)).get? s1.heap.objs.size = some (seqObj "list" acc.toList.toArray 0) := Heap.get?_push_size _ rfl
  refine wpAny_bind (wpAny_holding (wpAny_call_entry slot_list_sort ⟨_, hoL, rfl⟩ entry_list_sort (SrtO.list_sort_ord swo_C hoL hvz (fun h2 => let_sortable i1 h2) fun out h1 h2 => ⟨_, rfl, ?_⟩) (args_list_sort _)))
  have w1 := let_out i1 h1 h2
  rw [i2] at w1
  obtain ⟨c, hcc⟩ := PyProof.Rows.sortedHeap_at (vs := acc.toList) (out := out.toArray) hoL
  have I1 : Inv X pins σ H s1 := I.call' (ch := []) o1 (Un.kept k1) (I.hok.kept k1) (by rw [g1]; exact I.bare) (fun b hb => absurd hb (by simp))
  have hfree : H s1.heap.objs.size = none := I1.hok.fresh (Nat.le_refl _)
  have hlen : ((srt l).map lv).length ≤ sizeLine := by
    rw [List.length_map, srt_len]
    exact fit5 hz
  refine wpAny_pure ⟨_, rfl, .ref s1.heap.objs.size, upd H s1.heap.objs.size (.lst ((srt l).map lv)), I1.laid (t' := s1.toks) (fun b u e => ?_) (Nat.le_refl _) ⟨hlen, out, c, w1, hcc⟩, rfl, q _ hfree⟩
  have hlt := Heap.lt_size e
  rw [sortedHeap_old (Nat.ne_of_lt hlt) (by rw [size_push']; exact Nat.lt_succ_of_lt hlt)]
  exact Heap.get?_push_of_some _ e
end
end Tix
set_option Elab.async false
set_option linter.all false
set_option maxRecDepth 100000
set_option maxHeartbeats 4000000
/-! Rules for texts: +, *, slices, max, min; enumerate of a tuple. -/
namespace Tix
open PySem PySem.Spec PyProof.Rows L2
section
variable {X : Cx}
theorem tx_add (l m : List Nat) : tx l ++ tx m = tx (l ++ m) := by
  show (⟨l.toArray ++ m.toArray⟩ : Str) = ⟨(l ++ m).toArray⟩
  simp
def rAddT : R2 := fun x y H Q => ∃ l m : List Nat, x = tv l ∧ y = tv m ∧ l.length + m.length ≤ 100000 ∧ Q (tv (l ++ m)) H
theorem op_addT : OpR X (binaryOp .Add) rAddT := by
  intro pins s σ H x y v u Q I rx ry h
  obtain ⟨l, m, rfl, rfl, hz, q⟩ := h
  exact op_add_str pins s σ H _ _ v u Q I rx ry ⟨tx l, tx m, rfl, rfl, by rw [tx_len, tx_len]; exact fit5 hz, by rw [tx_add]; exact q⟩
theorem fold_app (cs : Array Nat) : ∀ (n : Nat) (acc : Array Nat), ((List.replicate n cs).foldl (· ++ ·) acc).toList = acc.toList ++ (List.replicate n cs.toList).flatten
  | 0, acc => by simp
  | n + 1, acc => by
    rw [List.replicate_succ, List.foldl_cons, fold_app cs n (acc ++ cs), List.replicate_succ, List.flatten_cons, Array.toList_append, List.append_assoc]
/-- text * n -/
def rMulT : R2 := fun x y H Q => ∃ (l : List Nat) (n : Nat), x = tv l ∧ y = .int (n : Int) ∧ l.length * n ≤ 100000 ∧ n ≤ 100000 ∧ Q (tv (List.replicate n l).flatten) H
theorem op_mulT : OpR X (binaryOp .Mult) rMulT := by
  intro pins s σ H x y v u Q I rx ry h
  obtain ⟨l, n, rfl, rfl, hz, hn, q⟩ := h
  obtain ⟨t, rfl⟩ := rx
  obtain ⟨t', rfl⟩ := ry
  have fin : ∀ (z : Str) (tk : Tok) (k : Nat), z.cps.toList = (List.replicate n l).flatten → EP X pins σ Q (.str z tk) { s with toks := k } := fun z tk k e => by
    refine ⟨tv (List.replicate n l).flatten, H, I.tok k, ⟨tk, ?_⟩, q⟩
    rw [tx_of z, e]
  refine PySem.P.mul_str (by
      rw [decide_eq_false (show ¬ (n : Int) < -(2 ^ 63 : Int) by omega), decide_eq_false (show ¬ (n : Int) ≥ 2 ^ 63 by omega)]; rfl) (fun h1 h2 => ?_) (fun h1 h2 => ?_) ?_
  · have h3 : ((tx l).length : Int) ≤ 100000 := by
      rw [tx_len]
      have : l.length * 1 ≤ l.length * n := Nat.mul_le_mul_left _ (by omega)
      omega
    have h4 : (100000 : Int) ≤ (2 ^ 63 - 1) / (n : Int) := by
      refine (Int.le_ediv_iff_mul_le (by omega)).mpr ?_
      omega
    omega
  · have h5 : (tx l).length * ((n : Nat) : Int).toNat ≤ 100000 := by rw [tx_len, Int.toNat_natCast]; exact hz
    have h6 := fit5 h5
    exact decide_eq_false (Nat.not_lt.mpr h6)
  · by_cases h1 : (n : Int) < 1
    · rw [if_pos h1]
      have e : n = 0 := by omega
      subst e
      refine ⟨by decide, ?_⟩
      exact fin Str.empty _ _ rfl
    · rw [if_neg h1]
      by_cases h2 : (((n : Int) == 1 || (tx l).length == 0) = true)
      · rw [if_pos h2]
        refine ⟨tv (List.replicate n l).flatten, H, I, ⟨t, ?_⟩, q⟩
        have : (List.replicate n l).flatten = l := by
          rcases Bool.or_eq_true_iff.mp h2 with e | e
          · have e : (n : Int) = 1 := eq_of_beq e
            have e : n = 1 := by omega
            subst e
            simp
          · have e : (tx l).length = 0 := eq_of_beq e
            rw [tx_len] at e
            have e : l = [] := List.length_eq_zero_iff.mp e
            subst e
            simp
        rw [this]
      · rw [if_neg h2]
        have h7 : (⟨(List.replicate ((n : Nat) : Int).toNat (tx l).cps).foldl (· ++ ·) #[]⟩ : Str).cps.toList = (List.replicate n l).flatten := by
          show ((List.replicate ((n : Nat) : Int).toNat (tx l).cps).foldl (· ++ ·) #[]).toList = _
          rw [fold_app, Int.toNat_natCast, tx_list]
          simp
        refine ⟨?_, fin _ _ _ h7⟩
        have h8 : (⟨(List.replicate ((n : Nat) : Int).toNat (tx l).cps).foldl (· ++ ·) #[]⟩ : Str).length = ((List.replicate n l).flatten).length := by
          rw [← h7]
          exact (Array.length_toList).symm
        rw [h8]
        refine fit5 ?_
        rw [List.length_flatten, List.map_replicate, List.sum_replicate_nat, Nat.mul_comm]
        exact hz
/-- x[lo:hi], a text -/
def rSlT2 : V → Option Int → Option Int → Hp → VK → Prop := fun x lo hi H Q => ∃ l : List Nat, x = tv l ∧ l.length ≤ 100000 ∧ Q (tv ((l.drop (HT.sIx l.length 0 lo)).take (HT.sIx l.length l.length hi - HT.sIx l.length 0 lo))) H
theorem sl_T : SlR X rSlT2 := by
  intro pins s σ H x v vl vu lo hi sl Q I rx hs pl pu h
  obtain ⟨l, rfl, hz, q⟩ := h
  refine sl_str pins s σ H _ v vl vu lo hi sl Q I rx hs pl pu ⟨tx l, rfl, by rw [tx_len]; exact fit5 hz, ?_⟩
  have e : cutS (tx l) lo hi = tx ((l.drop (HT.sIx l.length 0 lo)).take (HT.sIx l.length l.length hi - HT.sIx l.length 0 lo)) := by
    unfold cutS
    rw [tx_list, tx_len]
    rfl
  rw [e]
  exact q
/-- x[i], a text -/
def rIxT2 : R2 := fun x y H Q => ∃ (l : List Nat) (i : Int) (c : Nat), x = tv l ∧ y = .int i ∧ l.length ≤ 100000 ∧ atI l i = some c ∧ Q (lv c) H
theorem ix_T : IxR X rIxT2 := by
  intro va sl pins s σ H x y v u Q I rx ry h hs
  obtain ⟨l, i, c, rfl, rfl, hz, ha, q⟩ := h
  exact ix_str va sl pins s σ H _ _ v u Q I rx ry ⟨tx l, i, c, rfl, rfl, by rw [tx_len]; exact fit5 hz, by rw [tx_list]; exact ha, q⟩ hs
/-- sep.join(..) with an empty sep over texts -/
theorem glue_empty : ∀ (ws : List (List Nat)) (acc : Array Nat), ((ws.map tx).foldl (fun acc p => acc ++ (tx []).cps ++ p.cps) acc).toList = acc.toList ++ ws.flatten
  | [], acc => by simp
  | w :: ws, acc => by
    rw [List.map_cons, List.foldl_cons, glue_empty ws]
    simp [tx]
theorem join_empty (ws : List (List Nat)) : Txt.join (tx []) (ws.map tx) = tx ws.flatten := by
  have e : (Txt.join (tx []) (ws.map tx)).cps.toList = ws.flatten := by
    cases ws with
    | nil => rfl
    | cons w ws =>
      show (((ws.map tx)).foldl (fun acc p => acc ++ (tx []).cps ++ p.cps) (tx w).cps).toList = _
      rw [glue_empty, tx_list, List.flatten_cons]
  rw [tx_of (Txt.join (tx []) (ws.map tx)), e]
/-- x[::-1], a text: some text of its signs, not longer -/
def tRevT (te : TE) : TE := fun σ H Q => te σ H fun x H1 => ∃ l : List Nat, x = tv l ∧ l.length ≤ 100000 ∧ ∀ m : List Nat, (∀ c ∈ m, c ∈ l) → m.length ≤ l.length → Q (tv m) H1
theorem pe_revT {e : Expr} {te : TE} {k : Nat} {p1 p2 p3 pos : Pos} (he : PE X e te) : PE X (.Subscript e (.Slice none none (some (.UnaryOp .USub (.Constant (.int 1) k p1) p2)) p3) pos) (tRevT te) := by
  refine ⟨fun pins s σ H Q I h => ?_⟩
  refine Subscript_ (thn (he.run pins s σ H _ I h) fun v s1 ⟨x, H1, I1, r1, l, ex, hz, q⟩ => ?_)
  subst ex
  obtain ⟨tk, rfl⟩ := r1
  have hst : PO X (some (.UnaryOp .USub (.Constant (.int 1) k p1) p2)) (tPart (tUn (rU fun i => .int (-i)) (tC (.int 1)))) := po_some (pe_un un_neg pe_int)
  refine wpAny_Slice (thn (po_none.run pins s1 σ H1 (fun o H2 => o = none ∧ H2 = H1) I1 ⟨rfl, rfl⟩) fun vl s2 ⟨o2, H2, I2, pl, el, e2⟩ => ?_)
  subst el e2
  refine thn (po_none.run pins s2 σ H2 (fun o H3 => o = none ∧ H3 = H2) I2 ⟨rfl, rfl⟩) fun vu s3 ⟨o3, H3, I3, pu, eu, e3⟩ => ?_
  subst eu e3
  refine thn (hst.run pins s3 σ H3 (fun o H4 => o = some (-1) ∧ H4 = H3) I3 ⟨1, rfl, -1, rfl, rfl, rfl⟩) fun vs s4 ⟨o4, H4, I4, ps, eo, e4⟩ => ?_
  subst eo e4
  have I5 : Inv X pins σ H4 { s4 with heap := s4.heap.push { cls := .type "slice", data := .fields #[vl, vu, vs] } } := I4.kept (t' := s4.toks) fun b ob z => Heap.get?_push_of_some _ z
  cases pl
  cases pu
  cases ps with
  | int i t3 =>
    refine tail_any (ops := [.str (tx l) tk, .ref s4.heap.objs.size]) (typeIs_str _ _ _) (F.slot_str_getitem.lookup) ?_ (by with_unfolding_all rfl)
    refine wpAny_getItem_str_slice (l := none) (u := none) (st := some (-1, t3)) ⟨_, Heap.get?_push_size _ rfl, rfl, rfl⟩ rfl ?_
    have e0 : sliceMade (tx l) tk none none (some (-1, t3)) = .str ⟨((slicePicked (tx l) none none (some (-1, t3))).filterMap ((tx l).cps[·]?)).toArray⟩ := if_neg (by
      show ¬ ((((-1 : Int) == 1) && _) = true)
      rw [show ((-1 : Int) == 1) = false by decide, Bool.false_and]
      exact Bool.false_ne_true)
    rw [e0]
    have e1 : slicePicked (tx l) none none (some (-1, t3)) = sliceRange ((tx l).length - 1) (-1) (-1) := rfl
    have e2 : (slicePicked (tx l) none none (some (-1, t3))).length ≤ l.length := by
      rw [e1, tx_len]
      unfold sliceRange
      rw [List.length_map, List.length_range, if_neg (by decide)]
      have e9 : ((((l.length : Int) - 1 - -1 - -1 - 1) / - -1 : Int)) = (l.length : Int) := by
        rw [show (- -1 : Int) = 1 by decide, Int.ediv_one]
        omega
      rw [e9]
      split
      · omega
      · exact Nat.zero_le _
    have e3 : ((slicePicked (tx l) none none (some (-1, t3))).filterMap ((tx l).cps[·]?)).length ≤ l.length := Nat.le_trans (List.length_filterMap_le _ _) e2
    have e4 : ∀ c ∈ (slicePicked (tx l) none none (some (-1, t3))).filterMap ((tx l).cps[·]?), c ∈ l := fun c hc => by
      obtain ⟨j, _, hj⟩ := List.mem_filterMap.mp hc
      rw [← tx_list l]
      exact Array.mem_toList_iff.mpr (Array.mem_of_getElem? hj)
    refine ⟨?_, tv _, H4, I5.tok _, ⟨_, rfl⟩, q _ e4 e3⟩
    show (List.toArray _).size ≤ sizeLine
    rw [List.size_toArray]
    exact fit5 (Nat.le_trans e3 hz)
end
/-! ### max, min of two letters -/
section
variable {prog : Program} {w : World} {A : Around} {E : Value → Shared → Prop} {s : Shared}
theorem cmp_gt {P : Nat → Value → Prop} (val : Nat → Nat) (hval : ∀ i v, P i v → ∃ t, v = .str (lt (val i)) t) : CmpOf prog w A .Gt P (fun i j => decide (val j < val i)) := fun i j vi vj s Q E hi hj h => by
  obtain ⟨t, rfl⟩ := hval i vi hi
  obtain ⟨u, rfl⟩ := hval j vj hj
  have h' : Q (.bool (decide ((lt (val j)).cps.toList < (lt (val i)).cps.toList))) s := by
    show Q (.bool (decide (([val j] : List Nat) < [val i]))) s
    rw [one_lt]
    exact h
  exact PySem.P.gt_str h'
theorem cmp_lt {P : Nat → Value → Prop} (val : Nat → Nat) (hval : ∀ i v, P i v → ∃ t, v = .str (lt (val i)) t) : CmpOf prog w A .Lt P (fun i j => decide (val i < val j)) := fun i j vi vj s Q E hi hj h => by
  obtain ⟨t, rfl⟩ := hval i vi hi
  obtain ⟨u, rfl⟩ := hval j vj hj
  have h' : Q (.bool (decide ((lt (val i)).cps.toList < (lt (val j)).cps.toList))) s := by
    show Q (.bool (decide (([val i] : List Nat) < [val j]))) s
    rw [one_lt]
    exact h
  exact PyProof.Rows.lt_str h'
def two (a b : Nat) : Nat → Nat
  | 0 => a
  | _ => b
theorem two_at {a b : Nat} {t u : Tok} {i : Nat} {v : Value} (h : (#[Value.str (lt a) t, Value.str (lt b) u] : Array Value)[i]? = some v) : ∃ t', v = .str (lt (two a b i)) t' := by
  match i, h with
  | 0, h => exact ⟨t, by simpa [two] using h.symm⟩
  | 1, h => exact ⟨u, by simpa [two] using h.symm⟩
  | i + 2, h => simp at h
theorem best_gt {a b : Nat} {t u : Tok} {v : Value} (h : (#[Value.str (lt a) t, Value.str (lt b) u] : Array Value)[argBest (fun i j => decide (two a b j < two a b i)) (2 - 1)]? = some v) : ∃ t', v = .str (lt (if a < b then b else a)) t' := by
  by_cases hab : a < b
  · have e : argBest (fun i j => decide (two a b j < two a b i)) (2 - 1) = 1 := by simp [argBest, two, hab]
    rw [e] at h
    rw [if_pos hab]
    exact ⟨u, by simpa using h.symm⟩
  · have e : argBest (fun i j => decide (two a b j < two a b i)) (2 - 1) = 0 := by simp [argBest, two, hab]
    rw [e] at h
    rw [if_neg hab]
    exact ⟨t, by simpa using h.symm⟩
theorem best_lt {a b : Nat} {t u : Tok} {v : Value} (h : (#[Value.str (lt a) t, Value.str (lt b) u] : Array Value)[argBest (fun i j => decide (two a b i < two a b j)) (2 - 1)]? = some v) : ∃ t', v = .str (lt (if b < a then b else a)) t' := by
  by_cases hab : b < a
  · have e : argBest (fun i j => decide (two a b i < two a b j)) (2 - 1) = 1 := by simp [argBest, two, hab]
    rw [e] at h
    rw [if_pos hab]
    exact ⟨u, by simpa using h.symm⟩
  · have e : argBest (fun i j => decide (two a b i < two a b j)) (2 - 1) = 0 := by simp [argBest, two, hab]
    rw [e] at h
    rw [if_neg hab]
    exact ⟨t, by simpa using h.symm⟩
theorem max_two_let {a b : Nat} {t u : Tok} {Q : Value → Shared → Prop} (hh : A.handled = none)
    (h : ∀ h' tk t', (∀ c o, s.heap.get? c = some o → h'.get? c = some o) → Q (.str (lt (if a < b then b else a)) t') { s with heap := h', toks := tk }) :
    wpAny (model prog w) A (call (.builtin "max") [.str (lt a) t, .str (lt b) u]) Q E s := by
  have hT : (s.heap.push { cls := .type "tuple", data := .seq #[.str (lt a) t, .str (lt b) u] }).IsTuple s.heap.objs.size #[.str (lt a) t, .str (lt b) u] := ⟨_, Heap.get?_push_size _ rfl, rfl, 0, rfl⟩
  refine call_max_two (wpAny_pyIter_tuple hT ?_)
  have hsz : (s.heap.push { cls := .type "tuple", data := .seq #[.str (lt a) t, .str (lt b) u] }).objs.size = s.heap.objs.size + 1 := Heap.size_push ..
  refine ⟨_, [_, s.heap.objs.size], [_], _, _, _, _, rfl, Walks.tuple (A := A.in1) hh _ s.heap.objs.size (by rw [hsz]; exact Nat.ne_of_lt (Nat.lt_succ_self _)) #[.str (lt a) t, .str (lt b) u],
    ⟨⟨_, Heap.get?_push_size _ rfl, rfl, rfl⟩, hT.push _⟩, fun c hc => ?_, by simp, cmp_gt (two a b) (fun _ _ e => two_at e), fun v h' tk hP hk => ?_⟩
  · show c < ((s.heap.push _).push _).objs.size
    rw [Heap.size_push, hsz]
    have : c = s.heap.objs.size + 1 ∨ c = s.heap.objs.size := by
      rw [← hsz]
      simpa using hc
    rcases this with e | e
    · rw [e]
      exact Nat.lt_succ_self _
    · rw [e]
      exact Nat.lt_succ_of_lt (Nat.lt_succ_self _)
  · obtain ⟨t', e⟩ := best_gt hP
    subst e
    refine h h' tk t' fun c o e => hk c o (fun hm => ?_) (Heap.get?_push_of_some _ (Heap.get?_push_of_some _ e))
    have e1 := List.mem_singleton.mp hm
    have e2 := Heap.lt_size e
    rw [e1, hsz] at e2
    exact Nat.lt_irrefl _ (Nat.lt_of_succ_lt e2)
theorem min_two_let {a b : Nat} {t u : Tok} {Q : Value → Shared → Prop} (hh : A.handled = none)
    (h : ∀ h' tk t', (∀ c o, s.heap.get? c = some o → h'.get? c = some o) → Q (.str (lt (if b < a then b else a)) t') { s with heap := h', toks := tk }) :
    wpAny (model prog w) A (call (.builtin "min") [.str (lt a) t, .str (lt b) u]) Q E s := by
  have hT : (s.heap.push { cls := .type "tuple", data := .seq #[.str (lt a) t, .str (lt b) u] }).IsTuple s.heap.objs.size #[.str (lt a) t, .str (lt b) u] := ⟨_, Heap.get?_push_size _ rfl, rfl, 0, rfl⟩
  refine call_min_two (wpAny_pyIter_tuple hT ?_)
  have hsz : (s.heap.push { cls := .type "tuple", data := .seq #[.str (lt a) t, .str (lt b) u] }).objs.size = s.heap.objs.size + 1 := Heap.size_push ..
  refine ⟨_, [_, s.heap.objs.size], [_], _, _, _, _, rfl, Walks.tuple (A := A.in1) hh _ s.heap.objs.size (by rw [hsz]; exact Nat.ne_of_lt (Nat.lt_succ_self _)) #[.str (lt a) t, .str (lt b) u],
    ⟨⟨_, Heap.get?_push_size _ rfl, rfl, rfl⟩, hT.push _⟩, fun c hc => ?_, by simp, cmp_lt (two a b) (fun _ _ e => two_at e), fun v h' tk hP hk => ?_⟩
  · show c < ((s.heap.push _).push _).objs.size
    rw [Heap.size_push, hsz]
    have : c = s.heap.objs.size + 1 ∨ c = s.heap.objs.size := by
      rw [← hsz]
      simpa using hc
    rcases this with e | e
    · rw [e]
      exact Nat.lt_succ_self _
    · rw [e]
      exact Nat.lt_succ_of_lt (Nat.lt_succ_self _)
  · obtain ⟨t', e⟩ := best_lt hP
    subst e
    refine h h' tk t' fun c o e => hk c o (fun hm => ?_) (Heap.get?_push_of_some _ (Heap.get?_push_of_some _ e))
    have e1 := List.mem_singleton.mp hm
    have e2 := Heap.lt_size e
    rw [e1, hsz] at e2
    exact Nat.lt_irrefl _ (Nat.lt_of_succ_lt e2)
end
section
variable {X : Cx}
theorem call_maxL (hc : X.calm = true) : CallR X (.builtin "max") (fun xs H Q => ∃ a b : Nat, xs = [lv a, lv b] ∧ Q (lv (if a < b then b else a)) H) := by
  intro pins s σ H xs us Q I r h
  obtain ⟨a, b, rfl, q⟩ := h
  obtain ⟨u, w', rfl, ⟨t, rfl⟩, ⟨t', rfl⟩⟩ := vals2 r
  exact max_two_let (I.ok.hd hc) fun h' tk t2 k => ⟨lv (if a < b then b else a), H, I.kept k, ⟨t2, rfl⟩, q⟩
theorem call_minL (hc : X.calm = true) : CallR X (.builtin "min") (fun xs H Q => ∃ a b : Nat, xs = [lv a, lv b] ∧ Q (lv (if b < a then b else a)) H) := by
  intro pins s σ H xs us Q I r h
  obtain ⟨a, b, rfl, q⟩ := h
  obtain ⟨u, w', rfl, ⟨t, rfl⟩, ⟨t', rfl⟩⟩ := vals2 r
  exact min_two_let (I.ok.hd hc) fun h' tk t2 k => ⟨lv (if b < a then b else a), H, I.kept k, ⟨t2, rfl⟩, q⟩
end
end Tix
set_option Elab.async false
set_option linter.all false
set_option maxRecDepth 100000
set_option maxHeartbeats 4000000
/-! enumerate of a tuple, in a for. -/
namespace Tix
open PySem PySem.Spec PyProof.Rows L2
open AutoSeq1 (wpAny_loadPart')
theorem meets_enum_tup (l : Addr) (items : Array Value) (n : Nat) (dct : Option Addr) (sl : Array (Option Value)) :
    Meets (Builtin.«enumerate.__new__» ⟨[.type "enumerate", .ref l], []⟩) (fun _ R s => s.heap.get? l = some { cls := .type "tuple", dict := dct, data := .seq items n, slots := sl } ∧
      R (.ok (.ret (.ref (s.heap.push { cls := .type "tuple_iterator", data := .fields #[.ref l, .int 0 0] }).objs.size)))
        { s with heap := (s.heap.push { cls := .type "tuple_iterator", data := .fields #[.ref l, .int 0 0] }).push { cls := .type "enumerate", data := .fields #[.none, .bool false, .ref s.heap.objs.size, rawInt 0, .none, .none] } }) :=
  .of_wp fun prog w A R s h => by
    obtain ⟨hp, g, d, tk, os⟩ := s
    obtain ⟨hl, h⟩ := h
    have hsub := sub_enumerate
    have hL : Heap.IsTuple (Shared.heap ⟨hp, g, d, tk, os⟩) l items := ⟨_, hl, rfl, n, rfl⟩
    wp_walk using wpAny_loadPart' hl
    refine wpAny_stack_any fun st => wpAny_pure ?_
    split
    · rename_i c _ _ _ _ _
      cases (c == Value.type "enumerate")
      · wp_walk using wpAny_loadPart' hl, wpAny_pyIter_tuple hL
        exact ⟨_, rfl, h⟩
      · wp_walk using wpAny_loadPart' hl, wpAny_pyIter_tuple hL
        exact ⟨_, rfl, h⟩
    · wp_walk using wpAny_loadPart' hl, wpAny_pyIter_tuple hL
      exact ⟨_, rfl, h⟩
section
variable {prog : Program} {w : World} {A : Around} {E : Value → Shared → Prop} {s : Shared}
theorem call_enum_tup {l : Addr} {items : Array Value} {Q : Value → Shared → Prop} (hL : IsTup s.heap l items)
    (h : ∀ h', IsEnum h' (s.heap.objs.size + 1) s.heap.objs.size 0 .none → h'.IsTupleIter s.heap.objs.size l 0 → h'.objs.size = s.heap.objs.size + 2 →
      (∀ b o, s.heap.get? b = some o → h'.get? b = some o) → Q (.ref (s.heap.objs.size + 1)) { s with heap := h' }) :
    wpAny (model prog w) A (call (.type "enumerate") [.ref l]) Q E s := by
  obtain ⟨⟨c, dct, dt, sl⟩, hl, hc, n, hd⟩ := hL
  replace hc : c = .type "tuple" := hc
  replace hd : dt = .seq items n := hd
  subst hc hd
  refine callType_new F.called_enumerate (by decide) (F.typeCall_enumerate_1 _) (F.newCall_enumerate_1 _) (fun obj => F.args_object_init_2 obj _) F.entry_enumerate_new
    (meets_enum_tup l items n dct sl) ⟨hl, ?_⟩
  have hz : (s.heap.push { cls := .type "tuple_iterator", data := .fields #[.ref l, .int 0 0] }).objs.size = s.heap.objs.size + 1 := Heap.size_push ..
  show _ ∧ _
  rw [hz]
  have he : IsEnum ((s.heap.push { cls := .type "tuple_iterator", data := .fields #[.ref l, .int 0 0] }).push
      { cls := .type "enumerate", data := .fields #[.none, .bool false, .ref s.heap.objs.size, rawInt 0, .none, .none] }) (s.heap.objs.size + 1) s.heap.objs.size 0 .none := by
    have e0 := Heap.get?_push_size (s.heap.push { cls := .type "tuple_iterator", data := .fields #[.ref l, .int 0 0] })
      (o := { cls := .type "enumerate", data := .fields #[.none, .bool false, .ref s.heap.objs.size, rawInt 0, .none, .none] }) rfl
    rw [hz] at e0
    exact e0
  refine ⟨⟨_, he, rfl⟩, h _ he ⟨_, Heap.get?_push_of_some _ (Heap.get?_push_size _ rfl), rfl, rfl⟩ (by rw [Heap.size_push, hz]) fun b o x => Heap.get?_push_of_some _ (Heap.get?_push_of_some _ x)⟩
end
/-- the tuple at a as it stands at each turn, each item in a new pair -/
def Itet (K : PySem.W.Frag) (a : Addr) : It :=
  ⟨fun i H => ∃ (xs : List V) (x : V), SqT K H a xs ∧ xs[i]? = some x, fun i H v H' => ∃ T x, v = .ref T ∧ H T = none ∧ H' = upd H T (.tup [.int (i : Nat), x]) ∧ ∀ xs, SqT K H a xs → xs[i]? = some x, fun i H => ∃ xs : List V, SqT K H a xs ∧ xs.length = i⟩
theorem turn_enumT {P : Program} {w : World} {K : PySem.W.Frag} {elts : List Expr} {kk : Nat} {tpos : Pos} (a e it : Addr) :
    Turn P w K (.Tuple elts kk tpos) (Itet K a) [e, it] e (fun i h => (∃ old, IsEnum h e it ((i : Nat) : Int) old) ∧ h.IsTupleIter it a i ∧ e ≠ it ∧ a ≠ it ∧ a ≠ e) where
  mem := by simp
  obj := fun i h st b hb => by
    obtain ⟨⟨old, he⟩, ⟨o, ho, hc, hd⟩, _⟩ := st
    have e' : b = e ∨ b = it := by simpa using hb
    rcases e' with z | z
    · rw [z]
      exact ⟨_, he, fun v q => nomatch q⟩
    · rw [z]
      exact ⟨o, ho, fun v q => by rw [hd] at q; cases q⟩
  keep := fun i h h' st k => let ⟨⟨old, he⟩, hi, hne⟩ := st; ⟨⟨old, k e (by simp) _ he⟩, hi.at fun o q => k it (by simp) o q, hne⟩
  item := by
    intro X hP hw hK hc i pins s σ H E I hf st hg
    subst hP hw hK
    obtain ⟨⟨old, he⟩, hit, hne, ha1, ha2⟩ := st
    obtain ⟨xs, x, hq, hx⟩ := hg
    obtain ⟨its, rv, p, hz⟩ := I.tuple hq
    obtain ⟨u, hu, ru⟩ := rv.get hx
    have hel : e < s.heap.objs.size := Heap.lt_size he
    have hil : it < s.heap.objs.size := by obtain ⟨_, q, _⟩ := hit; exact Heap.lt_size q
    have hlt : i < its.toArray.size := by
      have := (List.getElem?_eq_some_iff.mp hu).1
      simpa using this
    have D := Draws.tuple (prog := X.prog) (w := X.w) (A := X.A.in1) (I.ok.hd hc) it a ha1 its.toArray
    have hef : e ∉ [it, a] := by
      intro z
      rcases List.mem_cons.mp z with z | z
      · exact hne z
      · exact ha2 (List.mem_singleton.mp z).symm
    refine wpAny_pyNext_enum_itemD D he ⟨hit, p⟩ hlt hne hef fun x' h' tk hP' ho hs' hT hsz hk => ?_
    have ex : x' = u := by
      have h1 : its.toArray[i]? = some x' := hP'
      have h2 : its[i]? = some x' := by simpa using h1
      rw [hu] at h2
      exact (Option.some.inj h2).symm
    subst ex
    refine ⟨_, rfl, wpAny_letOwnedTupleGo_enum (s := { s with heap := h', toks := tk + 1 }) ho fun h'' he' sb => ?_⟩
    have hT2 : h''.get? s.heap.objs.size = some { cls := .type "tuple", data := .seq #[.int i tk, x'] } := (sb.2 _ (Nat.ne_of_gt hel)).trans hT
    have new : ObjOk X.prog X.w (upd H s.heap.objs.size (.tup [.int (i : Nat), x])) h'' s.heap.objs.size (.tup [.int (i : Nat), x]) :=
      ⟨by show 2 ≤ sizeLine; decide, [.int i tk, x'], .cons ⟨_, rfl⟩ (.cons ru .nil), ⟨_, hT2, rfl, _, rfl⟩⟩
    have I1 : Inv X pins σ (upd H s.heap.objs.size (.tup [.int (i : Nat), x])) { s with heap := h'', toks := tk + 1 } :=
      I.turnedNew (ch := [e, it]) (fun b ob hb q => (sb.2 b (fun z => hb (by simp [z]))).trans (hk b ob (fun z => hb (by simp [z])) (fun z => hb (by simp [z])) q)) hf (Nat.le_refl _) new
    refine ⟨.ref s.heap.objs.size, _, I1, rfl, ⟨_, x, rfl, I.hok.fresh (Nat.le_refl _), rfl, fun ys hy => by rw [I.tuple_inj hy hq]; exact hx⟩, ⟨⟨x', ?_⟩, hs'.1.at fun o q => (sb.2 it (Ne.symm hne)).trans q, hne, ha1, ha2⟩, fun b hb => ?_⟩
    · have e1 : ((i + 1 : Nat) : Int) = (i : Int) + 1 := by omega
      rw [e1]
      exact he'
    · have hb' : b < s.heap.objs.size := by
        have e' : b = e ∨ b = it := by simpa using hb
        rcases e' with z | z
        · rw [z]
          exact hel
        · rw [z]
          exact hil
      rw [upd_ne (Nat.ne_of_lt hb')]
      exact (hf b hb).1
  done := by
    intro X hP hw hK hc i pins s σ H E I hf st hg
    subst hP hw hK
    obtain ⟨⟨old, he⟩, hit, hne, ha1, ha2⟩ := st
    obtain ⟨xs, hq, hx⟩ := hg
    obtain ⟨its, rv, p, hz⟩ := I.tuple hq
    obtain ⟨f0, f1, f2, f3, f4, f5⟩ := hf it (by simp)
    have hl := rv.length
    have D := Draws.tuple (prog := X.prog) (w := X.w) (A := X.A.in1) (I.ok.hd hc) it a ha1 its.toArray
    have hn : its.toArray.size = i := by simp; omega
    rw [← hn] at hit he
    exact wpAny_pyNext_enum_endD D he ⟨hit, p⟩ fun h' eb => ⟨rfl, I.turned (t' := s.toks) (fun b o hb q => eb b o hb q) f0 f1 f3 f4 f5⟩
  self := fun A i s Q E st h => let ⟨⟨_, he⟩, _⟩ := st; wpAny_pyIter_enum he h
def iEnumT (K : PySem.W.Frag) (ta : TA) : TI := fun σ H R => ta σ H fun vs H1 => ∃ a xs, vs = [.ref a] ∧ SqT K H1 a xs ∧ R (Itet K a) H1
theorem pi_enumT {X : Cx} {e : Expr} {ta : TA} {p pos tpos : Pos} {elts : List Expr} {kk : Nat} (hg : Gl X "enumerate") (hm : X.mg "enumerate" = none) (ha : PA X [e] ta) (hs : starEach [e] X.env = [(false, eval e X.env)] := by rfl) :
    PI X (.Tuple elts kk tpos) (.Call (.Name "enumerate" p) [e] [] pos) (iEnumT X.K ta) := by
  refine ⟨fun pins s σ H R I h => ?_⟩
  refine Call_ (ld_blt I hg hm boot_enumerate (PyProof.Rows.callWith_type1 (thn (ha.run pos pins s σ H _ I h) fun us s1 ⟨vs, H1, I1, r1, q1⟩ => ?_) hs rfl))
  obtain ⟨a, xs, ex, hq, q⟩ := q1
  subst ex
  cases r1 with
  | cons r rr =>
    cases rr
    cases r
    obtain ⟨its, rv, p', hz⟩ := I1.tuple hq
    have hal : a < s1.heap.objs.size := p'.lt
    refine call_enum_tup p' fun h' he hit hsz hk => wpAny_pyIter_enum he ?_
    have I2 : Inv X pins σ H1 { s1 with heap := h' } := I1.kept (t' := s1.toks) hk
    refine ⟨s1.heap.objs.size + 1, [s1.heap.objs.size + 1, s1.heap.objs.size], _, _, H1, rfl, I2, turn_enumT a (s1.heap.objs.size + 1) s1.heap.objs.size,
      ⟨⟨.none, he⟩, hit, Nat.succ_ne_self _, Nat.ne_of_lt hal, Nat.ne_of_lt (Nat.lt_succ_of_lt hal)⟩, fun b hb => ?_, q⟩
    have e' : b = s1.heap.objs.size + 1 ∨ b = s1.heap.objs.size := by simpa using hb
    have hle : s1.heap.objs.size ≤ b := by
      rcases e' with z | z
      · rw [z]
        exact Nat.le_add_right _ _
      · rw [z]
        exact Nat.le_refl _
    exact I1.fpOk hle (I1.hok.fresh hle)
end Tix
set_option Elab.async false
set_option linter.all false
set_option maxRecDepth 100000
set_option maxHeartbeats 4000000
/-! set(text), sorted(set(text)). -/
namespace Tix
open PySem PySem.Spec PyProof.Rows L2
def kC (e : Int × Value) : Nat := cv e.2
def GoodC (w : World) (e : Int × Value) : Prop := ∃ c tk, e = (hashStr w (lt c), Value.str (lt c) tk)
/-- the set of letters at a: its members are those of l -/
def SetL (w : World) (h : Heap) (a : Addr) (l : List Nat) : Prop :=
  ∃ o es ep t, h.get? a = some o ∧ o.ExactSet ∧ o.data = .set es ep t ∧ (∀ e ∈ es.toList, GoodC w e) ∧ (es.toList.map kC).Nodup ∧ (∀ c, c ∈ l ↔ c ∈ es.toList.map kC) ∧
    es.size ≤ l.length ∧ t.fits es.size = true ∧ Ris t.place.toList ∧ (w.params.followText "set-order" = true ∨ t.led = true)
section
variable {P : Program} {w : World} {h h' : Heap} {a : Addr} {l : List Nat}
theorem SetL.at (R : SetL w h a l) (k : ∀ o, h.get? a = some o → h'.get? a = some o) : SetL w h' a l := by
  obtain ⟨o, es, ep, t, ho, r⟩ := R
  exact ⟨o, es, ep, t, k o ho, r⟩
theorem goodC_elems {l : List (Int × Value)} (g : ∀ e ∈ l, GoodC w e) : ElemsOf (PySem.strKind P w) l := fun e he => by
  obtain ⟨c, tk, rfl⟩ := g e he
  exact ⟨⟨lt c, strKind_is P w (lt c) tk, rfl⟩, rfl⟩
theorem goodC_is {e : Int × Value} (g : GoodC w e) (c : Nat) : (PySem.strKind P w).is (lt c) e.2 = true ↔ kC e = c := by
  obtain ⟨d, tk, rfl⟩ := g
  constructor
  · intro z
    have e1 := (PySem.strKind P w).inj _ _ _ (strKind_is P w (lt d) tk) z
    exact lt_inj e1
  · intro z
    have e1 : d = c := z
    subst e1
    exact strKind_is P w (lt d) tk
theorem goodC_mem {l : List (Int × Value)} (g : ∀ e ∈ l, GoodC w e) (c : Nat) : c ∈ l.map kC ↔ ∃ e ∈ l, (PySem.strKind P w).is (lt c) e.2 = true := by
  rw [List.mem_map]
  constructor
  · rintro ⟨e, he, q⟩
    exact ⟨e, he, (goodC_is (g e he) c).2 q⟩
  · rintro ⟨e, he, q⟩
    exact ⟨e, he, (goodC_is (g e he) c).1 q⟩
end
section
variable {P : Program} {w : World} {A : Around} {E : Value → Shared → Prop} {s : Shared} {a : Addr} {l : List Nat}
theorem setL_tail {g : Bool → Sem Unit} (hg : ∀ (b : Bool) (s₁ : Shared) (Q' : Unit → Shared → Prop), Q' () s₁ → wpAny (model P w) A (g b) Q' E s₁)
    {o : Obj} {es : Array (Int × Value)} {ep : Nat} {t : SetTable} (ho : s.heap.get? a = some o) (hex : o.ExactSet) (hd : o.data = .set es ep t)
    {es1 : Array (Int × Value)} {t2 : SetTable} {m : List Nat} (g1 : ∀ e ∈ es1.toList, GoodC w e) (nd1 : (es1.toList.map kC).Nodup) (m1 : ∀ c, c ∈ m ↔ c ∈ es1.toList.map kC)
    (hz1 : es1.size ≤ m.length) (hb1 : es1.size < scanBound) (hf2 : t2.fits es1.size = true) (hr : Ris t2.place.toList) (hl : w.params.followText "set-order" = true ∨ t2.led = true) {wasDummy : Bool} {R : Option Bool → Shared → Prop}
    (hR : ∀ h', Heap.SameBut a s.heap h' → SetL w h' a m → R (some true) { s with heap := h' }) :
    wpAny (model P w) A (do
        storeSet a es1 t2
        if (!wasDummy && t2.tooFull) = true then do
            g (relayAll t2 es1 (SetTable.grown es1.size)).2.2
            storeSet a (relayAll t2 es1 (SetTable.grown es1.size)).1 (relayAll t2 es1 (SetTable.grown es1.size)).2.1
            pure (some true)
          else pure (some true)) R E s := by
  refine wpAny_bind (wpAny_storeSet_of ho hd ?_ (fits_of_scanBound hb1))
  have ho1 := store_at (es' := es1) (t' := t2) ho hd
  have sb1 := Heap.SameBut.update s.heap a (Obj.putSet es1 t2)
  split
  · have pm := relayAll_perm t2 es1 (SetTable.grown es1.size)
    have hf3 := relayAll_fits t2 es1 (SetTable.grown es1.size)
    have hr3 := relayAll_ris t2 es1 (SetTable.grown es1.size)
    have hl3 := relayAll_led t2 es1 (SetTable.grown es1.size)
    generalize relayAll t2 es1 (SetTable.grown es1.size) = Z at pm hf3 hr3 hl3 ⊢
    obtain ⟨es2, t3, gave⟩ := Z
    dsimp only at pm hf3 hr3 hl3 ⊢
    have hsz : es2.size = es1.size := by rw [← Array.length_toList, pm.length_eq, Array.length_toList]
    have hb2 : es2.size < scanBound := by rw [hsz]; exact hb1
    refine wpAny_bind (hg _ _ _ ?_)
    refine wpAny_bind (wpAny_storeSet_of ho1 rfl ?_ (fits_of_scanBound hb2))
    have ho2 := store_at (es' := es2) (t' := t3) ho1 rfl
    refine wpAny_pure (hR _ (sb1.trans (Heap.SameBut.update _ a _)) ?_)
    exact ⟨_, es2, _, t3, ho2, hex, rfl, fun e he => g1 e (pm.mem_iff.mp he), (pm.map kC).nodup_iff.mpr nd1, fun c => (m1 c).trans (pm.map kC).mem_iff.symm, by rw [hsz]; exact hz1, hf3, hr3,
      hl.imp id fun z => by rw [hl3]; exact z⟩
  · exact wpAny_pure (hR _ sb1 ⟨_, es1, _, t2, ho1, hex, rfl, g1, nd1, m1, hz1, hf2, hr, hl⟩)
theorem setL_add {c : Nat} {tk : Tok} {Q : Bool → Shared → Prop} (R : SetL w s.heap a l) (room : l.length + 1 < scanBound)
    (hQ : ∀ h' b, Heap.SameBut a s.heap h' → SetL w h' a (l ++ [c]) → Q b { s with heap := h' }) :
    wpAny (model P w) A (setAddHashed a (.str (lt c) tk) (hashStr w (lt c))) Q E s := by
  obtain ⟨o, es, ep, t, ho, hex, hd, g, nd, hm, hz, hf, hr, hl⟩ := R
  have hb : es.size < scanBound := by omega
  have hkey : (PySem.strKind P w).is (lt c) (.str (lt c) tk) = true := strKind_is P w (lt c) tk
  have hsc : (Value.str (lt c) tk).scannable = true := rfl
  have hel : ElemsOf (PySem.strKind P w) es.toList := goodC_elems g
  unfold setAddHashed setAddHashedIn
  refine wpAny_holding (wpAny_bind (wpAny_setState_of ho hd hf ?_))
  dsimp only
  rw [byScan_of hsc hb hel]
  simp only [↓reduceIte]
  unfold setAddByScan
  refine wpAny_bind ?_
  refine wpAny_bind (wpAny_rule ?_)
  refine wpAny_bind (wpAny_setScan_of hkey ho hd hf hel ?_)
  have hml : ∀ d, d ∈ l ++ [c] ↔ d ∈ l ∨ d = c := fun d => by rw [List.mem_append, List.mem_singleton]
  cases hfi : List.findIdx? (fun e => (PySem.strKind P w).is (lt c) e.2) es.toList with
  | some j =>
    dsimp only
    obtain ⟨hj, pj, _⟩ := List.findIdx?_eq_some_iff_getElem.mp hfi
    have hc : c ∈ es.toList.map kC := (goodC_mem (P := P) g c).2 ⟨es.toList[j], List.getElem_mem hj, pj⟩
    refine wpAny_pure (wpAny_pure ?_)
    refine hQ s.heap _ (Heap.SameBut.refl a s.heap) ⟨o, es, ep, t, ho, hex, hd, g, nd, fun d => ?_, by rw [List.length_append]; exact Nat.le_trans hz (Nat.le_add_right _ _), hf, hr, hl⟩
    rw [hml, hm d]
    exact ⟨fun z => z.elim id fun e => e ▸ hc, .inl⟩
  | none =>
    dsimp only
    have hnk : c ∉ es.toList.map kC := fun z => by
      obtain ⟨e, he, q⟩ := (goodC_mem (P := P) g c).1 z
      have q2 := List.findIdx?_eq_none_iff.mp hfi e he
      rw [q] at q2
      cases q2
    have hgw : ∀ (b : Bool) {s₁ : Shared} {Q' : Unit → Shared → Prop}, Q' () s₁ → wpAny (model P w) A (match b with | true => rule "set.scan.the-table-gave-way" | false => pure ()) Q' E s₁ :=
      fun b s₁ Q' q => by cases b <;> first | exact wpAny_pure q | exact wpAny_rule q
    have pm := layNew_perm t es (hashStr w (lt c)) (.str (lt c) tk)
    have hf1 := layNew_fits t es (hashStr w (lt c)) (.str (lt c) tk)
    have hr1 := layNew_ris t es (hashStr w (lt c)) (.str (lt c) tk) hr
    have hl1 := layNew_led t es (hashStr w (lt c)) (.str (lt c) tk)
    generalize layNew t es (hashStr w (lt c)) (.str (lt c) tk) = Z at pm hf1 hr1 hl1 ⊢
    obtain ⟨es1, t1, wasDummy, gave⟩ := Z
    dsimp only at pm hf1 hr1 hl1 ⊢
    rw [Array.toList_push] at pm
    have pc : es1.toList.Perm ((hashStr w (lt c), Value.str (lt c) tk) :: es.toList) := pm.trans (List.perm_append_singleton _ _)
    have pk : (es1.toList.map kC).Perm (c :: es.toList.map kC) := pc.map kC
    have g1 : ∀ e ∈ es1.toList, GoodC w e := fun e he => by
      rcases List.mem_cons.mp (pc.mem_iff.mp he) with z | z
      · exact ⟨c, tk, z⟩
      · exact g e z
    have nd1 : (es1.toList.map kC).Nodup := pk.nodup_iff.mpr (List.nodup_cons.mpr ⟨hnk, nd⟩)
    have m1 : ∀ d, d ∈ l ++ [c] ↔ d ∈ es1.toList.map kC := fun d => by
      rw [hml, hm d, pk.mem_iff, List.mem_cons]
      exact Or.comm
    have hsz : es1.size = es.size + 1 := by rw [← Array.length_toList, pc.length_eq, List.length_cons, Array.length_toList]
    have hz1 : es1.size ≤ (l ++ [c]).length := by
      rw [hsz, List.length_append]
      exact Nat.succ_le_succ hz
    have hb1 : es1.size < scanBound := by omega
    have hled : w.params.followText "set-order" = true ∨ t1.led = true := hl.imp id fun z => by rw [hl1]; exact z
    refine wpAny_bind (hgw _ ?_)
    split
    · refine wpAny_bind ?_
      rw [hashByValue_scannable 8 hsc]
      refine wpAny_pure ?_
      refine setL_tail ?_ ho hex hd g1 nd1 m1 hz1 hb1 ?_ ?_ ?_ ?_
      · intro b s₁ Q' q
        cases b <;> first | exact wpAny_pure q | exact wpAny_rule q
      · first | (split <;> first | exact hf1 | exact SetTable.fits_plain_off hf1) | exact hf1
      · first | (split <;> exact hr1) | exact hr1
      · first | (split <;> exact hled) | exact hled
      · intro h' sb r
        dsimp only
        exact wpAny_pure (hQ h' _ sb r)
    · refine wpAny_bind (wpAny_pure ?_)
      simp only [↓reduceIte]
      refine setL_tail ?_ ho hex hd g1 nd1 m1 hz1 hb1 hf1 hr1 hled ?_
      · intro b s₁ Q' q
        cases b <;> first | exact wpAny_pure q | exact wpAny_rule q
      · intro h' sb r
        dsimp only
        exact wpAny_pure (hQ h' _ sb r)
/-- the loop that adds a text's signs -/
theorem setL_loop {I : Addr} {fp wr : List Addr} {G : Array GenState → Array GenState → Prop} {l : List Nat} {St : Nat → Shared → Prop} {R : Result → Shared → Prop}
    (W : WalksS P w A.in1 I fp wr G l.length (SignAt (tx l)) St) (S : Addr) (hSf : S ∉ fp) (hb : l.length + 1 < scanBound) :
    ∀ (k i : Nat) (s : Shared), l.length - i = k → i ≤ l.length → St i s → SetL w s.heap S (l.take i) →
      (∀ s', Moved (S :: wr) G s s' → SetL w s'.heap S l → R (.ok (.ret .none)) s') → codeAny (model P w) A (.builtin "set.update.loop" ⟨[.ref S, .ref I], []⟩) R s := by
  have hSw : S ∉ wr := fun h => hSf (W.sub _ h)
  have hsub : ∀ b ∈ wr, b ∈ S :: wr := fun b hb => List.mem_cons_of_mem _ hb
  intro k
  induction k with
  | zero =>
    intro i s hk hi hst hS hR
    have e : i = l.length := by omega
    subst e
    refine codeAny_builtin F.entry_set_update_loop ?_
    rw [Around.under_plainId F.plain_set_update_loop _]
    show wpAny _ A.in1 (pyNext (.ref I) >>= _) _ _ s
    refine wpAny_bind (W.done s _ _ hst fun s' hm => ?_)
    show wpAny _ A.in1 (ret Value.none) _ _ s'
    rw [List.take_length] at hS
    exact wpAny_pure (hR s' (hm.mono hsub) (hS.at fun o e => hm.heap S o hSw e))
  | succ k ih =>
    intro i s hk hi hst hS hR
    have hlt : i < l.length := by omega
    refine codeAny_builtin F.entry_set_update_loop ?_
    rw [Around.under_plainId F.plain_set_update_loop _]
    show wpAny _ A.in1 (pyNext (.ref I) >>= _) _ _ s
    refine wpAny_bind (W.item i s _ _ hlt hst fun v s' hP hst' hm => ?_)
    obtain ⟨c, t, hc, rfl⟩ := hP
    have hc' : l[i]? = some c := by
      have e : (tx l).cps.toList[i]? = some c := by
        rw [Array.getElem?_toList]
        exact hc
      rwa [tx_list] at e
    have hS' : SetL w s'.heap S (l.take i) := hS.at fun o e => hm.heap S o hSw e
    show wpAny _ A.in1 (holding [Value.str (lt c) t] (setAdd S (.str (lt c) t)) >>= _) _ _ s'
    refine wpAny_bind (wpAny_holding ?_)
    unfold setAdd
    refine wpAny_holding ?_
    refine wpAny_bind ((PySem.strKind P w).pyHash (k := lt c) (strKind_is _ _ _ _) ?_)
    refine setL_add (s := { s' with toks := s'.toks + 1 }) hS' (by rw [List.length_take]; omega) fun h' b hsb hS2 => ?_
    have hS3 : SetL w h' S (l.take (i + 1)) := by
      rw [List.take_add_one, hc']
      exact hS2
    refine wpAny_pure ⟨plainId_quiet F.plain_set_update_loop _, ih (i + 1) _ (by omega) hlt (W.frame _ s' _ _ hst' (Nat.le_succ _) fun b hb o e => ?_) hS3 fun s'' hm'' hS'' => ?_⟩
    · rw [hsb.2 b (fun h : b = S => hSf (by rw [← h]; exact hb))]
      exact e
    · refine hR s'' (Moved.trans W.gtrans ((hm.mono hsub).then_heap (Nat.le_succ _) fun b o hb e => ?_) hm'') hS''
      rw [hsb.2 b (fun h : b = S => hb (by rw [h]; exact List.mem_cons_self))]
      exact e
/-- a set just made -/
def noSet (w : World) : Obj := { cls := .type "set", dict := none, data := .set #[] 0 (.fresh 0 0 (!w.params.followText "set-order")) }
theorem setL_new {h : Heap} {a : Addr} (ho : h.get? a = some (noSet w)) : SetL w h a [] :=
  ⟨_, #[], 0, _, ho, ⟨rfl, rfl, rfl⟩, rfl, (fun e he => by simp at he), (by simp), (fun k => by simp), (by decide), (by rfl), List.Pairwise.nil, by
    show _ ∨ (!w.params.followText "set-order") = true
    cases w.params.followText "set-order"
    · exact .inr rfl
    · exact .inl rfl⟩
set_option maxHeartbeats 8000000 in
theorem call_set_text {l : List Nat} {u : Tok} {Q : Value → Shared → Prop} (hh : A.handled = none) (hb : l.length + 1 < scanBound)
    (h : ∀ (h' : Heap) (tk : Nat), SetL w h' s.heap.objs.size l → (∀ b o, s.heap.get? b = some o → h'.get? b = some o) → Q (.ref s.heap.objs.size) { s with heap := h', toks := tk }) :
    wpAny (model P w) A (call (.type "set") [.str (tx l) u]) Q E s := by
  obtain ⟨c, tl, hmro⟩ := F.called_set.mro
  have hmade := F.called_set.made
  have hsub := F.called_set.sub
  refine wpAny_call (codeAny_of_tree ?_)
  show wpAny _ _ (callAny (.type "set") _) _ _ _
  refine wpAny_pure ⟨Code.quiet_builtin _ (by decide +kernel), codeAny_builtin F.entry_type_call ?_⟩
  rw [Around.under_plain (weight_type_call_type "set" [.str (tx l) u] []) rfl]
  have h1 := F.called_set.notType
  have h2 := F.called_set.canCreate
  have hct := F.typeCall_set_1 (.str (tx l) u)
  repeat (any_goals (first | assumption | wp_step))
  refine codeAny_mono (code_set_led1 (.str (tx l) u) (E := E) (Q₁ := fun obj s₁ => obj = .ref s.heap.objs.size ∧ s₁ = { s with heap := s.heap.push (noSet w) }) ⟨rfl, rfl⟩) fun r s₁ hr => ?_
  cases r with
  | error e => exact hr
  | ok fl =>
    cases fl with
    | ret obj =>
      obtain ⟨rfl, rfl⟩ := hr
      have hS : (s.heap.push (noSet w)).get? s.heap.objs.size = some (noSet w) := Heap.get?_push_size _ rfl
      have hT : Shared.TypeIs { s with heap := s.heap.push (noSet w) } (.ref s.heap.objs.size) "set" := ⟨_, hS, rfl⟩
      have hli := F.called_set.init.lookup
      have hbi := F.called_set.init.bind (.ref s.heap.objs.size)
      repeat (any_goals (first | assumption | wp_step))
      refine codeAny_mono (codeAny_call_builtin (R := wants (fun r s₂ => r = .none ∧ ∃ h' tk, s₂ = { s with heap := h', toks := tk } ∧ SetL w h' s.heap.objs.size l ∧
          (∀ b o, s.heap.get? b = some o → h'.get? b = some o)) E) F.called_set.init.plain F.entry_set_init (check_set_init_1 hT ?_)) fun r₂ s₂ hr₂ => ?_
      · have hsls := F.sub_str_set
        have hslf := F.sub_str_frozenset
        have hne : (Value.type "str" == Value.type "dict") = false := by decide
        unfold Builtin.«set.__init__» noKeywords Builtin.Frozenset.updateFrom
        generalize hPI : pyIter = PI
        wp_walk
        subst hPI
        refine wpAny_pyIter_str fun o St WA hst => ?_
        refine wpAny_bind (wpAny_runValue ?_)
        have hh3 : A.in1.in1.in1.handled = none := by simp [hh]
        have hz1 : (s.heap.push (noSet w)).objs.size = s.heap.objs.size + 1 := Heap.size_push ..
        have hsz : (tx l).cps.size = l.length := by simp [tx]
        have W := (WA A.in1.in1.in1 hh3).toS
        rw [hsz] at W
        have hSf : s.heap.objs.size ∉ [(s.heap.push (noSet w)).objs.size] := by
          rw [hz1]
          intro z
          exact absurd (List.mem_singleton.mp z) (Nat.ne_of_lt (Nat.lt_succ_self _))
        refine setL_loop W s.heap.objs.size hSf hb (l.length - 0) 0 _ (by omega) (Nat.zero_le _) hst (setL_new (Heap.get?_push_of_some _ hS)) fun s' hm hS' => ?_
        obtain ⟨h', g2, d', tk', os'⟩ := s'
        have eg : g2 = s.gens := hm.gens
        have ed : d' = s.drawn := hm.drawn
        have eo : os' = s.os := hm.os
        subst eg
        subst ed
        subst eo
        show wpAny _ _ _ _ _ _
        refine wpAny_pure ?_
        show wpAny _ _ (ret Value.none) _ _ _
        refine wpAny_pure ⟨rfl, h', tk', rfl, hS', fun b o e => ?_⟩
        have hb0 : b < s.heap.objs.size := Heap.lt_size e
        refine hm.heap b o (fun z => ?_) (Heap.get?_push_of_some _ (Heap.get?_push_of_some _ e))
        rcases List.mem_cons.mp z with z | z
        · exact Nat.ne_of_lt hb0 z
        · have z' := List.mem_singleton.mp z
          rw [hz1] at z'
          exact Nat.ne_of_lt (Nat.lt_succ_of_lt hb0) z'
      · cases r₂ with
        | error e => exact hr₂
        | ok fl₂ =>
          cases fl₂ with
          | ret r =>
            obtain ⟨rfl, h', tk, rfl, hS', hk'⟩ := hr₂
            repeat (any_goals (first | assumption | wp_step))
            exact h _ _ hS' hk'
          | _ => exact hr₂.elim
    | _ => exact hr.elim
end
end Tix
set_option Elab.async false
set_option linter.all false
set_option maxRecDepth 100000
set_option maxHeartbeats 4000000
/-! set(text), sorted(set(text)): the rules. -/
namespace Tix
open PySem PySem.Spec PyProof.Rows L2
section
variable {P : Program} {w : World} {A : Around} {E : Value → Shared → Prop} {s : Shared} {a : Addr} {l : List Nat}
theorem up_lt : ∀ {l : List Nat}, Up l → l.Nodup → l.Pairwise (· < ·)
  | [], _, _ => List.Pairwise.nil
  | x :: l, h, d => by
    obtain ⟨h1, h2⟩ := List.pairwise_cons.mp h
    obtain ⟨d1, d2⟩ := List.nodup_cons.mp d
    refine List.pairwise_cons.mpr ⟨fun y hy => ?_, up_lt h2 d2⟩
    have a := h1 y hy
    have b : x ≠ y := fun z => d1 (z ▸ hy)
    omega
theorem sorted_setL {Q : Value → Shared → Prop} (R : SetL w s.heap a l) (hh : A.handled = none) (hz : l.length ≤ 1000)
    (hQ : ∀ s' p (out : List Value) (c : Nat) (cs : List Nat), (∀ b o, s.heap.get? b = some o → s'.heap.get? b = some o) → s'.gens = s.gens → s'.os = s.os → s.heap.objs.size ≤ p →
      s'.heap.get? p = some (seqObj "list" out.toArray c) → Vals (cs.map lv) out → cs.Pairwise (· < ·) → (∀ d, d ∈ cs ↔ d ∈ l) → cs.length ≤ 1000 → Q (.ref p) s') :
    wpAny (model P w) A (call (.builtin "sorted") [.ref a]) Q E s := by
  obtain ⟨o, es, ep, t, ho, hex, hd, g, nd, hm, hb, hf, hr, hl⟩ := R
  refine Calls.call_function_entry kind_sorted plain_sorted entry_sorted (args_sorted1 _) ?_
  unfold Builtin.«sorted»
  refine wpAny_bind (m := checkCount "sorted" 1 1 _) (wpAny_pure ?_)
  refine wpAny_bind (collect_set (A := A.in1) hh ⟨o, ho, hex.1, hd⟩ hf (by unfold scanBound; omega) hr hl fun s1 vs k1 hz1 g1 o1 pm => ?_)
  have hvl : vs.length = es.size := by rw [pm.length_eq, List.length_map, Array.length_toList]
  have hI : ∀ v ∈ vs, IsLet v := fun v hv => by
    obtain ⟨e, he, q⟩ := List.mem_map.mp (pm.mem_iff.mp hv)
    obtain ⟨c, tk, h1⟩ := g e he
    exact ⟨c, tk, by rw [← q, h1]⟩
  have pk : (vs.map cv).Perm (es.toList.map kC) := by
    have q := pm.map cv
    rw [List.map_map] at q
    exact q
  have hvz : vs.length ≤ sizeLine := by
    rw [hvl]
    exact fit5 (by omega)
  refine wpAny_bind (wpAny_newList ?_ hvz)
  have hoL : (s1.heap.push (seqObj "list" vs.toArray 0)).get? s1.heap.objs.size = some (seqObj "list" vs.toArray 0) := Heap.get?_push_size _ rfl
  refine wpAny_bind (wpAny_holding (wpAny_call_entry slot_list_sort ⟨_, hoL, rfl⟩ entry_list_sort (SrtO.list_sort_ord swo_C hoL hvz (fun h2 => let_sortable hI h2) fun out h1 h2 => ⟨_, rfl, ?_⟩) (args_list_sort _)))
  have w1 := let_out hI h1 h2
  obtain ⟨c, hcc⟩ := PyProof.Rows.sortedHeap_at (vs := vs) (out := out.toArray) hoL
  have pn : (srt (vs.map cv)).Perm (es.toList.map kC) := (srt_perm _).trans pk
  refine wpAny_pure ⟨_, rfl, hQ _ s1.heap.objs.size out c _ (fun b u e => ?_) g1 o1 hz1 hcc w1 (up_lt (srt_up _) (pn.nodup_iff.mpr nd)) (fun d => by rw [pn.mem_iff, ← hm d]) ?_⟩
  · have q := k1 b u e
    have hlt := Heap.lt_size q
    show (sortedHeap (s1.heap.push (seqObj "list" vs.toArray 0)) s1.heap.objs.size vs out.toArray).get? b = some u
    rw [sortedHeap_old (Nat.ne_of_lt hlt) (by rw [size_push']; exact Nat.lt_succ_of_lt hlt)]
    exact Heap.get?_push_of_some _ q
  · rw [pn.length_eq, List.length_map, Array.length_toList]
    omega
end
/-- the set of a text's signs, as it stands at a -/
def SetTx (w : World) (a : Addr) (l : List Nat) : HO := .ext fun h => SetL w h a l
def rSetTxt (w : World) : List V → Hp → VK → Prop := fun vs H Q => ∃ l : List Nat, vs = [tv l] ∧ l.length ≤ 1000 ∧ ∀ p, H p = none → Q (.ref p) (upd H p (SetTx w p l))
def rSortSet (w : World) : List V → Hp → VK → Prop := fun vs H Q => ∃ (a : Addr) (l : List Nat), vs = [.ref a] ∧ H a = some (SetTx w a l) ∧ l.length ≤ 1000 ∧
  ∀ (cs : List Nat) (p : Addr), H p = none → cs.Pairwise (· < ·) → (∀ d, d ∈ cs ↔ d ∈ l) → Q (.ref p) (upd H p (.lst (cs.map lv)))
section
variable {X : Cx}
theorem setTx_new {w : World} {P : Program} {H : Hp} {h : Heap} {a : Addr} {l : List Nat} (R : SetL w h a l) : ObjOk P w H h a (SetTx w a l) := by
  refine ⟨R, ?_, fun h1 h2 r k => r.at k⟩
  obtain ⟨o, _, _, _, e, _⟩ := R
  exact ⟨o, e⟩
theorem cr_setTxt (hc : X.calm = true) : CallR X (.type "set") (rSetTxt X.w) := by
  intro pins s σ H vs us Q I r h
  obtain ⟨l, rfl, hz, q⟩ := h
  obtain ⟨u, rfl, t, rfl⟩ := vals1 r
  refine call_set_text (I.ok.hd hc) (by unfold scanBound; omega) fun h' tk R k => ?_
  have hf : H s.heap.objs.size = none := I.hok.fresh (Nat.le_refl _)
  exact ⟨.ref s.heap.objs.size, _, I.laid (t' := tk) k (Nat.le_refl _) (setTx_new R), rfl, q _ hf⟩
theorem cr_sortSet (hc : X.calm = true) : CallR X (.builtin "sorted") (rSortSet X.w) := by
  intro pins s σ H vs us Q I r h
  obtain ⟨a, l, rfl, ha, hz, q⟩ := h
  rw [Vals.ref1 r]
  have R : SetL X.w s.heap a l := (I.hok a _ ha).1
  refine sorted_setL R (I.ok.hd hc) hz fun s1 p out c cs k1 g1 o1 hp hl rv up mem hcl => ?_
  have I1 : Inv X pins σ (upd H p (.lst (cs.map lv))) s1 := by
    have hn : H p = none := I.hok.fresh hp
    have hok := I.hok.laid (a := p) (o := .lst (cs.map lv)) k1 hp ⟨by rw [List.length_map]; exact fit5 (by omega), out, c, rv, hl⟩
    exact I.call' (ch := []) o1 (Un.laid k1 hp hn) hok (by rw [g1]; exact I.bare) (fun b hb => absurd hb (by simp))
  exact ⟨.ref p, _, I1, rfl, q cs p (I.hok.fresh hp) up mem⟩
end
end Tix
set_option Elab.async false
set_option linter.all false
/-! Shapes, stretches of a text, the k-th least: no program in sight. -/
namespace Tix
/-! ### shapes -/
inductive Sh where
  | leaf (c : Nat)
  | node (l r : Sh)
/-- the letters from left to right -/
def Sh.ls : Sh → List Nat
  | .leaf c => [c]
  | .node l r => l.ls ++ r.ls
def Sh.sz : Sh → Nat
  | .leaf _ => 1
  | .node l r => l.sz + r.sz + 1
def Sh.ht : Sh → Nat
  | .leaf _ => 0
  | .node l r => max l.ht r.ht + 1
/-- the depth of a letter -/
def dof : Sh → Nat → Nat
  | .leaf _, _ => 0
  | .node l r, c => if c ∈ r.ls then dof r c + 1 else dof l c + 1
theorem Sh.ls_pos : ∀ s : Sh, 0 < s.ls.length
  | .leaf _ => Nat.one_pos
  | .node l r => by
    have := Sh.ls_pos l
    show 0 < (l.ls ++ r.ls).length
    rw [List.length_append]
    omega
theorem Sh.ht_lt : ∀ s : Sh, s.ht < s.ls.length
  | .leaf _ => Nat.one_pos
  | .node l r => by
    have h1 := Sh.ht_lt l
    have h2 := Sh.ht_lt r
    show max l.ht r.ht + 1 < (l.ls ++ r.ls).length
    rw [List.length_append]
    have h3 := Sh.ls_pos l
    have h4 := Sh.ls_pos r
    omega
theorem Sh.sz_eq : ∀ s : Sh, s.sz + 1 = 2 * s.ls.length
  | .leaf _ => rfl
  | .node l r => by
    have h1 := Sh.sz_eq l
    have h2 := Sh.sz_eq r
    show l.sz + r.sz + 1 + 1 = 2 * (l.ls ++ r.ls).length
    rw [List.length_append]
    omega
theorem Sh.sz_pos : ∀ s : Sh, 0 < s.sz
  | .leaf _ => Nat.one_pos
  | .node l r => Nat.succ_pos _
theorem nodup_l {l r : Sh} (h : (Sh.node l r).ls.Nodup) : l.ls.Nodup := (List.nodup_append.mp h).1
theorem nodup_r {l r : Sh} (h : (Sh.node l r).ls.Nodup) : r.ls.Nodup := (List.nodup_append.mp h).2.1
theorem nodup_x {l r : Sh} (h : (Sh.node l r).ls.Nodup) {c : Nat} (hl : c ∈ l.ls) : c ∉ r.ls := fun hr => (List.nodup_append.mp h).2.2 c hl c hr rfl
theorem dof_l {l r : Sh} (h : (Sh.node l r).ls.Nodup) {c : Nat} (hl : c ∈ l.ls) : dof (.node l r) c = dof l c + 1 := by
  show (if c ∈ r.ls then dof r c + 1 else dof l c + 1) = _
  rw [if_neg (nodup_x h hl)]
theorem dof_r {l r : Sh} {c : Nat} (hr : c ∈ r.ls) : dof (.node l r) c = dof r c + 1 := by
  show (if c ∈ r.ls then dof r c + 1 else dof l c + 1) = _
  rw [if_pos hr]
theorem mem_node {l r : Sh} {c : Nat} : c ∈ (Sh.node l r).ls ↔ c ∈ l.ls ∨ c ∈ r.ls := List.mem_append

/-! ### letters in order -/
abbrev Rise (l : List Nat) : Prop := l.Pairwise (· < ·)
theorem Rise.up {l : List Nat} (h : Rise l) : Up l := h.imp fun h => Nat.le_of_lt h
theorem Rise.nodup {l : List Nat} (h : Rise l) : l.Nodup := h.imp fun h => Nat.ne_of_lt h
theorem rise_l {l r : Sh} (h : Rise (Sh.node l r).ls) : Rise l.ls := (List.pairwise_append.mp h).1
theorem rise_r {l r : Sh} (h : Rise (Sh.node l r).ls) : Rise r.ls := (List.pairwise_append.mp h).2.1
theorem rise_x {l r : Sh} (h : Rise (Sh.node l r).ls) {a b : Nat} (ha : a ∈ l.ls) (hb : b ∈ r.ls) : a < b := (List.pairwise_append.mp h).2.2 a ha b hb
/-- all the letters of a text are small: few of them in a rising list -/
theorem rise_few {l : List Nat} (h : Rise l) (hb : ∀ c ∈ l, 97 ≤ c ∧ c ≤ 122) : l.length ≤ 26 := by
  have key : ∀ (l : List Nat) (m : Nat), Rise l → (∀ c ∈ l, m ≤ c ∧ c ≤ 122) → l.length + m ≤ 123 ∨ l = [] := by
    intro l
    induction l with
    | nil => intro m _ _; exact .inr rfl
    | cons a l ih =>
      intro m h hb
      obtain ⟨h1, h2⟩ := List.pairwise_cons.mp h
      have ha := hb a (List.mem_cons_self ..)
      rcases ih (a + 1) h2 (fun c hc => ⟨h1 c hc, (hb c (List.mem_cons_of_mem _ hc)).2⟩) with e | e
      · left
        rw [List.length_cons]
        omega
      · subst e
        left
        show 1 + m ≤ 123
        omega
  rcases key l 97 h hb with e | e
  · omega
  · subst e
    exact Nat.zero_le _

/-! ### stretches -/
/-- the signs from b up to, without, e -/
def cut (t : List Nat) (b e : Nat) : List Nat := (t.take e).drop b
theorem cut_len {t : List Nat} {b e : Nat} (h1 : b ≤ e) (h2 : e ≤ t.length) : (cut t b e).length = e - b := by
  unfold cut
  rw [List.length_drop, List.length_take]
  omega
theorem cut_mem {t : List Nat} {b e c : Nat} (h : c ∈ cut t b e) : c ∈ t := List.mem_of_mem_take (List.mem_of_mem_drop h)
/-- how many of the first p go by f -/
def cnt (f : Nat → Bool) (t : List Nat) (p : Nat) : Nat := ((t.take p).filter f).length
theorem cnt_le {f : Nat → Bool} {t : List Nat} {p : Nat} : cnt f t p ≤ p := by
  unfold cnt
  refine Nat.le_trans (List.length_filter_le _ _) ?_
  rw [List.length_take]
  exact Nat.min_le_left _ _
theorem cnt_mono {f : Nat → Bool} {t : List Nat} {b e : Nat} (h : b ≤ e) : cnt f t b ≤ cnt f t e := by
  have e1 : t.take e = t.take b ++ (t.take e).drop b := by
    have := (List.take_append_drop b (t.take e)).symm
    rw [List.take_take, Nat.min_eq_left h] at this
    exact this
  unfold cnt
  rw [e1, List.filter_append, List.length_append]
  exact Nat.le_add_right _ _
theorem cnt_all {f : Nat → Bool} {t : List Nat} {p : Nat} : cnt f t p ≤ (t.filter f).length := by
  unfold cnt
  have e1 : t.filter f = (t.take p).filter f ++ (t.drop p).filter f := by rw [← List.filter_append, List.take_append_drop]
  rw [e1, List.length_append]
  exact Nat.le_add_right _ _
theorem cnt_not {f : Nat → Bool} {t : List Nat} {p : Nat} (h : p ≤ t.length) : cnt (fun c => !f c) t p = p - cnt f t p := by
  have key : ∀ w : List Nat, (w.filter fun c => !f c).length + (w.filter f).length = w.length := by
    intro w
    induction w with
    | nil => rfl
    | cons a w ih =>
      rw [List.filter_cons, List.filter_cons]
      cases f a
      · simp only [Bool.not_false, if_true, Bool.false_eq_true, if_false, List.length_cons]
        omega
      · simp only [Bool.not_true, if_true, Bool.false_eq_true, if_false, List.length_cons]
        omega
  have k := key (t.take p)
  rw [List.length_take, Nat.min_eq_left h] at k
  unfold cnt
  omega
theorem cnt_succ {f : Nat → Bool} {t : List Nat} {i c : Nat} (h : t[i]? = some c) : cnt f t (i + 1) = cnt f t i + (if f c then 1 else 0) := by
  unfold cnt
  rw [List.take_add_one, h, List.filter_append, List.length_append]
  cases e : f c <;> simp [e]
theorem cut_filter {f : Nat → Bool} {t : List Nat} {b e : Nat} (h : b ≤ e) : (cut t b e).filter f = cut (t.filter f) (cnt f t b) (cnt f t e) := by
  have e1 : t.filter f = (t.take e).filter f ++ (t.drop e).filter f := by rw [← List.filter_append, List.take_append_drop]
  have e2 : (t.filter f).take (cnt f t e) = (t.take e).filter f := by
    unfold cnt
    rw [e1, List.take_left]
  have e3 : t.take e = t.take b ++ cut t b e := by
    have := (List.take_append_drop b (t.take e)).symm
    rw [List.take_take, Nat.min_eq_left h] at this
    exact this
  have e4 : (t.take e).filter f = (t.take b).filter f ++ (cut t b e).filter f := by
    rw [← List.filter_append, ← e3]
  show _ = ((t.filter f).take (cnt f t e)).drop (cnt f t b)
  rw [e2, e4]
  unfold cnt
  rw [List.drop_left]

/-! ### the k-th least -/
def kth (w : List Nat) (k : Nat) : Option Nat := (srt w)[k]?
theorem srt_parts {f : Nat → Bool} {w : List Nat} (h : ∀ x ∈ w, ∀ y ∈ w, f x = false → f y = true → x ≤ y) : srt w = srt (w.filter fun c => !f c) ++ srt (w.filter f) := by
  symm
  refine srt_eq ?_ ?_
  · have p1 : (w.filter (fun c => !f c) ++ w.filter f).Perm w := (List.perm_append_comm).trans (List.filter_append_perm f w)
    exact (((srt_perm _).append (srt_perm _))).trans p1
  · refine List.pairwise_append.mpr ⟨srt_up _, srt_up _, fun x hx y hy => ?_⟩
    have hx' := List.mem_filter.mp ((srt_perm _).mem_iff.mp hx)
    have hy' := List.mem_filter.mp ((srt_perm _).mem_iff.mp hy)
    exact h x hx'.1 y hy'.1 (by simpa using hx'.2) hy'.2
theorem kth_left {f : Nat → Bool} {w : List Nat} (h : ∀ x ∈ w, ∀ y ∈ w, f x = false → f y = true → x ≤ y) {k : Nat} (hk : k < (w.filter fun c => !f c).length) : kth w k = kth (w.filter fun c => !f c) k := by
  unfold kth
  rw [srt_parts h, List.getElem?_append_left (by rw [srt_len]; exact hk)]
theorem kth_right {f : Nat → Bool} {w : List Nat} (h : ∀ x ∈ w, ∀ y ∈ w, f x = false → f y = true → x ≤ y) {k : Nat} (hk : (w.filter fun c => !f c).length ≤ k) : kth w k = kth (w.filter f) (k - (w.filter fun c => !f c).length) := by
  unfold kth
  rw [srt_parts h, List.getElem?_append_right (by rw [srt_len]; exact hk), srt_len]
theorem kth_same {w : List Nat} {c k : Nat} (h : ∀ x ∈ w, x = c) (hk : k < w.length) : kth w k = some c := by
  unfold kth
  have hl : k < (srt w).length := by rw [srt_len]; exact hk
  rw [List.getElem?_eq_getElem hl]
  exact congrArg some (h _ ((srt_perm w).mem_iff.mp (List.getElem_mem hl)))

/-! ### how many are between -/
def btw (lo hi : Nat) (w : List Nat) : Nat := (w.filter fun c => decide (lo ≤ c) && decide (c ≤ hi)).length
theorem btw_parts (f : Nat → Bool) (lo hi : Nat) (w : List Nat) : btw lo hi w = btw lo hi (w.filter fun c => !f c) + btw lo hi (w.filter f) := by
  unfold btw
  rw [← List.length_append, ← List.filter_append]
  have p : (w.filter (fun c => !f c) ++ w.filter f).Perm w := (List.perm_append_comm).trans (List.filter_append_perm f w)
  exact ((p.filter _).length_eq).symm
theorem btw_none {lo hi : Nat} {w : List Nat} (h : ∀ c ∈ w, c < lo ∨ hi < c) : btw lo hi w = 0 := by
  unfold btw
  rw [List.length_eq_zero_iff, List.filter_eq_nil_iff]
  intro c hc
  rcases h c hc with e | e
  · simp; omega
  · simp; omega
theorem btw_all {lo hi : Nat} {w : List Nat} (h : ∀ c ∈ w, lo ≤ c ∧ c ≤ hi) : btw lo hi w = w.length := by
  unfold btw
  rw [List.filter_eq_self.mpr]
  intro c hc
  have := h c hc
  simp; omega
theorem btw_perm {lo hi : Nat} {w v : List Nat} (p : w.Perm v) : btw lo hi w = btw lo hi v := (p.filter _).length_eq
end Tix
set_option Elab.async false
set_option linter.all false
set_option maxRecDepth 100000
set_option maxHeartbeats 4000000
/-! What the head's facts give; the promise of a def, of a method, of a class; heaps. -/
namespace Tix
open PySem PySem.Spec PyProof.Rows L2
structure Txt (K : PySem.W.Frag) (mg : Str → Option Value) : Prop where
  c : He.SaysD fa fn K
  g : ∃ h : Heap, K.In h ∧ h.Ns mainGlobals mg
abbrev aB (K : PySem.W.Frag) : Addr := He.ga K "Branch"
abbrev aT (K : PySem.W.Frag) : Addr := He.ga K "Tree"
section
variable {P : Program} {w : World} {K : PySem.W.Frag} {mg : Str → Option Value} {base : Heap}
theorem Txt.free (T : Txt K mg) (j : Nat) {x : Str} (h : fa[j]? = some (.free x)) : mg x = none := by
  obtain ⟨hh, X, G⟩ := T.g
  exact He.free_ok X G (T.c.fact j h)
theorem Txt.glo (T : Txt K mg) (j : Nat) {x : Str} (h : fa[j]? = some (.glo x)) : mg x = some (.ref (He.ga K x)) := by
  obtain ⟨hh, X, G⟩ := T.g
  exact He.glo_ok X G (T.c.fact j h)
theorem Txt.str (T : Txt K mg) (j : Nat) {x z : Str} (h : fa[j]? = some (.str x z)) : ∃ t, mg x = some (.str z t) := by
  obtain ⟨hh, X, G⟩ := T.g
  exact He.str_ok X G (T.c.fact j h)
theorem Txt.clB (T : Txt K mg) : Cls K (aB K) := He.cls_ok (x := "Branch") (T.c.fact 34 rfl)
theorem Txt.clT (T : Txt K mg) : Cls K (aT K) := He.cls_ok (x := "Tree") (T.c.fact 35 rfl)
theorem Txt.mkB (T : Txt K mg) : Mk K (aB K) (He.ma K (aB K) "__init__") := He.mkr_ok (x := "Branch") (T.c.fact 36 rfl)
theorem Txt.mkT (T : Txt K mg) : Mk K (aT K) (He.ma K (aT K) "__init__") := He.mkr_ok (x := "Tree") (T.c.fact 37 rfl)
theorem Txt.noB (T : Txt K mg) (j : Nat) {f : Str} (h : fa[j]? = some (.noat "Branch" f)) : NoAttr K (aB K) f := He.noat_ok (T.c.fact j h)
theorem Txt.noT (T : Txt K mg) (j : Nat) {f : Str} (h : fa[j]? = some (.noat "Tree" f)) : NoAttr K (aT K) f := He.noat_ok (T.c.fact j h)
theorem Txt.methB (T : Txt K mg) (j : Nat) {m : Str} (h : fa[j]? = some (.meth "Branch" m)) : Meth K (aB K) m (He.ma K (aB K) m) := He.meth_ok (T.c.fact j h)
theorem Txt.methT (T : Txt K mg) (j : Nat) {m : Str} (h : fa[j]? = some (.meth "Tree" m)) : Meth K (aT K) m (He.ma K (aT K) m) := He.meth_ok (T.c.fact j h)
theorem Txt.letters (T : Txt K mg) : ∃ t, mg "LETTERS" = some (.str "abcdefghijklmnopqrstuvwxyz" t) := T.str 20 rfl
theorem Txt.isinstance (T : Txt K mg) : mg "isinstance" = none := T.free 21 rfl
theorem Txt.int (T : Txt K mg) : mg "int" = none := T.free 22 rfl
theorem Txt.bool (T : Txt K mg) : mg "bool" = none := T.free 23 rfl
theorem Txt.str_ (T : Txt K mg) : mg "str" = none := T.free 24 rfl
theorem Txt.all (T : Txt K mg) : mg "all" = none := T.free 25 rfl
theorem Txt.len (T : Txt K mg) : mg "len" = none := T.free 26 rfl
theorem Txt.tuple (T : Txt K mg) : mg "tuple" = none := T.free 27 rfl
theorem Txt.enumerate (T : Txt K mg) : mg "enumerate" = none := T.free 28 rfl
theorem Txt.sorted (T : Txt K mg) : mg "sorted" = none := T.free 29 rfl
theorem Txt.range (T : Txt K mg) : mg "range" = none := T.free 30 rfl
theorem Txt.set (T : Txt K mg) : mg "set" = none := T.free 31 rfl
theorem Txt.max (T : Txt K mg) : mg "max" = none := T.free 32 rfl
theorem Txt.min (T : Txt K mg) : mg "min" = none := T.free 33 rfl

/-! ### promises with their places -/
/-- the def that the module's name x stands for -/
structure DOk (P : Program) (w : World) (K : PySem.W.Frag) (mg : Str → Option Value) (base : Heap) (x : Str) (ps : List Str) (k : Nat) (sp : Sp) : Prop where
  ex : ∃ f fd, FnOk P w K mg base CX0 k f fd ps sp ∧ mg x = some (.ref f) ∧ PySem.W.keepIn K (.ref f) = true ∧ Binds K fd ps []
/-- the method m of the class at C -/
structure MOk (P : Program) (w : World) (K : PySem.W.Frag) (mg : Str → Option Value) (base : Heap) (C : Addr) (m : Str) (ps : List Str) (k : Nat) (sp : Sp) : Prop where
  ex : ∃ f fd, FnOk P w K mg base CX0 k f fd ps sp ∧ Meth K C m f ∧ Binds K fd ps []
/-- the class that the module's name x stands for, its __init__ -/
structure IOk (P : Program) (w : World) (K : PySem.W.Frag) (mg : Str → Option Value) (base : Heap) (x : Str) (C : Addr) (ps : List Str) (k : Nat) (sp : Sp) : Prop where
  ex : ∃ f fd, FnOk P w K mg base CX0 k f fd ps sp ∧ Mk K C f ∧ mg x = some (.ref C) ∧ Binds K fd ps []
theorem DOk.mono {x : Str} {ps : List Str} {j k : Nat} {sp : Sp} (D : DOk P w K mg base x ps j sp) (h : j ≤ k) : DOk P w K mg base x ps k sp := by
  obtain ⟨f, fd, F, r⟩ := D.ex
  exact ⟨f, fd, F.mono h, r⟩
theorem MOk.mono {C : Addr} {x : Str} {ps : List Str} {j k : Nat} {sp : Sp} (D : MOk P w K mg base C x ps j sp) (h : j ≤ k) : MOk P w K mg base C x ps k sp := by
  obtain ⟨f, fd, F, r⟩ := D.ex
  exact ⟨f, fd, F.mono h, r⟩
theorem IOk.mono {C : Addr} {x : Str} {ps : List Str} {j k : Nat} {sp : Sp} (D : IOk P w K mg base x C ps j sp) (h : j ≤ k) : IOk P w K mg base x C ps k sp := by
  obtain ⟨f, fd, F, r⟩ := D.ex
  exact ⟨f, fd, F.mono h, r⟩
/-- how a def of the text binds its arguments -/
def BindOk (x q : Str) (st : Stmt) (ps : List Str) : Prop := ∀ (kV doc pm : Value) (an : Option Addr) (cdv ct : Value) (us : List Value), us.length = ps.length →
  bindArgs (PySem.W.fnOf x q (defArgs st) (defBody st) (defScope st) .none kV doc pm an cdv ct) ⟨us, []⟩ = pure (ps.zip us)
/-- the body's part of a promise -/
def BodyOk (P : Program) (w : World) (K : PySem.W.Frag) (mg : Str → Option Value) (base : Heap) (N : List Str) (q : Str) (st : Stmt) (f : Addr) (k : Nat) (sp : Sp) : Prop :=
  ∀ (cdv : Value) (A : Around) (outer : List Env) (s : Shared) (H : Hp) (vs : List V) (Q : VK) (E : XK), Room k (A.deeper (envOfC q (defScope st) s.heap.objs.size f cdv)) → sp vs H Q E →
    ∃ t, PSs (cxOf CX0 P w K mg base N q (defScope st) f cdv A outer s H E).nox (defBody st) t ∧ t { nx := fun _ H' => Q .non H', rt := Q } (start N vs) H
theorem fn_ok {x q : Str} {st : Stmt} {N ps : List Str} {k : Nat} {sp : Sp} {at_ : Str × Option Str} (T : Txt K mg) (i : Nat) (hd : fn[i]? = some (mkD at_ x q st)) (S : FnScope N ps (defScope st)) (hb : BindOk x q st ps)
    (len : ∀ vs H Q E, sp vs H Q E → vs.length = ps.length) (body : BodyOk P w K mg base N q st (He.fAd K at_) k sp) :
    ∃ fd, FnOk P w K mg base CX0 (k + 1) (He.fAd K at_) fd ps sp ∧ PySem.W.keepIn K (.ref (He.fAd K at_)) = true ∧ Binds K fd ps [] := by
  obtain ⟨fd, F⟩ := T.c.def_ i hd
  refine ⟨fd, F.ok S len fun cdv A outer s H vs Q E hr hsp => ?_, F.kp, F.bindsN hb⟩
  obtain ⟨t, h, q⟩ := body cdv A outer s H vs Q E hr hsp
  exact ⟨t, h.nox, q⟩
theorem DOk.of {x q : Str} {st : Stmt} {N ps : List Str} {k : Nat} {sp : Sp} (T : Txt K mg) (i j : Nat) (hd : fn[i]? = some (mkD (x, none) x q st)) (hj : fa[j]? = some (.glo x)) (S : FnScope N ps (defScope st)) (hb : BindOk x q st ps)
    (len : ∀ vs H Q E, sp vs H Q E → vs.length = ps.length) (body : BodyOk P w K mg base N q st (He.fAd K (x, none)) k sp) : DOk P w K mg base x ps (k + 1) sp := by
  obtain ⟨fd, F, kp, b⟩ := fn_ok T i hd S hb len body
  exact ⟨_, fd, F, T.glo j hj, kp, b⟩
theorem MOk.ofB {x q : Str} {st : Stmt} {N ps : List Str} {k : Nat} {sp : Sp} (T : Txt K mg) (i j : Nat) (hd : fn[i]? = some (mkD ("Branch", some x) x q st)) (hj : fa[j]? = some (.meth "Branch" x)) (S : FnScope N ps (defScope st)) (hb : BindOk x q st ps)
    (len : ∀ vs H Q E, sp vs H Q E → vs.length = ps.length) (body : BodyOk P w K mg base N q st (He.fAd K ("Branch", some x)) k sp) : MOk P w K mg base (aB K) x ps (k + 1) sp := by
  obtain ⟨fd, F, kp, b⟩ := fn_ok T i hd S hb len body
  exact ⟨_, fd, F, T.methB j hj, b⟩
theorem MOk.ofT {x q : Str} {st : Stmt} {N ps : List Str} {k : Nat} {sp : Sp} (T : Txt K mg) (i j : Nat) (hd : fn[i]? = some (mkD ("Tree", some x) x q st)) (hj : fa[j]? = some (.meth "Tree" x)) (S : FnScope N ps (defScope st)) (hb : BindOk x q st ps)
    (len : ∀ vs H Q E, sp vs H Q E → vs.length = ps.length) (body : BodyOk P w K mg base N q st (He.fAd K ("Tree", some x)) k sp) : MOk P w K mg base (aT K) x ps (k + 1) sp := by
  obtain ⟨fd, F, kp, b⟩ := fn_ok T i hd S hb len body
  exact ⟨_, fd, F, T.methT j hj, b⟩
theorem IOk.ofB {q : Str} {st : Stmt} {N ps : List Str} {k : Nat} {sp : Sp} (T : Txt K mg) (i : Nat) (hd : fn[i]? = some (mkD ("Branch", some "__init__") "__init__" q st)) (S : FnScope N ps (defScope st)) (hb : BindOk "__init__" q st ps)
    (len : ∀ vs H Q E, sp vs H Q E → vs.length = ps.length) (body : BodyOk P w K mg base N q st (He.fAd K ("Branch", some "__init__")) k sp) : IOk P w K mg base "Branch" (aB K) ps (k + 1) sp := by
  obtain ⟨fd, F, kp, b⟩ := fn_ok T i hd S hb len body
  exact ⟨_, fd, F, T.mkB, T.glo 9 rfl, b⟩
theorem IOk.ofT {q : Str} {st : Stmt} {N ps : List Str} {k : Nat} {sp : Sp} (T : Txt K mg) (i : Nat) (hd : fn[i]? = some (mkD ("Tree", some "__init__") "__init__" q st)) (S : FnScope N ps (defScope st)) (hb : BindOk "__init__" q st ps)
    (len : ∀ vs H Q E, sp vs H Q E → vs.length = ps.length) (body : BodyOk P w K mg base N q st (He.fAd K ("Tree", some "__init__")) k sp) : IOk P w K mg base "Tree" (aT K) ps (k + 1) sp := by
  obtain ⟨fd, F, kp, b⟩ := fn_ok T i hd S hb len body
  exact ⟨_, fd, F, T.mkT, T.glo 10 rfl, b⟩
end
/-! ### the calls -/
section
variable {X : Cx} {k : Nat} {C : Addr} {ps : List Str} {sp : Sp} {x m : Str} {p pos apos : Pos} {e o : Expr} {es : List Expr} {ta : TE} {t : TA}
theorem pe_D (D : DOk X.prog X.w X.K X.mg X.base x ps k sp) (hr : Room k X.A) (hg : Gl X x) (ha : PA X (e :: es) t) (hdb : (x == ("__debug__" : Str)) = false := by decide)
    (he : starEach (e :: es) X.env = (false, eval e X.env) :: starEach es X.env := by rfl) (hpl : (backTo pos (starEach es X.env)).any (·.1) = false := by rfl) : PE X (.Call (.Name x p) (e :: es) [] pos) (tCall sp [] E0 t) := by
  obtain ⟨f, fd, F, hm, hk, hb⟩ := D.ex
  exact pe_call F hr hg hm hk hb .nil pass0 ha hdb he hpl
theorem pe_I (D : IOk X.prog X.w X.K X.mg X.base x C ps k sp) (hr : Room (k + 1) X.A) (hg : Gl X x) (ha : PA X (e :: es) t) (hdb : (x == ("__debug__" : Str)) = false := by decide)
    (he : starEach (e :: es) X.env = (false, eval e X.env) :: starEach es X.env := by rfl) (hpl : (backTo pos (starEach es X.env)).any (·.1) = false := by rfl) : PE X (.Call (.Name x p) (e :: es) [] pos) (tMake C sp [] E0 t) := by
  obtain ⟨f, fd, F, hM, hm, hb⟩ := D.ex
  exact pe_make hM F hr hg hm hb .nil pass0 ha hdb he hpl
theorem pe_M {pl : Sem Bool} (D : MOk X.prog X.w X.K X.mg X.base C m ps k sp) (he : PE X o ta) (c : Cls X.K C) (hr : Room k X.A) (ha : PA X (e :: es) t)
    (hst : starEach (e :: es) X.env = (false, eval e X.env) :: starEach es X.env := by rfl) (hpl : (backTo pos (starEach es X.env)).any (·.1) = false := by rfl)
    (ht : eval (.Call (.Attribute o m apos) (e :: es) [] pos) X.env = (do
      let ov ← eval o X.env
      standAt apos.atName
      let (f, first) ← holding [ov] (getMethod ov m pl)
      callWith pos f first (backTo pos (starEach (e :: es) X.env)) (backToKw pos (keywordEach [] X.env))) := by rfl) :
    PE X (.Call (.Attribute o m apos) (e :: es) [] pos) (tMeth C m sp [] E0 ta t) := by
  obtain ⟨f, fd, F, hm, hb⟩ := D.ex
  exact pe_meth he c hm F hr hb .nil pass0 ha hst hpl ht
theorem pe_M0 {pl : Sem Bool} (D : MOk X.prog X.w X.K X.mg X.base C m ps k sp) (he : PE X o ta) (c : Cls X.K C) (hr : Room k X.A)
    (ht : eval (.Call (.Attribute o m apos) [] [] pos) X.env = (do
      let ov ← eval o X.env
      standAt apos.atName
      let (f, first) ← holding [ov] (getMethod ov m pl)
      callWith pos f first (backTo pos (starEach [] X.env)) (backToKw pos (keywordEach [] X.env))) := by rfl) :
    PE X (.Call (.Attribute o m apos) [] [] pos) (tMeth C m sp [] E0 ta tNil) := by
  obtain ⟨f, fd, F, hm, hb⟩ := D.ex
  exact pe_meth0 he c hm F hr hb .nil pass0 ht
end
/-! ### promises by the number of arguments -/
def sp1 (p : V → Hp → VK → Prop) : Sp := fun vs H Q _ => ∃ a, vs = [a] ∧ p a H Q
def sp2 (p : V → V → Hp → VK → Prop) : Sp := fun vs H Q _ => ∃ a b, vs = [a, b] ∧ p a b H Q
def sp3 (p : V → V → V → Hp → VK → Prop) : Sp := fun vs H Q _ => ∃ a b c, vs = [a, b, c] ∧ p a b c H Q
def sp4 (p : V → V → V → V → Hp → VK → Prop) : Sp := fun vs H Q _ => ∃ a b c d, vs = [a, b, c, d] ∧ p a b c d H Q
def sp5 (p : V → V → V → V → V → Hp → VK → Prop) : Sp := fun vs H Q _ => ∃ a b c d e, vs = [a, b, c, d, e] ∧ p a b c d e H Q
theorem len1 {p : V → Hp → VK → Prop} {x : Str} : ∀ vs H Q E, sp1 p vs H Q E → vs.length = [x].length := by
  rintro vs H Q E ⟨a, rfl, _⟩
  rfl
theorem len2 {p : V → V → Hp → VK → Prop} {x y : Str} : ∀ vs H Q E, sp2 p vs H Q E → vs.length = [x, y].length := by
  rintro vs H Q E ⟨a, b, rfl, _⟩
  rfl
theorem len3 {p : V → V → V → Hp → VK → Prop} {x y z : Str} : ∀ vs H Q E, sp3 p vs H Q E → vs.length = [x, y, z].length := by
  rintro vs H Q E ⟨a, b, c, rfl, _⟩
  rfl
theorem len4 {p : V → V → V → V → Hp → VK → Prop} {x y z u : Str} : ∀ vs H Q E, sp4 p vs H Q E → vs.length = [x, y, z, u].length := by
  rintro vs H Q E ⟨a, b, c, d, rfl, _⟩
  rfl
theorem len5 {p : V → V → V → V → V → Hp → VK → Prop} {x y z u v : Str} : ∀ vs H Q E, sp5 p vs H Q E → vs.length = [x, y, z, u, v].length := by
  rintro vs H Q E ⟨a, b, c, d, e, rfl, _⟩
  rfl
end Tix
set_option Elab.async false
set_option linter.all false
set_option maxRecDepth 100000
set_option maxHeartbeats 4000000
/-! is_integer, is_text, the checks. -/
namespace Tix
open PySem PySem.Spec PyProof.Rows L2
def Alpha (l : List Nat) : Prop := ∀ c ∈ l, 97 ≤ c ∧ c ≤ 122
theorem Alpha.of {l m : List Nat} (h : Alpha l) (k : ∀ c ∈ m, c ∈ l) : Alpha m := fun c hc => h c (k c hc)
theorem alpha_in {c : Nat} (h : 97 ≤ c ∧ c ≤ 122) : c ∈ ("abcdefghijklmnopqrstuvwxyz" : Str).cps.toList := by
  have e : ("abcdefghijklmnopqrstuvwxyz" : Str).cps.toList = (List.range 26).map (· + 97) := by decide +kernel
  rw [e]
  exact List.mem_map.mpr ⟨c - 97, List.mem_range.mpr (by omega), by omega⟩
theorem same_new {H : Hp} {p : Addr} {o : HO} (h : H p = none) : Same H (upd H p o) := fun b u e => by
  rw [upd_ne (ne_of_none e h)]
  exact e
/-- an object that H does not know may change -/
theorem same_mut {H H' : Hp} {p : Addr} {o : HO} (e : Same H H') (h : H p = none) : Same H (upd H' p o) := fun b u q => by
  rw [upd_ne (ne_of_none q h)]
  exact e b u q
/-- a comprehension with no test -/
theorem lc_pl {J : It} {n : Nat} {G : Hp → Prop} {Y : Nat → Hp → V → Hp → Prop} (w : Walk J n G Y) {g : TG} {te : TE} {vs : List Nat} {σ : L2.St} {H1 : Hp} {D : Addr} {Qd : Hp → Prop} (Pv : Nat → Hp → Prop)
    (h0 : Pv 0 (upd H1 D (.lst []))) (hG : ∀ i H, i ≤ n → Pv i H → G H)
    (hs : ∀ i x H H', i < n → Pv i H → Y i H x H' → g x (wipe σ vs) H' fun σ2 H2 => wipe σ2 vs = wipe σ vs ∧ te σ2 H2 fun y H4 => ∃ acc, H4 D = some (.lst acc) ∧ acc.length < sizeLine ∧ Pv (i + 1) (upd H4 D (.lst (acc ++ [y]))))
    (hd : ∀ H, Pv n H → Qd H) :
    ∃ W : Nat → Nat → Hp → Prop, (∃ m, W 0 m (upd H1 D (.lst []))) ∧ ∀ i m H, W i m H →
      (J.stop i H ∧ Qd H) ∨ (J.go i H ∧ ∃ Nx : Hp → Prop, (∀ H', Nx H' → ∃ m', m' < m ∧ W (i + 1) m' H') ∧ ∀ x H', J.yld i H x H' → g x (wipe σ vs) H' fun σ2 H2 => wipe σ2 vs = wipe σ vs ∧ tYes σ2 H2 fun b H3 =>
        if b = true then te σ2 H3 fun y H4 => ∃ acc, H4 D = some (.lst acc) ∧ acc.length < sizeLine ∧ Nx (upd H4 D (.lst (acc ++ [y]))) else Nx H3) :=
  lc_it w (tt := tYes) Pv h0 hG hs hd
/-! ### isinstance(e, T) -/
abbrev tIsi (K : PySem.W.Frag) (n : String) (te : TE) : TE := tCB (rIsi K) (tCons te (tCons (tC (.ty n)) tNil))
theorem isi_go {K : PySem.W.Frag} {x : V} {n T : String} {b : Bool} {σ : L2.St} {H : Hp} {Q : VK} (ty : TyX K H x (.type T)) (h : kitB T n = some b) (q : Q (.bl b) H) : tCons (tC (.ty n)) tNil σ H fun xs H2 => rIsi K (x :: xs) H2 Q := ⟨x, .ty n, .type T, .type n, b, rfl, .ty n, ty, kit_ty h, q⟩
theorem isi_v {K : PySem.W.Frag} {x : V} {n T : String} {b : Bool} {i : Nat} {σ : L2.St} {H : Hp} {Q : VK} (h0 : σ[i]? = some (some x)) (ty : TyX K H x (.type T)) (h : kitB T n = some b) (q : Q (.bl b) H) : tIsi K n (tVar i) σ H Q := ⟨x, h0, isi_go (σ := σ) ty h q⟩
theorem isi_rd {K : PySem.W.Frag} {x : V} {n T : String} {b : Bool} {H : Hp} {Q : VK} (ty : TyX K H x (.type T)) (h : kitB T n = some b) (q : Q (.bl b) H) : rIsi K [x, .ty n] H Q := ⟨x, .ty n, .type T, .type n, b, rfl, .ty n, ty, kit_ty h, q⟩
section
variable {X : Cx} {e : Expr} {te : TE} {p p2 pos : Pos} {y : Str}
theorem pe_isi {n : String} (he : PE X e te) (h1 : X.mg "isinstance" = none) (h2 : X.mg y = none) (h3 : bootBuiltins y = some (.type n)) (g1 : Gl X "isinstance" := by rfl) (g2 : Gl X y := by rfl) (hn : y ≠ "__name__" := by decide) (hd : (y == ("__debug__" : Str)) = false := by decide)
    (s1 : starEach [e, .Name y p2] X.env = (false, eval e X.env) :: starEach [.Name y p2] X.env := by rfl) (s2 : starEach [.Name y p2] X.env = (false, eval (.Name y p2) X.env) :: starEach [] X.env := by rfl) (s3 : (backTo pos (starEach [.Name y p2] X.env)).any (·.1) = false := by rfl) :
    PE X (.Call (.Name "isinstance" p) [e, .Name y p2] [] pos) (tIsi X.K n te) :=
  pe_callB call_isi g1 h1 (by decide +kernel) (pa_cons he (pa_cons (pe_bltn (v := .ty n) g2 h2 h3 rfl hn hd) pa_nil s2) s1) (he := s1) (hpl := s3)
end
theorem kit_ii : kitB "int" "int" = some true := by decide +kernel
theorem kit_ib : kitB "int" "bool" = some false := by decide +kernel
theorem kit_ss : kitB "str" "str" = some true := by decide +kernel
theorem kit_ts : kitB "tuple" "str" = some false := by decide +kernel
theorem kit_tt : kitB "tuple" "tuple" = some true := by decide +kernel
theorem kit_st : kitB "str" "tuple" = some false := by decide +kernel
theorem boot_strT : bootBuiltins "str" = some (.type "str") := by decide +kernel
theorem boot_intT : bootBuiltins "int" = some (.type "int") := by decide +kernel
theorem boot_boolT : bootBuiltins "bool" = some (.type "bool") := by decide +kernel
theorem boot_tupleT : bootBuiltins "tuple" = some (.type "tuple") := by decide +kernel
section
variable {P : Program} {w : World} {K : PySem.W.Frag} {mg : Str → Option Value} {base : Heap}
/-! ### is_integer -/
def spIsInt : Sp := sp1 fun x H Q => ∃ i, x = .int i ∧ Q (.bl true) H
theorem scIsInt : FnScope ["thing"] ["thing"] (defScope sIsInt) := ⟨rfl, rfl, rfl, by decide +kernel, rfl, by decide +kernel, by decide +kernel⟩
theorem ok_isInt (T : Txt K mg) : DOk P w K mg base "is_integer" ["thing"] 1 spIsInt := by
  refine DOk.of (q := "is_integer") (st := sIsInt) T 0 0 rfl rfl scIsInt (fun _ _ _ _ _ _ us hl => match us, hl with | [_], _ => rfl) len1 fun cdv A outer s H vs Q E hr h => ?_
  obtain ⟨_, rfl, i, rfl, k⟩ := h
  refine ⟨_, pss_one (ps_ret (pe_and (pe_isi (pv 0) T.isinstance T.int boot_intT) (pe_one (pe_not (pe_isi (pv 0) T.isinstance T.bool boot_boolT))))), ?_⟩
  refine isi_v rfl (.base (.int i)) kit_ii ?_
  refine ⟨true, rfl, ?_⟩
  refine iteT ?_
  refine isi_v rfl (.base (.int i)) kit_ib ?_
  exact ⟨false, rfl, k⟩
/-! ### is_text -/
def spIsText : Sp := sp1 fun x H Q => ∃ l, x = tv l ∧ Alpha l ∧ l.length ≤ 1000 ∧ ∀ H', Same H H' → Q (.bl true) H'
theorem scIsText : FnScope ["thing", "sign"] ["thing"] (defScope sIsText) := ⟨rfl, rfl, rfl, by decide +kernel, rfl, by decide +kernel, by decide +kernel⟩
theorem ok_isText (T : Txt K mg) : DOk P w K mg base "is_text" ["thing"] 1 spIsText := by
  obtain ⟨tL, hL⟩ := T.letters
  refine DOk.of (q := "is_text") (st := sIsText) T 1 1 rfl rfl scIsText (fun _ _ _ _ _ _ us hl => match us, hl with | [_], _ => rfl) len1 fun cdv A outer s H vs Q E hr h => ?_
  obtain ⟨_, rfl, l, rfl, al, hz, k⟩ := h
  refine ⟨_, pss_one (ps_ret (pe_and (pe_isi (pv 0) T.isinstance T.str_ boot_strT) (pe_one (pe_callB (cr_all rfl) (by rfl) T.all (by decide +kernel)
    (pa_cons (pe_lc (own := [("sign", 1)]) (g := gName 1) (tt := tYes) rfl scIsText.nd (pi_str (pv 0)) (blkOk_by (N := ["thing", "sign"]) (sc := defScope sIsText) (by decide +kernel))
      (fun _ _ _ _ _ => pg_name (i := 1) scIsText.nd rfl (Or.inl rfl)) (fun _ _ _ _ _ => pts_nil)
      (fun _ _ _ _ _ => pe_cmpR op_in_sign (pv 1) (pe_glob (v := .str "abcdefghijklmnopqrstuvwxyz") (by rfl) hL ⟨tL, rfl⟩) rfl)) pa_nil))))), ?_⟩
  refine isi_v rfl (.base (.str _)) kit_ss ?_
  refine ⟨true, rfl, ?_⟩
  refine iteT ?_
  refine ⟨_, rfl, tx l, rfl, fun D hD => ?_⟩
  refine lc_pl walk_str (fun i H' => Same H H' ∧ H' D = some (.lst ((List.replicate i true).map V.bl))) ⟨same_new hD, upd_same⟩ (fun _ _ _ _ => True.intro) ?_ ?_
  · rintro i x H1 H' hi ⟨s1, hd1⟩ ⟨rfl, c, hc, rfl⟩
    have hcl : c ∈ l := by
      rw [← tx_list l]
      exact Array.mem_toList_iff.mpr (Array.mem_of_getElem? hc)
    have hi' : i < l.length := by
      have e : (tx l).cps.size = l.length := by simp [tx]
      rwa [e] at hi
    refine ⟨rfl, ?_⟩
    refine ⟨_, rfl, c, _, rfl, rfl, _, hd1, ?_, same_mut s1 hD, ?_⟩
    · rw [List.length_map, List.length_replicate]
      exact small1000 (by omega)
    · rw [upd_same, decide_eq_true (alpha_in (al c hcl)), List.replicate_succ', List.map_append]
      rfl
  · rintro H' ⟨s1, hd1⟩
    refine ⟨D, _, rfl, SqL.of hd1, ?_⟩
    have e : (List.replicate (tx l).cps.size true).all id = true := by simp
    rw [e]
    exact k H' s1
end
end Tix
set_option Elab.async false
set_option linter.all false
set_option maxRecDepth 100000
set_option maxHeartbeats 4000000
/-! The checks, is_letter. -/
namespace Tix
open PySem PySem.Spec PyProof.Rows L2
theorem size_tx {l : List Nat} (h : l.length ≤ 1000) : (tx l).length ≤ sizeLine := by
  rw [tx_len]
  exact fit5 (by omega)
theorem ite_nt {c : Bool} {A B : Prop} (hc : c = true) (h : B) : if (!c) = true then A else B := by
  rw [hc]
  exact iteF h
section
variable {P : Program} {w : World} {K : PySem.W.Frag} {mg : Str → Option Value} {base : Heap}
/-! ### checked_text -/
def spCText : Sp := sp1 fun x H Q => ∃ l, x = tv l ∧ Alpha l ∧ l.length ≤ 1000 ∧ ∀ H', Same H H' → Q x H'
theorem scCText : FnScope ["thing"] ["thing"] (defScope sCText) := ⟨rfl, rfl, rfl, by decide +kernel, rfl, by decide +kernel, by decide +kernel⟩
theorem ok_cText (T : Txt K mg) : DOk P w K mg base "checked_text" ["thing"] 2 spCText := by
  refine DOk.of (q := "checked_text") (st := sCText) T 2 2 rfl rfl scCText (fun _ _ _ _ _ _ us hl => match us, hl with | [_], _ => rfl) len1 fun cdv A outer s H vs Q E hr h => ?_
  obtain ⟨_, rfl, l, rfl, al, hz, k⟩ := h
  refine ⟨_, pss_cons (ps_if (pt_not (pt_val (pe_D (ok_isText T) hr (by rfl) (pa_cons (pv 0) pa_nil)))) (pss_one ps_never) pss_nil) (pss_one (ps_ret (pv 0))), ?_⟩
  refine ⟨_, rfl, _, rfl, l, rfl, al, hz, fun H' e => ⟨true, rfl, iteF ?_⟩⟩
  exact ⟨_, rfl, k H' e⟩
/-! ### checked_letter -/
def spCLetter : Sp := sp1 fun x H Q => ∃ c, x = lv c ∧ 97 ≤ c ∧ c ≤ 122 ∧ ∀ H', Same H H' → Q x H'
theorem scCLetter : FnScope ["thing"] ["thing"] (defScope sCLetter) := ⟨rfl, rfl, rfl, by decide +kernel, rfl, by decide +kernel, by decide +kernel⟩
theorem ok_cLetter (T : Txt K mg) : DOk P w K mg base "checked_letter" ["thing"] 2 spCLetter := by
  refine DOk.of (q := "checked_letter") (st := sCLetter) T 3 3 rfl rfl scCLetter (fun _ _ _ _ _ _ us hl => match us, hl with | [_], _ => rfl) len1 fun cdv A outer s H vs Q E hr h => ?_
  obtain ⟨_, rfl, c, rfl, h1, h2, k⟩ := h
  refine ⟨_, pss_cons (ps_if (PW.pt (pw_or (pt_not (pt_val (pe_D (ok_isText T) hr (by rfl) (pa_cons (pv 0) pa_nil)))) (pw_or1 (pt_cmpR op_ne (pe_callB call_len_str (by rfl) T.len boot_len (pa_cons (pv 0) pa_nil)) pe_int (nomark _)))))
    (pss_one ps_never) pss_nil) (pss_one (ps_ret (pv 0))), ?_⟩
  refine ⟨_, rfl, _, rfl, [c], rfl, (by intro d hd; rw [List.mem_singleton] at hd; omega), (by simp), fun H' e => ⟨true, rfl, iteF ?_⟩⟩
  refine ⟨_, rfl, lt c, rfl, size_tx (l := [c]) (by simp), rfl, false, rfl, iteF ?_⟩
  exact ⟨_, rfl, k H' e⟩
/-! ### checked_number -/
def spCNumber : Sp := sp3 fun x lo hi H Q => ∃ i j : Int, x = .int i ∧ lo = .int j ∧ j ≤ i ∧ (hi = .non ∨ ∃ k : Int, hi = .int k ∧ i ≤ k) ∧ Q x H
theorem scCNumber : FnScope ["thing", "low", "high"] ["thing", "low", "high"] (defScope sCNumber) := ⟨rfl, rfl, rfl, by decide +kernel, rfl, by decide +kernel, by decide +kernel⟩
theorem ok_cNumber (T : Txt K mg) : DOk P w K mg base "checked_number" ["thing", "low", "high"] 2 spCNumber := by
  refine DOk.of (q := "checked_number") (st := sCNumber) T 4 4 rfl rfl scCNumber (fun _ _ _ _ _ _ us hl => match us, hl with | [_, _, _], _ => rfl) len3 fun cdv A outer s H vs Q E hr h => ?_
  obtain ⟨_, _, hi, rfl, i, j, rfl, rfl, hji, hh, k⟩ := h
  refine ⟨_, pss_cons (ps_if (PW.pt (pw_or (pt_not (pt_val (pe_D (ok_isInt T) hr (by rfl) (pa_cons (pv 0) pa_nil)))) (pw_or (pt_cmpR op_lt (pv 0) (pv 1) (nomark _))
    (pw_or1 (PW.pt (pw_and (pt_cmpR op_notN (pv 2) pe_non (nomark _)) (pw_and1 (pt_cmpR op_gt (pv 0) (pv 2) (nomark _)))))))))
    (pss_one ps_never) pss_nil) (pss_one (ps_ret (pv 0))), ?_⟩
  refine ⟨_, rfl, _, rfl, i, rfl, true, rfl, iteF ?_⟩
  refine ⟨_, rfl, _, rfl, _, _, rfl, rfl, false, congrArg V.bl (decide_eq_false (by omega)), iteF ?_⟩
  refine ⟨_, rfl, rfl, ?_⟩
  rcases hh with rfl | ⟨m, rfl, hm⟩
  · refine ⟨false, rfl, iteF (iteF ?_)⟩
    exact ⟨_, rfl, k⟩
  · refine ⟨true, rfl, iteT ?_⟩
    refine ⟨_, rfl, _, rfl, _, _, rfl, rfl, false, congrArg V.bl (decide_eq_false (by omega)), iteF ?_⟩
    exact ⟨_, rfl, k⟩
/-! ### is_letter -/
def spIsLetter : Sp := sp1 fun x H Q => ∃ c, x = lv c ∧ 97 ≤ c ∧ c ≤ 122 ∧ Q (.bl true) H
theorem scIsLetter : FnScope ["thing"] ["thing"] (defScope sIsLetter) := ⟨rfl, rfl, rfl, by decide +kernel, rfl, by decide +kernel, by decide +kernel⟩
theorem ok_isLetter (T : Txt K mg) : DOk P w K mg base "is_letter" ["thing"] 1 spIsLetter := by
  obtain ⟨tL, hL⟩ := T.letters
  refine DOk.of (q := "is_letter") (st := sIsLetter) T 5 5 rfl rfl scIsLetter (fun _ _ _ _ _ _ us hl => match us, hl with | [_], _ => rfl) len1 fun cdv A outer s H vs Q E hr h => ?_
  obtain ⟨_, rfl, c, rfl, h1, h2, k⟩ := h
  refine ⟨_, pss_one (ps_ret (pe_and (pe_isi (pv 0) T.isinstance T.str_ boot_strT) (pe_and (pe_cmpR op_eq (pe_callB call_len_str (by rfl) T.len boot_len (pa_cons (pv 0) pa_nil)) pe_int (nomark _))
    (pe_one (pe_cmpR op_in_sign (pv 0) (pe_glob (v := .str "abcdefghijklmnopqrstuvwxyz") (by rfl) hL ⟨tL, rfl⟩) rfl))))), ?_⟩
  refine isi_v rfl (.base (.str _)) kit_ss ⟨true, rfl, iteT ?_⟩
  refine ⟨_, rfl, lt c, rfl, size_tx (l := [c]) (by simp), rfl, true, rfl, iteT ?_⟩
  refine ⟨_, rfl, c, _, rfl, rfl, ?_⟩
  rw [decide_eq_true (alpha_in ⟨h1, h2⟩)]
  exact k
end
end Tix
set_option Elab.async false
set_option linter.all false
set_option maxRecDepth 100000
set_option maxHeartbeats 4000000
/-! Shapes as they lie in the heap; letters_in, checked_shape. -/
namespace Tix
open PySem PySem.Spec PyProof.Rows L2
theorem le1000 {n : Nat} (h : n ≤ 1000) : n ≤ sizeLine := Nat.le_of_lt (small1000 h)
def ShapeV (H : Hp) : V → Sh → Prop
  | v, .leaf c => v = lv c
  | v, .node l r => ∃ (a : Addr) (x y : V), v = .ref a ∧ H a = some (.tup [x, y]) ∧ ShapeV H x l ∧ ShapeV H y r
theorem ShapeV.same {H H' : Hp} (e : Same H H') : ∀ {s : Sh} {v : V}, ShapeV H v s → ShapeV H' v s
  | .leaf _, _, h => h
  | .node _ _, _, ⟨a, x, y, h0, h1, h2, h3⟩ => ⟨a, x, y, h0, e _ _ h1, ShapeV.same e h2, ShapeV.same e h3⟩
/-- a shape as data -/
def dat : Sh → PyData
  | .leaf c => .str (lt c)
  | .node l r => .tuple [dat l, dat r]
theorem dat_depth : ∀ s : Sh, (dat s).depth = s.ht
  | .leaf _ => rfl
  | .node l r => by
    show max (dat l).depth (max (dat r).depth 0) + 1 = max l.ht r.ht + 1
    rw [dat_depth l, dat_depth r, Nat.max_zero]
theorem dat_lay : ∀ {s : Sh}, Alpha s.ls → (dat s).canLay0 = true
  | .leaf c, h => by
    have := h c (List.mem_singleton.mpr rfl)
    show (#[c].all _) = true
    simp
    omega
  | .node l r, h => by
    have h1 := dat_lay (s := l) (h.of fun c hc => mem_node.mpr (.inl hc))
    have h2 := dat_lay (s := r) (h.of fun c hc => mem_node.mpr (.inr hc))
    show ((dat l).canLay0 && ((dat r).canLay0 && true)) = true
    rw [h1, h2]
    rfl
theorem dat_dp {K : PySem.W.Frag} {H : Hp} : ∀ {s : Sh} {v : V}, ShapeV H v s → Dp K H v (dat s)
  | .leaf c, _, h => by
    cases h
    exact .str _
  | .node _ _, _, ⟨a, x, y, h0, h1, h2, h3⟩ => by
    subst h0
    exact .tup (SqT.of h1) (.cons (dat_dp h2) (.cons (dat_dp h3) .nil))
theorem dats_dp {K : PySem.W.Frag} {H : Hp} : ∀ {st : List (V × Sh)}, (∀ p ∈ st, ShapeV H p.1 p.2) → DpAll K H (st.map (·.1)) (st.map fun p => dat p.2)
  | [], _ => .nil
  | p :: st, h => .cons (dat_dp (h p (List.mem_cons_self ..))) (dats_dp fun q hq => h q (List.mem_cons_of_mem _ hq))
theorem dats_ok {n : Nat} : ∀ {st : List (V × Sh)}, (∀ p ∈ st, Alpha p.2.ls ∧ p.2.ht ≤ n) → PyData.canLayAll0 (st.map fun p => dat p.2) = true ∧ PyData.depthAll (st.map fun p => dat p.2) ≤ n
  | [], _ => ⟨rfl, Nat.zero_le _⟩
  | p :: st, h => by
    obtain ⟨i1, i2⟩ := dats_ok (st := st) fun q hq => h q (List.mem_cons_of_mem _ hq)
    obtain ⟨a1, a2⟩ := h p (List.mem_cons_self ..)
    refine ⟨?_, ?_⟩
    · show ((dat p.2).canLay0 && PyData.canLayAll0 _) = true
      rw [dat_lay a1, i1]
      rfl
    · show max (dat p.2).depth (PyData.depthAll _) ≤ n
      rw [dat_depth]
      exact Nat.max_le.mpr ⟨a2, i2⟩
theorem dats_shaped {st : List (V × Sh)} (h : ∀ p ∈ st, Alpha p.2.ls ∧ p.2.ht ≤ 60) : SeqAt.shaped (.list (st.map fun p => dat p.2)) = true := by
  obtain ⟨h1, h2⟩ := dats_ok h
  show (PyData.canLayAll0 _ && decide (PyData.depthAll _ + 1 ≤ 64)) = true
  rw [h1, decide_eq_true (by omega)]
  rfl
theorem nil_shaped : SeqAt.shaped (.list []) = true := by decide +kernel
theorem sub_flat {α : Type} {x : List α} : ∀ {L : List (List α)}, x ∈ L → x.length ≤ L.flatten.length ∧ ∀ c ∈ x, c ∈ L.flatten
  | [], h => by cases h
  | y :: L, h => by
    rw [List.flatten_cons, List.length_append]
    rcases List.mem_cons.mp h with rfl | h
    · exact ⟨Nat.le_add_right _ _, fun c hc => List.mem_append.mpr (.inl hc)⟩
    · obtain ⟨a, b⟩ := sub_flat h
      exact ⟨Nat.le_trans a (Nat.le_add_left _ _), fun c hc => List.mem_append.mpr (.inr (b c hc))⟩
/-- a stack of shapes: what is still to come -/
def rest (st : List (V × Sh)) : List Nat := (st.reverse.map fun p => p.2.ls).flatten
theorem rest_push {st : List (V × Sh)} {p : V × Sh} : rest (st ++ [p]) = p.2.ls ++ rest st := by
  unfold rest
  rw [List.reverse_append]
  rfl
theorem rest_mem {st : List (V × Sh)} {p : V × Sh} (h : p ∈ st) : p.2.ls.length ≤ (rest st).length ∧ ∀ c ∈ p.2.ls, c ∈ rest st :=
  sub_flat (List.mem_map.mpr ⟨p, List.mem_reverse.mpr h, rfl⟩)
theorem rest_ok {st : List (V × Sh)} {m : List Nat} (hm : Alpha m) (hl : m.length ≤ 26) (hs : ∀ c ∈ rest st, c ∈ m) (hz : (rest st).length ≤ m.length) : ∀ p ∈ st, Alpha p.2.ls ∧ p.2.ht ≤ 60 := fun p hp => by
  obtain ⟨a, b⟩ := rest_mem hp
  have := Sh.ht_lt p.2
  exact ⟨hm.of fun c hc => hs c (b c hc), by omega⟩
def mass (st : List (V × Sh)) : Nat := (st.map fun p => p.2.sz).sum
theorem mass_push {st : List (V × Sh)} {p : V × Sh} : mass (st ++ [p]) = mass st + p.2.sz := by
  unfold mass
  rw [List.map_append, List.sum_append]
  rfl
theorem inV_lv {c : Nat} : ∀ {l : List Nat}, c ∉ l → inV (lv c) (l.map lv) = false
  | [], _ => rfl
  | d :: l, h => by
    rw [List.mem_cons, not_or] at h
    show ((lt d == lt c) || inV (lv c) (l.map lv)) = false
    rw [inV_lv h.2, beq_eq_false_iff_ne.mpr (fun e => h.1 (lt_inj e).symm)]
    rfl
theorem in_lv {c : Nat} : ∀ {l : List Nat}, c ∈ l → inV (lv c) (l.map lv) = true
  | d :: l, h => by
    show ((lt d == lt c) || inV (lv c) (l.map lv)) = true
    rcases List.mem_cons.mp h with rfl | h
    · rw [beq_self_eq_true]
      rfl
    · rw [in_lv h, Bool.or_true]
theorem flat_lv {l : List Nat} : (l.map lv).all flatV = true := by
  rw [List.all_map]
  exact List.all_eq_true.mpr fun _ _ => rfl
theorem kit_tps : kitB "tuple" "tuple" = some true := kit_tt
section
variable {P : Program} {w : World} {K : PySem.W.Frag} {mg : Str → Option Value} {base : Heap}
/-- the letters of a shape, as the program takes them -/
def Fine (s : Sh) : Prop := Alpha s.ls ∧ s.ls.Nodup ∧ s.ls.length ≤ 26
/-! ### letters_in -/
def spLetters : Sp := sp1 fun x H Q => ∃ s, ShapeV H x s ∧ Fine s ∧ ∀ H' p, Same H H' → H p = none → H' p = some (.lst (s.ls.map lv)) → Q (.ref p) H'
theorem scLetters : FnScope ["thing", "found", "waiting", "part"] ["thing"] (defScope sLetters) := ⟨rfl, rfl, rfl, by decide +kernel, rfl, by decide +kernel, by decide +kernel⟩
theorem ok_letters (T : Txt K mg) : DOk P w K mg base "letters_in" ["thing"] 2 spLetters := by
  refine DOk.of (q := "letters_in") (st := sLetters) T 6 6 rfl rfl scLetters (fun _ _ _ _ _ _ us hl => match us, hl with | [_], _ => rfl) len1 fun cdv A outer s H vs Q E hr h => ?_
  obtain ⟨x, rfl, s, hx, ⟨al, nd, hl⟩, k⟩ := h
  have sc := scLetters
  refine ⟨_, pss_cons (ps_par (i := 1) (j := 2) rfl sc.nd rfl rfl (by decide) rfl rfl (pa_cons (pe_lst pa_nil) (pa_cons (pe_lst (pa_cons (pv 0) pa_nil)) pa_nil)) rfl)
    (pss_cons (ps_while PassesOwn.never (pt_cmpR (op_neD hr.units) (pv 2) (pe_lst pa_nil) (nomark _))
      (pss_cons (ps_set (i := 3) sc.nd rfl (Or.inl rfl) (pe_bm0 PySem.F.plainAttrs_list PySem.F.slot_list_pop PySem.F.type_list_pop mt_pop (pv 2)))
        (pss_one (ps_if (PW.pt (pw_and (pt_val (pe_isi (pv 3) T.isinstance T.tuple boot_tupleT)) (pw_and1 (pt_cmpR op_eq (pe_callB call_len_seq (by rfl) T.len boot_len (pa_cons (pv 3) pa_nil)) pe_int (nomark _)))))
          (pss_one (ps_expr (pe_bm PySem.F.plainAttrs_list PySem.F.slot_list_extend PySem.F.type_list_extend mt_extend (pv 2) (pa_cons (pe_lst (pa_cons (pe_ix ix_tup (pv 3) pe_int (fun _ _ => rfl)) (pa_cons (pe_ix ix_tup (pv 3) pe_int (fun _ _ => rfl)) pa_nil))) pa_nil))))
          (pss_one (ps_if (PW.pt (pw_and (pt_val (pe_D (ok_isLetter T) hr (by rfl) (pa_cons (pv 3) pa_nil))) (pw_and1 (pt_cmpR op_notIn_seq (pv 3) (pv 1) rfl))))
            (pss_one (ps_expr (pe_bm PySem.F.plainAttrs_list PySem.F.slot_list_append PySem.F.type_list_append mt_append (pv 1) (pa_cons (pv 3) pa_nil))))
            (pss_one ps_never)))))))
    (pss_one (ps_ret (pv 1)))), ?_⟩
  refine ⟨Nat.zero_le _, fun F hF => ⟨_, rfl, le1000 (n := 1) (by decide), fun W hW => ⟨_, _, rfl, ?_⟩⟩⟩
  have hFW : F ≠ W := by
    intro e
    rw [← e, upd_same] at hW
    cases hW
  have hW0 : H W = none := by
    rw [upd_ne (Ne.symm hFW)] at hW
    exact hW
  refine ⟨fun m σ H' => ∃ (st : List (V × Sh)) (gone : List Nat) (part : Option V), m = mass st ∧ σ = [some x, some (.ref F), some (.ref W), part] ∧ Same H H' ∧
    H' F = some (.lst (gone.map lv)) ∧ H' W = some (.lst (st.map (·.1))) ∧ (∀ p ∈ st, ShapeV H p.1 p.2) ∧ gone ++ rest st = s.ls, ?_, ?_⟩
  · refine ⟨_, [(x, s)], [], none, rfl, rfl, (same_new hF).trans (same_new hW), ?_, upd_same, ?_, ?_⟩
    · rw [upd_ne hFW]
      exact upd_same
    · intro p hp
      rw [List.mem_singleton] at hp
      subst hp
      exact hx
    · show [] ++ (s.ls ++ []) = s.ls
      simp
  rintro m σ H1 ⟨st, gone, part, rfl, rfl, e1, hf, hw, sh, lq⟩
  refine ⟨_, rfl, Nat.zero_le _, fun l hn => ?_⟩
  have e2 : Same H1 (upd H1 l (.lst [])) := same_new hn
  have hf2 := e2 _ _ hf
  have hw2 := e2 _ _ hw
  have e3 := e1.trans e2
  have al2 : ∀ c ∈ rest st, c ∈ s.ls := fun c hc => by
    rw [← lq]
    exact List.mem_append.mpr (.inr hc)
  have ll2 : (rest st).length ≤ s.ls.length := by
    rw [← lq, List.length_append]
    omega
  refine ⟨_, _, .lst (SqL.of hw2) (dats_dp fun p hp => (sh p hp).same e3), .lst (SqL.of upd_same) .nil, dats_shaped (rest_ok al hl al2 ll2), nil_shaped, ?_⟩
  generalize upd H1 l (.lst []) = H2 at *
  rcases List.eq_nil_or_concat st with rfl | ⟨st', ⟨v, t⟩, rfl⟩
  · refine ⟨false, rfl, iteF ?_⟩
    have lq' : gone = s.ls := by
      rw [← lq]
      exact (List.append_nil _).symm
    subst lq'
    exact ⟨_, rfl, k H2 F e3 hF hf2⟩
  · rw [List.concat_eq_append] at *
    refine ⟨true, ?_, iteT ?_⟩
    · rw [List.map_append]
      cases st' <;> rfl
    have hw3 : H2 W = some (.lst (st'.map (·.1) ++ [v])) := by
      rw [hw2, List.map_append]
      rfl
    have sh' : ∀ p ∈ st', ShapeV H p.1 p.2 := fun p hp => sh p (List.mem_append.mpr (.inl hp))
    have sv : ShapeV H v t := sh (v, t) (List.mem_append.mpr (.inr (List.mem_singleton.mpr rfl)))
    rw [rest_push] at lq
    refine ⟨_, fun σ' H' q => q, ?_⟩
    refine ⟨_, rfl, .inl ⟨rfl, _, SqL.of hw3⟩, W, _, v, rfl, rfl, hw3, by simp, ?_⟩
    rw [List.dropLast_concat]
    have e4 : Same H (upd H2 W (.lst (st'.map (·.1)))) := same_mut e3 hW0
    have hf4 : (upd H2 W (.lst (st'.map (·.1)))) F = some (.lst (gone.map lv)) := by
      rw [upd_ne hFW]
      exact hf2
    have hw4 : (upd H2 W (.lst (st'.map (·.1)))) W = some (.lst (st'.map (·.1))) := upd_same
    generalize upd H2 W (.lst (st'.map (·.1))) = H4 at *
    cases t with
    | leaf c =>
      cases (show v = lv c from sv)
      have hc : c ∈ s.ls := by
        rw [← lq]
        exact List.mem_append.mpr (.inr (List.mem_append.mpr (.inl (List.mem_singleton.mpr rfl))))
      have hcn : c ∉ gone := fun hg => by
        rw [← lq] at nd
        exact (List.nodup_append.mp nd).2.2 c hg c (List.mem_append.mpr (.inl (List.mem_singleton.mpr rfl))) rfl
      refine isi_v rfl (.base (.str _)) kit_st ⟨false, rfl, iteF (iteF ?_)⟩
      refine ⟨_, rfl, _, rfl, c, rfl, (al c hc).1, (al c hc).2, true, rfl, iteT ?_⟩
      refine ⟨_, rfl, _, rfl, F, _, rfl, .inl (SqL.of hf4), rfl, flat_lv, true, by rw [inV_lv hcn]; rfl, iteT ?_⟩
      have gl : gone.length ≤ 26 := by
        have := congrArg List.length lq
        rw [List.length_append] at this
        omega
      refine ⟨_, rfl, .inl ⟨rfl, _, SqL.of hf4⟩, _, rfl, F, _, _, rfl, rfl, hf4, small1000 (by rw [List.length_map]; omega), ?_⟩
      refine ⟨mass st', ?_, st', gone ++ [c], _, rfl, rfl, same_mut e4 hF, ?_, ?_, sh', ?_⟩
      · rw [mass_push]
        exact Nat.lt_succ_self _
      · rw [upd_same, List.map_append]
        rfl
      · rw [upd_ne (Ne.symm hFW)]
        exact hw4
      · rw [← lq, List.append_assoc]
        rfl
    | node lt' rt' =>
      obtain ⟨a, vx, vy, rfl, ha, h1, h2⟩ := sv
      have ha4 := e4 _ _ ha
      refine isi_v rfl (.base (.tup ha4)) kit_tt ⟨true, rfl, iteT ?_⟩
      refine ⟨_, rfl, a, _, rfl, .inr (SqT.of ha4), rfl, true, rfl, iteT ?_⟩
      refine ⟨_, rfl, .inl ⟨rfl, _, SqL.of hw4⟩, ?_⟩
      refine ⟨_, rfl, a, _, _, _, rfl, rfl, SqT.of ha4, atI_nat (j := 1) rfl, ?_⟩
      refine ⟨_, rfl, a, _, _, _, rfl, rfl, SqT.of ha4, atI_nat (j := 0) rfl, le1000 (n := 2) (by decide), fun b hb => ?_⟩
      have hWb : W ≠ b := ne_of_none hw4 hb
      have hFb : F ≠ b := ne_of_none hf4 hb
      have hm : st'.length ≤ 26 := by
        have := congrArg List.length lq
        rw [List.length_append, List.length_append] at this
        have h3 : ∀ st : List (V × Sh), st.length ≤ (rest st).length := by
          intro st
          induction st with
          | nil => exact Nat.le_refl _
          | cons p st ih =>
            unfold rest at *
            rw [List.reverse_cons, List.map_append, List.flatten_append, List.length_append, List.length_cons]
            have := Sh.ls_pos p.2
            show _ ≤ _ + (p.2.ls ++ []).length
            rw [List.append_nil]
            omega
        have := h3 st'
        omega
      refine ⟨W, b, _, _, rfl, rfl, by rw [upd_ne hWb]; exact hw4, upd_same, ?_, ?_⟩
      · refine le1000 ?_
        rw [List.length_map]
        show st'.length + 2 ≤ 1000
        omega
      refine ⟨mass (st' ++ [(vy, rt'), (vx, lt')]), ?_, st' ++ [(vy, rt'), (vx, lt')], gone, _, rfl, rfl, same_mut (e4.trans (same_new hb)) hW0, ?_, ?_, ?_, ?_⟩
      · rw [show st' ++ [(vy, rt'), (vx, lt')] = (st' ++ [(vy, rt')]) ++ [(vx, lt')] by simp, mass_push, mass_push, mass_push]
        show _ + rt'.sz + lt'.sz < _ + (lt'.sz + rt'.sz + 1)
        omega
      · rw [upd_ne hFW, upd_ne hFb]
        exact hf4
      · rw [upd_same, List.map_append]
        rfl
      · intro p hp
        rcases List.mem_append.mp hp with hp | hp
        · exact sh' p hp
        · rcases List.mem_cons.mp hp with rfl | hp
          · exact h2
          · rw [List.mem_singleton] at hp
            subst hp
            exact h1
      · rw [← lq, show st' ++ [(vy, rt'), (vx, lt')] = (st' ++ [(vy, rt')]) ++ [(vx, lt')] by simp, rest_push, rest_push]
        show gone ++ (lt'.ls ++ (rt'.ls ++ rest st')) = gone ++ ((lt'.ls ++ rt'.ls) ++ rest st')
        simp
/-! ### checked_shape -/
def spCShape : Sp := sp1 fun x H Q => ∃ s, ShapeV H x s ∧ Fine s ∧ ∀ H', Same H H' → Q x H'
theorem scCShape : FnScope ["thing"] ["thing"] (defScope sCShape) := ⟨rfl, rfl, rfl, by decide +kernel, rfl, by decide +kernel, by decide +kernel⟩
theorem ok_cShape (T : Txt K mg) : DOk P w K mg base "checked_shape" ["thing"] 3 spCShape := by
  refine DOk.of (q := "checked_shape") (st := sCShape) T 7 7 rfl rfl scCShape (fun _ _ _ _ _ _ us hl => match us, hl with | [_], _ => rfl) len1 fun cdv A outer s H vs Q E hr h => ?_
  obtain ⟨_, rfl, t, ht, hf, k⟩ := h
  refine ⟨_, pss_cons (ps_if (pt_cmpR op_isN (pe_D (ok_letters T) hr (by rfl) (pa_cons (pv 0) pa_nil)) pe_non (nomark _)) (pss_one ps_never) pss_nil) (pss_one (ps_ret (pv 0))), ?_⟩
  refine ⟨_, rfl, _, rfl, t, ht, hf, fun H' p e _ _ => ⟨rfl, false, rfl, iteF ?_⟩⟩
  exact ⟨_, rfl, k H' e⟩
end
end Tix
set_option Elab.async false
set_option linter.all false
set_option maxRecDepth 100000
set_option maxHeartbeats 4000000
/-! depths_of, _law_depths. -/
namespace Tix
open PySem PySem.Spec PyProof.Rows L2
def DepthsOk (kvs : List (Key × V)) (s : Sh) : Prop := ∀ c ∈ s.ls, valV kvs (Sum.inr (lt c)) = some (.int (dof s c : Nat))
theorem putK_le (kvs : List (Key × V)) (k : Key) (v : V) : (putK kvs k v).length ≤ kvs.length + 1 := by
  unfold putK
  by_cases h : (kvs.any fun kv => decide (kv.1 = k)) = true
  · rw [if_pos h, List.length_map]
    exact Nat.le_succ _
  · rw [if_neg h, List.length_append]
    exact Nat.le_refl _
/-- what waits: the pair's address, the shape's value, the shape, its depth -/
structure Wt where
  a : Addr
  v : V
  t : Sh
  d : Nat
def wmass (st : List Wt) : Nat := (st.map fun p => p.t.sz).sum
def wsize (st : List Wt) : Nat := (st.map fun p => p.t.ls.length).sum
theorem wmass_push {st : List Wt} {p : Wt} : wmass (st ++ [p]) = wmass st + p.t.sz := by
  unfold wmass
  rw [List.map_append, List.sum_append]
  rfl
theorem wsize_push {st : List Wt} {p : Wt} : wsize (st ++ [p]) = wsize st + p.t.ls.length := by
  unfold wsize
  rw [List.map_append, List.sum_append]
  rfl
theorem wsize_len : ∀ st : List Wt, st.length ≤ wsize st
  | [] => Nat.le_refl _
  | p :: st => by
    have := wsize_len st
    have h := Sh.ls_pos p.t
    show st.length + 1 ≤ p.t.ls.length + wsize st
    omega
theorem wsize_mem : ∀ {st : List Wt} {p : Wt}, p ∈ st → p.t.ls.length ≤ wsize st
  | q :: st, p, h => by
    show p.t.ls.length ≤ q.t.ls.length + wsize st
    rcases List.mem_cons.mp h with rfl | h
    · exact Nat.le_add_right _ _
    · exact Nat.le_trans (wsize_mem h) (Nat.le_add_left _ _)
def wdat (p : Wt) : PyData := .tuple [dat p.t, .int p.d]
theorem wdat_dp {K : PySem.W.Frag} {H : Hp} : ∀ {st : List Wt}, (∀ p ∈ st, H p.a = some (.tup [p.v, .int p.d]) ∧ ShapeV H p.v p.t) → DpAll K H (st.map fun p => .ref p.a) (st.map wdat)
  | [], _ => .nil
  | p :: st, h => by
    obtain ⟨h1, h2⟩ := h p (List.mem_cons_self ..)
    exact .cons (.tup (SqT.of h1) (.cons (dat_dp h2) (.cons (.int _) .nil))) (wdat_dp fun q hq => h q (List.mem_cons_of_mem _ hq))
theorem wdat_ok {n : Nat} : ∀ {st : List Wt}, (∀ p ∈ st, Alpha p.t.ls ∧ p.t.ht ≤ n) → PyData.canLayAll0 (st.map wdat) = true ∧ PyData.depthAll (st.map wdat) ≤ n + 1
  | [], _ => ⟨rfl, Nat.zero_le _⟩
  | p :: st, h => by
    obtain ⟨i1, i2⟩ := wdat_ok (st := st) fun q hq => h q (List.mem_cons_of_mem _ hq)
    obtain ⟨a1, a2⟩ := h p (List.mem_cons_self ..)
    refine ⟨?_, ?_⟩
    · show (((dat p.t).canLay0 && true) && PyData.canLayAll0 _) = true
      rw [dat_lay a1, i1]
      rfl
    · show max (max (dat p.t).depth 0 + 1) (PyData.depthAll _) ≤ n + 1
      rw [dat_depth]
      omega
theorem wdat_shaped {st : List Wt} (h : ∀ p ∈ st, Alpha p.t.ls ∧ p.t.ht ≤ 60) : SeqAt.shaped (.list (st.map wdat)) = true := by
  obtain ⟨h1, h2⟩ := wdat_ok h
  show (PyData.canLayAll0 _ && decide (PyData.depthAll _ + 1 ≤ 64)) = true
  rw [h1, decide_eq_true (by omega)]
  rfl
/-- the heap keeps its tuples -/
def Tups (H H' : Hp) : Prop := ∀ b xs, H b = some (.tup xs) → H' b = some (.tup xs)
theorem ShapeV.tups {H H' : Hp} (e : Tups H H') : ∀ {s : Sh} {v : V}, ShapeV H v s → ShapeV H' v s
  | .leaf _, _, h => h
  | .node _ _, _, ⟨a, x, y, h0, h1, h2, h3⟩ => ⟨a, x, y, h0, e _ _ h1, ShapeV.tups e h2, ShapeV.tups e h3⟩
theorem Same.tups {H H' : Hp} (e : Same H H') : Tups H H' := fun b xs h => e b _ h
/-- all but p stands -/
def Keep (p : Addr) (H H' : Hp) : Prop := ∀ a o, a ≠ p → H a = some o → H' a = some o
theorem Keep.trans {p : Addr} {H H1 H2 : Hp} (e : Keep p H H1) (f : Keep p H1 H2) : Keep p H H2 := fun a o n h => f a o n (e a o n h)
theorem Keep.rfl' {p : Addr} {H : Hp} : Keep p H H := fun _ _ _ h => h
theorem Same.keep {p : Addr} {H H' : Hp} (e : Same H H') : Keep p H H' := fun a o _ h => e a o h
theorem keep_upd {p : Addr} {H H' : Hp} {o : HO} (e : Keep p H H') : Keep p H (upd H' p o) := fun a u n h => by
  rw [upd_ne n]
  exact e a u n h
theorem Keep.tups {p : Addr} {H H' : Hp} (e : Keep p H H') (h : ∀ xs, H p ≠ some (.tup xs)) : Tups H H' := fun b xs hb => e b _ (fun q => h xs (q ▸ hb)) hb
section
variable {P : Program} {w : World} {K : PySem.W.Frag} {mg : Str → Option Value} {base : Heap}
/-! ### depths_of -/
def spDepths : Sp := sp1 fun x H Q => ∃ s, ShapeV H x s ∧ Fine s ∧ ∀ H' p kvs, Same H H' → H p = none → H' p = some (.dK kvs) → DepthsOk kvs s → Q (.ref p) H'
theorem scDepths : FnScope ["shape", "found", "waiting", "part", "deep"] ["shape"] (defScope sDepths) := ⟨rfl, rfl, rfl, by decide +kernel, rfl, by decide +kernel, by decide +kernel⟩
theorem ok_depths (T : Txt K mg) : DOk P w K mg base "depths_of" ["shape"] 1 spDepths := by
  refine DOk.of (q := "depths_of") (st := sDepths) T 8 8 rfl rfl scDepths (fun _ _ _ _ _ _ us hl => match us, hl with | [_], _ => rfl) len1 fun cdv A outer s H vs Q E hr h => ?_
  obtain ⟨x, rfl, s, hx, ⟨al, nd, hl⟩, k⟩ := h
  have sc := scDepths
  refine ⟨_, pss_cons (ps_par (i := 1) (j := 2) rfl sc.nd rfl rfl (by decide) rfl rfl (pa_cons pe_dnewK (pa_cons (pe_lst (pa_cons (pe_tup (pa_cons (pv 0) (pa_cons pe_int pa_nil))) pa_nil)) pa_nil)) rfl)
    (pss_cons (ps_while PassesOwn.never (pt_cmpR (op_neD hr.units) (pv 2) (pe_lst pa_nil) (nomark _))
      (pss_cons (ps_asg (pe_bm0 PySem.F.plainAttrs_list PySem.F.slot_list_pop PySem.F.type_list_pop mt_pop (pv 2)) (pg_tup rfl (pgs_cons (pg_name (i := 3) sc.nd rfl (Or.inl rfl)) (pgs_cons (pg_name (i := 4) sc.nd rfl (Or.inl rfl)) pgs_nil))))
        (pss_one (ps_if (pt_val (pe_isi (pv 3) T.isinstance T.str_ boot_strT))
          (pss_one (ps_dput (hu_of hr) (pv 1) (pv 3) (pv 4) rfl))
          (pss_one (ps_expr (pe_bm PySem.F.plainAttrs_list PySem.F.slot_list_extend PySem.F.type_list_extend mt_extend (pv 2) (pa_cons (pe_lst (pa_cons
            (pe_tup (pa_cons (pe_ix ix_tup (pv 3) pe_int (fun _ _ => rfl)) (pa_cons (pe_op op_add (pv 4) pe_int) pa_nil)))
            (pa_cons (pe_tup (pa_cons (pe_ix ix_tup (pv 3) pe_int (fun _ _ => rfl)) (pa_cons (pe_op op_add (pv 4) pe_int) pa_nil))) pa_nil))) pa_nil))))))))
    (pss_one (ps_ret (pv 1)))), ?_⟩
  refine fun F hF => ⟨_, rfl, le1000 (n := 2) (by decide), fun tp hT => ⟨le1000 (n := 1) (by decide), fun W hW => ⟨_, _, rfl, ?_⟩⟩⟩
  have hT0 : H tp = none := by
    by_cases e : tp = F
    · rw [e]
      exact hF
    · rw [upd_ne e] at hT
      exact hT
  have hTF : tp ≠ F := by
    intro e
    rw [e, upd_same] at hT
    cases hT
  have hWT : W ≠ tp := by
    intro e
    rw [e, upd_same] at hW
    cases hW
  have hWF : W ≠ F := by
    intro e
    rw [upd_ne hWT, e, upd_same] at hW
    cases hW
  have hW0 : H W = none := by
    rw [upd_ne hWT, upd_ne hWF] at hW
    exact hW
  refine ⟨fun m σ H' => ∃ (st : List Wt) (kvs : List (Key × V)) (part deep : Option V), m = wmass st ∧ σ = [some x, some (.ref F), some (.ref W), part, deep] ∧ Same H H' ∧
    H' F = some (.dK kvs) ∧ H' W = some (.lst (st.map fun p => .ref p.a)) ∧ (∀ p ∈ st, H' p.a = some (.tup [p.v, .int p.d]) ∧ ShapeV H p.v p.t ∧ p.t.ls.Nodup ∧ (∀ c ∈ p.t.ls, c ∈ s.ls ∧ dof s c = dof p.t c + p.d)) ∧
    kvs.length + wsize st ≤ s.ls.length ∧ (∀ c ∈ s.ls, (∃ p ∈ st, c ∈ p.t.ls) ∨ valV kvs (Sum.inr (lt c)) = some (.int (dof s c : Nat))), ?_, ?_⟩
  · refine ⟨_, [⟨tp, x, s, 0⟩], [], none, none, rfl, rfl, ((same_new hF).trans (same_new hT)).trans (same_new hW), ?_, upd_same, ?_, ?_, ?_⟩
    · rw [upd_ne (Ne.symm hWF), upd_ne (Ne.symm hTF)]
      exact upd_same
    · intro p hp
      rw [List.mem_singleton] at hp
      subst hp
      refine ⟨?_, hx, nd, fun c hc => ⟨hc, rfl⟩⟩
      rw [upd_ne (Ne.symm hWT)]
      exact upd_same
    · show 0 + (s.ls.length + 0) ≤ _
      omega
    · exact fun c hc => .inl ⟨_, List.mem_singleton.mpr rfl, hc⟩
  rintro m σ H1 ⟨st, kvs, part, deep, rfl, rfl, e1, hf, hw, sh, hz, cv⟩
  refine ⟨_, rfl, Nat.zero_le _, fun l hn => ?_⟩
  have e2 : Same H1 (upd H1 l (.lst [])) := same_new hn
  have hf2 := e2 _ _ hf
  have hw2 := e2 _ _ hw
  have e3 := e1.trans e2
  have sh2 : ∀ p ∈ st, upd H1 l (.lst []) p.a = some (.tup [p.v, .int p.d]) ∧ ShapeV H p.v p.t ∧ p.t.ls.Nodup ∧ (∀ c ∈ p.t.ls, c ∈ s.ls ∧ dof s c = dof p.t c + p.d) := fun p hp => ⟨e2 _ _ (sh p hp).1, (sh p hp).2⟩
  have hal : ∀ p ∈ st, Alpha p.t.ls ∧ p.t.ht ≤ 60 := fun p hp => by
    refine ⟨al.of fun c hc => ((sh p hp).2.2.2 c hc).1, ?_⟩
    have h1 := Sh.ht_lt p.t
    have h2 := wsize_mem hp
    omega
  refine ⟨_, _, .lst (SqL.of hw2) (wdat_dp fun p hp => ⟨(sh2 p hp).1, (sh2 p hp).2.1.same e3⟩), .lst (SqL.of upd_same) .nil, wdat_shaped hal, nil_shaped, ?_⟩
  generalize upd H1 l (.lst []) = H2 at *
  clear hf hw sh
  rcases List.eq_nil_or_concat st with rfl | ⟨st', ⟨a, v, t, d⟩, rfl⟩
  · refine ⟨false, rfl, iteF ?_⟩
    refine ⟨_, rfl, k H2 F kvs e3 hF hf2 fun c hc => ?_⟩
    rcases cv c hc with ⟨p, hp, _⟩ | h
    · cases hp
    · exact h
  · rw [List.concat_eq_append] at *
    refine ⟨true, ?_, iteT ?_⟩
    · rw [List.map_append]
      cases st' <;> rfl
    have hw3 : H2 W = some (.lst (st'.map (fun p => .ref p.a) ++ [.ref a])) := by
      rw [hw2, List.map_append]
      rfl
    have sh' : ∀ p ∈ st', H2 p.a = some (.tup [p.v, .int p.d]) ∧ ShapeV H p.v p.t ∧ p.t.ls.Nodup ∧ (∀ c ∈ p.t.ls, c ∈ s.ls ∧ dof s c = dof p.t c + p.d) := fun p hp => sh2 p (List.mem_append.mpr (.inl hp))
    obtain ⟨ha, sv, ndt, dd⟩ := sh2 ⟨a, v, t, d⟩ (List.mem_append.mpr (.inr (List.mem_singleton.mpr rfl)))
    rw [wsize_push] at hz
    have hz : kvs.length + (wsize st' + t.ls.length) ≤ s.ls.length := hz
    refine ⟨_, fun σ' H' q => q, ?_⟩
    refine ⟨_, rfl, .inl ⟨rfl, _, SqL.of hw3⟩, W, _, .ref a, rfl, rfl, hw3, by simp, ?_⟩
    rw [List.dropLast_concat]
    have hne : ∀ {q xs}, H2 q = some (.tup xs) → q ≠ W := fun hq e => by
      rw [e, hw3] at hq
      cases hq
    have e4 : Same H (upd H2 W (.lst (st'.map (fun p => .ref p.a)))) := same_mut e3 hW0
    have hf4 : (upd H2 W (.lst (st'.map (fun p => .ref p.a)))) F = some (.dK kvs) := by
      rw [upd_ne (Ne.symm hWF)]
      exact hf2
    have hw4 : (upd H2 W (.lst (st'.map (fun p => .ref p.a)))) W = some (.lst (st'.map (fun p => .ref p.a))) := upd_same
    have ha4 : (upd H2 W (.lst (st'.map (fun p => .ref p.a)))) a = some (.tup [v, .int d]) := by
      rw [upd_ne (hne ha)]
      exact ha
    have sh4 : ∀ p ∈ st', (upd H2 W (.lst (st'.map (fun p => .ref p.a)))) p.a = some (.tup [p.v, .int p.d]) ∧ ShapeV H p.v p.t ∧ p.t.ls.Nodup ∧ (∀ c ∈ p.t.ls, c ∈ s.ls ∧ dof s c = dof p.t c + p.d) := fun p hp =>
      ⟨by rw [upd_ne (hne (sh' p hp).1)]; exact (sh' p hp).1, (sh' p hp).2⟩
    generalize upd H2 W (.lst (st'.map (fun p => .ref p.a))) = H4 at *
    refine ⟨a, _, rfl, SqT.of ha4, rfl, _, _, rfl, _, _, rfl, rfl, ?_⟩
    cases t with
    | leaf c =>
      cases (show v = lv c from sv)
      obtain ⟨hc, hd⟩ := dd c (List.mem_singleton.mpr rfl)
      have hd : dof s c = 0 + d := hd
      refine isi_v rfl (.base (.str _)) kit_ss ⟨true, rfl, iteT ?_⟩
      refine ⟨_, rfl, _, rfl, _, rfl, F, _, rfl, DPut.k (k := Sum.inr (lt c)) hf4 (small1000 (by omega)), ?_⟩
      refine ⟨wmass st', ?_, st', putK kvs (Sum.inr (lt c)) (.int d), _, _, rfl, rfl, same_mut e4 hF, upd_same, ?_, ?_, ?_, ?_⟩
      · rw [wmass_push]
        exact Nat.lt_succ_self _
      · rw [upd_ne hWF]
        exact hw4
      · intro p hp
        obtain ⟨i1, i2⟩ := sh4 p hp
        refine ⟨?_, i2⟩
        rw [upd_ne (fun e => by rw [e, hf4] at i1; cases i1)]
        exact i1
      · have := putK_le kvs (Sum.inr (lt c)) (.int d)
        have h1 : (Sh.leaf c).ls.length = 1 := rfl
        omega
      · intro c' hc'
        by_cases e : c' = c
        · subst e
          right
          rw [valV_put, if_pos rfl, hd]
          simp
        · rw [valV_put, if_neg (fun q => e (lt_inj (Sum.inr.inj q)))]
          rcases cv c' hc' with ⟨p, hp, hpc⟩ | h
          · rcases List.mem_append.mp hp with hp | hp
            · exact .inl ⟨p, hp, hpc⟩
            · rw [List.mem_singleton] at hp
              subst hp
              exact absurd (List.mem_singleton.mp hpc) e
          · exact .inr h
    | node lt' rt' =>
      obtain ⟨b, vx, vy, rfl, hb, h1, h2⟩ := sv
      have hb4 := e4 _ _ hb
      refine isi_v rfl (.base (.tup hb4)) kit_ts ⟨false, rfl, iteF ?_⟩
      refine ⟨_, rfl, .inl ⟨rfl, _, SqL.of hw4⟩, ?_⟩
      refine ⟨_, rfl, b, _, _, _, rfl, rfl, SqT.of hb4, atI_nat (j := 0) rfl, ?_⟩
      refine ⟨_, rfl, _, _, rfl, rfl, le1000 (n := 2) (by decide), fun t1 ht1 => ?_⟩
      refine ⟨_, rfl, b, _, _, _, rfl, rfl, SqT.of ((same_new ht1) _ _ hb4), atI_nat (j := 1) rfl, ?_⟩
      refine ⟨_, rfl, _, _, rfl, rfl, le1000 (n := 2) (by decide), fun t2 ht2 => ?_⟩
      refine ⟨le1000 (n := 2) (by decide), fun bl hbl => ?_⟩
      have hs1 := (same_new (o := HO.tup [vx, .int (↑d + 1)]) ht1)
      have hs2 := hs1.trans (same_new (o := HO.tup [vy, .int (↑d + 1)]) ht2)
      have hs3 := hs2.trans (same_new (o := HO.lst [.ref t1, .ref t2]) hbl)
      have hw5 := hs3 _ _ hw4
      have hf5 := hs3 _ _ hf4
      have hW0' := hW0
      refine ⟨W, bl, _, _, rfl, rfl, hw5, upd_same, ?_, ?_⟩
      · refine le1000 ?_
        have := wsize_len st'
        rw [List.length_map]
        show st'.length + 2 ≤ 1000
        omega
      have ndn := ndt
      have q1 : (upd (upd (upd H4 t1 (.tup [vx, .int (↑d + 1)])) t2 (.tup [vy, .int (↑d + 1)])) bl (.lst [.ref t1, .ref t2])) t1 = some (.tup [vx, .int (↑d + 1)]) :=
        (same_new hbl) _ _ ((same_new ht2) _ _ upd_same)
      have q2 : (upd (upd (upd H4 t1 (.tup [vx, .int (↑d + 1)])) t2 (.tup [vy, .int (↑d + 1)])) bl (.lst [.ref t1, .ref t2])) t2 = some (.tup [vy, .int (↑d + 1)]) :=
        (same_new hbl) _ _ upd_same
      have e5 := e4.trans hs3
      have sh5 : ∀ p ∈ st', _ := fun p hp => hs3 _ _ (sh4 p hp).1
      generalize (upd (upd (upd H4 t1 (.tup [vx, .int (↑d + 1)])) t2 (.tup [vy, .int (↑d + 1)])) bl (.lst [.ref t1, .ref t2])) = H5 at *
      have hne5 : ∀ {q xs}, H5 q = some (.tup xs) → q ≠ W := fun hq e => by
        rw [e, hw5] at hq
        cases hq
      refine ⟨wmass (st' ++ [⟨t1, vx, lt', d + 1⟩, ⟨t2, vy, rt', d + 1⟩]), ?_, st' ++ [⟨t1, vx, lt', d + 1⟩, ⟨t2, vy, rt', d + 1⟩], kvs, _, _, rfl, rfl, same_mut e5 hW0, ?_, ?_, ?_, ?_, ?_⟩
      · rw [show st' ++ [⟨t1, vx, lt', d + 1⟩, ⟨t2, vy, rt', d + 1⟩] = (st' ++ [⟨t1, vx, lt', d + 1⟩]) ++ [⟨t2, vy, rt', d + 1⟩] by simp, wmass_push, wmass_push, wmass_push]
        show _ + lt'.sz + rt'.sz < _ + (lt'.sz + rt'.sz + 1)
        omega
      · rw [upd_ne (Ne.symm hWF)]
        exact hf5
      · rw [upd_same, List.map_append]
        rfl
      · intro p hp
        rcases List.mem_append.mp hp with hp | hp
        · refine ⟨?_, (sh4 p hp).2⟩
          rw [upd_ne (hne5 (sh5 p hp))]
          exact sh5 p hp
        · rcases List.mem_cons.mp hp with rfl | hp
          · refine ⟨?_, h1, nodup_l ndn, fun c hc => ?_⟩
            · show upd H5 W _ t1 = _
              rw [upd_ne (hne5 q1)]
              exact q1
            · obtain ⟨i1, i2⟩ := dd c (mem_node.mpr (.inl hc))
              refine ⟨i1, ?_⟩
              rw [i2]
              show dof (.node lt' rt') c + d = dof lt' c + (d + 1)
              rw [dof_l ndn hc]
              omega
          · rw [List.mem_singleton] at hp
            subst hp
            refine ⟨?_, h2, nodup_r ndn, fun c hc => ?_⟩
            · show upd H5 W _ t2 = _
              rw [upd_ne (hne5 q2)]
              exact q2
            · obtain ⟨i1, i2⟩ := dd c (mem_node.mpr (.inr hc))
              refine ⟨i1, ?_⟩
              rw [i2]
              show dof (.node lt' rt') c + d = dof rt' c + (d + 1)
              rw [dof_r (r := rt') hc]
              omega
      · rw [show st' ++ [⟨t1, vx, lt', d + 1⟩, ⟨t2, vy, rt', d + 1⟩] = (st' ++ [⟨t1, vx, lt', d + 1⟩]) ++ [⟨t2, vy, rt', d + 1⟩] by simp, wsize_push, wsize_push]
        have : (Sh.node lt' rt').ls.length = lt'.ls.length + rt'.ls.length := List.length_append
        show kvs.length + (wsize st' + lt'.ls.length + rt'.ls.length) ≤ _
        omega
      · intro c hc
        rcases cv c hc with ⟨p, hp, hpc⟩ | h
        · left
          rcases List.mem_append.mp hp with hp | hp
          · exact ⟨p, List.mem_append.mpr (.inl hp), hpc⟩
          · rw [List.mem_singleton] at hp
            subst hp
            rcases mem_node.mp hpc with h | h
            · exact ⟨_, List.mem_append.mpr (.inr (List.mem_cons_self ..)), h⟩
            · exact ⟨_, List.mem_append.mpr (.inr (List.mem_cons_of_mem _ (List.mem_singleton.mpr rfl))), h⟩
        · exact .inr h
end
end Tix
set_option Elab.async false
set_option linter.all false
set_option maxRecDepth 100000
set_option maxHeartbeats 4000000
/-! A branch in the heap; is_end, ahead, counted. -/
namespace Tix
open PySem PySem.Spec PyProof.Rows L2
def rg (r : Sh) : Nat → Bool := fun c => decide (c ∈ r.ls)
def sdf (r : Sh) : Bool → Nat → Bool
  | false => fun c => !rg r c
  | true => rg r
def Sh.isLeaf : Sh → Bool
  | .leaf _ => true
  | .node _ _ => false
structure BrHd (C : Addr) (H : Hp) (b : Addr) (s : Sh) (dx : Addr) (fs : List (Str × V)) : Prop where
  at_ : H b = some (.ins C dx fs)
  m1 : fs.lookup ("is_end" : Str) = none
  m2 : fs.lookup ("ahead" : Str) = none
  m3 : fs.lookup ("counted" : Str) = none
  sh : ∃ v, fs.lookup ("shape" : Str) = some v ∧ ShapeV H v s
  le : ∃ ls, fs.lookup ("letters" : Str) = some (.ref ls) ∧ H ls = some (.lst (s.ls.map lv))
def onesOf (r : Sh) (t : List Nat) : List V := (List.range (t.length + 1)).map fun i => .int (cnt (rg r) t i : Nat)
def BrAt (C : Addr) (H : Hp) : Sh → Addr → List Nat → Prop
  | .leaf c, b, _ => ∃ dx fs, BrHd C H b (.leaf c) dx fs
  | .node l r, b, t => ∃ dx fs os sd bl br, BrHd C H b (.node l r) dx fs ∧ fs.lookup ("ones" : Str) = some (.ref os) ∧ H os = some (.lst (onesOf r t)) ∧ fs.lookup ("sides" : Str) = some (.ref sd) ∧
    H sd = some (.tup [.ref bl, .ref br]) ∧ BrAt C H l bl (t.filter (sdf r false)) ∧ BrAt C H r br (t.filter (sdf r true))
theorem BrHd.same {C : Addr} {H H' : Hp} (e : Same H H') {b : Addr} {s : Sh} {dx : Addr} {fs : List (Str × V)} (h : BrHd C H b s dx fs) : BrHd C H' b s dx fs :=
  ⟨e _ _ h.at_, h.m1, h.m2, h.m3, let ⟨v, a, b⟩ := h.sh; ⟨v, a, b.same e⟩, let ⟨l, a, b⟩ := h.le; ⟨l, a, e _ _ b⟩⟩
theorem BrAt.same {C : Addr} {H H' : Hp} (e : Same H H') : ∀ {s : Sh} {b : Addr} {t : List Nat}, BrAt C H s b t → BrAt C H' s b t
  | .leaf _, _, _, ⟨dx, fs, h⟩ => ⟨dx, fs, h.same e⟩
  | .node _ _, _, _, ⟨dx, fs, os, sd, bl, br, h, h1, h2, h3, h4, h5, h6⟩ => ⟨dx, fs, os, sd, bl, br, h.same e, h1, e _ _ h2, h3, e _ _ h4, BrAt.same e h5, BrAt.same e h6⟩
theorem BrAt.hd {C : Addr} {H : Hp} : ∀ {s : Sh} {b : Addr} {t : List Nat}, BrAt C H s b t → ∃ dx fs, BrHd C H b s dx fs
  | .leaf _, _, _, h => h
  | .node _ _, _, _, ⟨dx, fs, _, _, _, _, h, _⟩ => ⟨dx, fs, h⟩
theorem ones_at {r : Sh} {t : List Nat} {p : Nat} (h : p ≤ t.length) : atI (onesOf r t) (p : Int) = some (.int (cnt (rg r) t p : Nat)) := by
  refine atI_nat ?_
  unfold onesOf
  rw [List.getElem?_map, List.getElem?_range (by omega)]
  rfl
theorem walk_enumT {K : PySem.W.Frag} {a : Addr} {xs : List V} : Walk (Itet K a) xs.length (fun H => SqT K H a xs) (YPair (fun i => some (.int (i : Nat))) (fun i => xs[i]?)) := by
  refine ⟨fun i _ hi q => ⟨xs, xs[i], q, by simp [hi]⟩, fun _ q => ⟨xs, q, rfl⟩, fun i H v H' _ q y => ?_⟩
  obtain ⟨T, x, h1, h2, h3, h4⟩ := y
  exact ⟨T, .int (i : Nat), x, h1, h2, h3, rfl, h4 xs q⟩
/-- the last of a rising list -/
theorem last_of {l : List Nat} (hp : 0 < l.length) : ∃ z, z ∈ l ∧ atI (l.map lv) (-1) = some (lv z) ∧ (Rise l → ∀ c ∈ l, c ≤ z) := by
  have hlt : l.length - 1 < l.length := by omega
  refine ⟨l[l.length - 1], List.getElem_mem hlt, ?_, fun hr c hc => ?_⟩
  · unfold atI
    have e : ixN (l.map lv).length (-1) = some (l.length - 1) := by
      unfold ixN
      rw [List.length_map]
      simp
      omega
    rw [e]
    show (l.map lv)[l.length - 1]? = _
    rw [List.getElem?_map, List.getElem?_eq_getElem hlt]
    rfl
  · obtain ⟨i, hi, rfl⟩ := List.getElem_of_mem hc
    by_cases e : i = l.length - 1
    · subst e
      exact Nat.le_refl _
    · exact Nat.le_of_lt (List.pairwise_iff_getElem.mp hr i (l.length - 1) hi hlt (by omega))
theorem head_of {l : List Nat} (hp : 0 < l.length) : ∃ a, a ∈ l ∧ atI (l.map lv) 0 = some (lv a) ∧ (Rise l → ∀ c ∈ l, a ≤ c) := by
  cases l with
  | nil => exact absurd hp (Nat.lt_irrefl 0)
  | cons a l =>
    refine ⟨a, List.mem_cons_self .., atI_nat (j := 0) rfl, fun hr c hc => ?_⟩
    rcases List.mem_cons.mp hc with rfl | hc
    · exact Nat.le_refl _
    · exact Nat.le_of_lt ((List.pairwise_cons.mp hr).1 c hc)
theorem filt_all {t : List Nat} {s : Sh} {f : Nat → Bool} {u : Sh} (ht : ∀ c ∈ t, c ∈ s.ls) (h : ∀ c ∈ s.ls, f c = true → c ∈ u.ls) : ∀ c ∈ t.filter f, c ∈ u.ls := fun c hc => by
  obtain ⟨h1, h2⟩ := List.mem_filter.mp hc
  exact h c (ht c h1) h2
theorem left_all {t : List Nat} {l r : Sh} (ht : ∀ c ∈ t, c ∈ (Sh.node l r).ls) : ∀ c ∈ t.filter (sdf r false), c ∈ l.ls := filt_all ht fun c hc h => by
  rcases mem_node.mp hc with e | e
  · exact e
  · have h : (!decide (c ∈ r.ls)) = true := h
    rw [decide_eq_true e] at h
    cases h
theorem right_all {t : List Nat} {l r : Sh} (ht : ∀ c ∈ t, c ∈ (Sh.node l r).ls) : ∀ c ∈ t.filter (sdf r true), c ∈ r.ls := filt_all ht fun c hc h => of_decide_eq_true h
theorem kit_is : kitB "str" "str" = some true := kit_ss
section
variable {P : Program} {w : World} {K : PySem.W.Frag} {mg : Str → Option Value} {base : Heap}
/-! ### is_end -/
def spIsEnd (K : PySem.W.Frag) : Sp := sp1 fun x H Q => ∃ b dx fs v s, x = .ref b ∧ H b = some (.ins (aB K) dx fs) ∧ fs.lookup ("shape" : Str) = some v ∧ ShapeV H v s ∧ Q (.bl s.isLeaf) H
theorem scIsEnd : FnScope ["self"] ["self"] (defScope sBEnd) := ⟨rfl, rfl, rfl, by decide +kernel, rfl, by decide +kernel, by decide +kernel⟩
theorem ok_isEnd (T : Txt K mg) : MOk P w K mg base (aB K) "is_end" ["self"] 1 (spIsEnd K) := by
  refine MOk.ofB (q := "Branch.is_end") (st := sBEnd) T 10 38 rfl rfl scIsEnd (fun _ _ _ _ _ _ us hl => match us, hl with | [_], _ => rfl) len1 fun cdv A outer s H vs Q E hr h => ?_
  obtain ⟨_, rfl, b, dx, fs, v, sh, rfl, hb, hl, hv, k⟩ := h
  refine ⟨_, pss_one (ps_ret (pe_isi (pe_fld (pv 0) rfl) T.isinstance T.str_ boot_strT)), ?_⟩
  refine ⟨_, rfl, b, _, dx, fs, v, rfl, hb, T.clB, T.noB 45 rfl, hl, ?_⟩
  cases sh with
  | leaf c =>
    cases (show v = lv c from hv)
    exact isi_go (σ := []) (.base (.str _)) kit_ss k
  | node l r =>
    obtain ⟨a, x, y, rfl, ha, _⟩ := hv
    exact isi_go (σ := []) (.base (.tup ha)) kit_ts k
/-! ### ahead -/
def spAhead (K : PySem.W.Frag) : Sp := sp3 fun x y z H Q => ∃ b l r t sd p, x = .ref b ∧ BrAt (aB K) H (.node l r) b t ∧ y = .int (if sd = true then 1 else 0) ∧ z = .int (p : Nat) ∧ p ≤ t.length ∧ Q (.int (cnt (sdf r sd) t p : Nat)) H
theorem scAhead : FnScope ["self", "side", "place"] ["self", "side", "place"] (defScope sBAhead) := ⟨rfl, rfl, rfl, by decide +kernel, rfl, by decide +kernel, by decide +kernel⟩
theorem ok_ahead (T : Txt K mg) : MOk P w K mg base (aB K) "ahead" ["self", "side", "place"] 1 (spAhead K) := by
  refine MOk.ofB (q := "Branch.ahead") (st := sBAhead) T 11 39 rfl rfl scAhead (fun _ _ _ _ _ _ us hl => match us, hl with | [_, _, _], _ => rfl) len3 fun cdv A outer s H vs Q E hr h => ?_
  obtain ⟨_, _, _, rfl, b, l, r, t, sd, p, rfl, ⟨dx, fs, os, si, bl, br, hb, h1, h2, _⟩, rfl, rfl, hp, k⟩ := h
  refine ⟨_, pss_one (ps_ret (pe_ifExp (pt_cmpR op_eq (pv 1) pe_int (nomark _)) (pe_ix ix_list (pe_fld (pv 0) rfl) (pv 2) (fun _ _ => rfl)) (pe_op op_sub (pv 2) (pe_ix ix_list (pe_fld (pv 0) rfl) (pv 2) (fun _ _ => rfl))))), ?_⟩
  cases sd with
  | true =>
    refine ⟨_, rfl, rfl, true, rfl, iteT ?_⟩
    exact ⟨_, rfl, b, _, dx, fs, _, rfl, hb.at_, T.clB, T.noB 50 rfl, h1, _, rfl, os, _, _, _, rfl, rfl, SqL.of h2, ones_at hp, k⟩
  | false =>
    refine ⟨_, rfl, rfl, false, rfl, iteF ?_⟩
    refine ⟨_, rfl, _, rfl, b, _, dx, fs, _, rfl, hb.at_, T.clB, T.noB 50 rfl, h1, _, rfl, os, _, _, _, rfl, rfl, SqL.of h2, ones_at hp, _, _, rfl, rfl, ?_⟩
    have e : ((cnt (sdf r false) t p : Nat) : Int) = (p : Int) - (cnt (rg r) t p : Nat) := by
      have h3 : cnt (sdf r false) t p = p - cnt (rg r) t p := cnt_not hp
      have h4 : cnt (rg r) t p ≤ p := cnt_le
      omega
    rw [e] at k
    exact k
/-! ### counted -/
def spCounted (K : PySem.W.Frag) (n : Nat) : Sp := sp5 fun x y z u v H Q => ∃ b s t be en lo hi, x = .ref b ∧ BrAt (aB K) H s b t ∧ s.ht ≤ n ∧ Rise s.ls ∧ s.ls.length ≤ 26 ∧ (∀ c ∈ t, c ∈ s.ls) ∧ y = .int (be : Nat) ∧ z = .int (en : Nat) ∧
  be ≤ en ∧ en ≤ t.length ∧ u = lv lo ∧ v = lv hi ∧ ∀ H', Same H H' → Q (.int (btw lo hi (cut t be en) : Nat)) H'
theorem scCounted : FnScope ["self", "begin", "end", "low", "high", "found", "side", "inner"] ["self", "begin", "end", "low", "high"] (defScope sBCount) := ⟨rfl, rfl, rfl, by decide +kernel, rfl, by decide +kernel, by decide +kernel⟩
theorem lt_lv {a b : Nat} : decide ((lt a).cps.toList < (lt b).cps.toList) = decide (a < b) := one_lt
theorem cut_same {t : List Nat} {b : Nat} : cut t b b = [] := by
  unfold cut
  rw [List.drop_eq_nil_iff, List.length_take]
  omega
theorem btw_nil {lo hi : Nat} : btw lo hi [] = 0 := rfl
theorem ok_counted0 (T : Txt K mg) : MOk P w K mg base (aB K) "counted" ["self", "begin", "end", "low", "high"] 2 (spCounted K 0) := by
  refine MOk.ofB (q := "Branch.counted") (st := sBCount) (k := 1) T 12 40 rfl rfl scCounted (fun _ _ _ _ _ _ us hl => match us, hl with | [_, _, _, _, _], _ => rfl) len5 fun cdv A outer s H vs Q E hr h => ?_
  obtain ⟨_, _, _, _, _, rfl, b, sh, t, be, en, lo, hi, rfl, hb, hh, ri, hl, ht, rfl, rfl, hbe, hen, rfl, rfl, k⟩ := h
  refine ⟨_, pss_cons (ps_if (PW.pt (pw_or (pt_cmpR op_eq (pv 1) (pv 2) (nomark _)) (pw_or (pt_cmpR op_lt_str (pe_ix ix_list (pe_fld (pv 0) rfl) (pe_un un_neg pe_int) (fun _ _ => rfl)) (pv 3) (nomark _))
      (pw_or1 (pt_cmpR op_lt_str (pv 4) (pe_ix ix_list (pe_fld (pv 0) rfl) pe_int (fun _ _ => rfl)) (nomark _)))))) (pss_one (ps_ret pe_int)) pss_nil)
    (pss_cons (ps_if (PW.pt (pw_and (pt_cmpR op_le_str (pv 3) (pe_ix ix_list (pe_fld (pv 0) rfl) pe_int (fun _ _ => rfl)) (nomark _)) (pw_and1 (pt_cmpR op_le_str (pe_ix ix_list (pe_fld (pv 0) rfl) (pe_un un_neg pe_int) (fun _ _ => rfl)) (pv 4) (nomark _)))))
      (pss_one (ps_ret (pe_op op_sub (pv 2) (pv 1)))) pss_nil) pss_never), ?_⟩
  cases sh with
  | node l r => exact absurd hh (Nat.not_succ_le_zero _)
  | leaf c =>
    obtain ⟨dx, fs, hd⟩ := hb
    obtain ⟨ls, l1, l2⟩ := hd.le
    have tc : ∀ d ∈ cut t be en, d = c := fun d hd => List.mem_singleton.mp (ht d (cut_mem hd))
    refine ⟨_, rfl, _, rfl, rfl, _, rfl, ite2 (fun e => ?_) (fun e => ?_)⟩
    · have e : be = en := by
        have := of_decide_eq_true e
        injection this with this
        omega
      subst e
      have k := k H (fun _ _ h => h)
      rw [cut_same, btw_nil] at k
      exact iteT k
    · refine ⟨_, rfl, b, _, dx, fs, _, rfl, hd.at_, T.clB, T.noB 46 rfl, l1, _, rfl, ls, _, _, _, rfl, rfl, SqL.of l2, rfl, _, rfl, lt c, lt lo, rfl, rfl, _, rfl, ite2 (fun e => ?_) (fun e => ?_)⟩
      · rw [lt_lv, decide_eq_true_eq] at e
        have k := k H (fun _ _ h => h)
        rw [btw_none (fun d hd => .inl (by rw [tc d hd]; exact e))] at k
        exact iteT k
      rw [lt_lv, decide_eq_true_eq] at e
      refine ⟨_, rfl, _, rfl, b, _, dx, fs, _, rfl, hd.at_, T.clB, T.noB 46 rfl, l1, ls, _, _, _, rfl, rfl, SqL.of l2, rfl, lt hi, lt c, rfl, rfl, _, rfl, ?_⟩
      rw [lt_lv]
      refine ite2 (fun e2 => ?_) (fun e2 => ?_)
      · rw [decide_eq_true_eq] at e2
        have k := k H (fun _ _ h => h)
        rw [btw_none (fun d hd => .inr (by rw [tc d hd]; exact e2))] at k
        exact k
      rw [decide_eq_true_eq] at e2
      refine ⟨_, rfl, _, rfl, b, _, dx, fs, _, rfl, hd.at_, T.clB, T.noB 46 rfl, l1, ls, _, _, _, rfl, rfl, SqL.of l2, rfl, lt lo, lt c, rfl, rfl, true, ?_, iteT ?_⟩
      · rw [lt_lv, decide_eq_false e]
        rfl
      refine ⟨_, rfl, b, _, dx, fs, _, rfl, hd.at_, T.clB, T.noB 46 rfl, l1, _, rfl, ls, _, _, _, rfl, rfl, SqL.of l2, rfl, _, rfl, lt c, lt hi, rfl, rfl, true, ?_, iteT ?_⟩
      · rw [lt_lv, decide_eq_false e2]
        rfl
      have k := k H (fun _ _ h => h)
      rw [btw_all (fun d hd => by rw [tc d hd]; omega), cut_len hbe hen, Int.ofNat_sub hbe] at k
      exact ⟨_, rfl, _, rfl, _, _, rfl, rfl, k⟩
end
end Tix
set_option Elab.async false
set_option linter.all false
set_option maxRecDepth 100000
set_option maxHeartbeats 4000000
/-! counted, of a branch with sides. -/
namespace Tix
open PySem PySem.Spec PyProof.Rows L2
section
variable {P : Program} {w : World} {K : PySem.W.Frag} {mg : Str → Option Value} {base : Heap}
theorem ok_countedS (T : Txt K mg) {n : Nat} (IH : MOk P w K mg base (aB K) "counted" ["self", "begin", "end", "low", "high"] (n + 2) (spCounted K n)) :
    MOk P w K mg base (aB K) "counted" ["self", "begin", "end", "low", "high"] (n + 1 + 2) (spCounted K (n + 1)) := by
  refine MOk.ofB (q := "Branch.counted") (st := sBCount) (k := n + 2) T 12 40 rfl rfl scCounted (fun _ _ _ _ _ _ us hl => match us, hl with | [_, _, _, _, _], _ => rfl) len5 fun cdv A outer s H vs Q E hr h => ?_
  obtain ⟨_, _, _, _, _, rfl, b, sh, t, be, en, lo, hi, rfl, hb, hh, ri, hl, ht, rfl, rfl, hbe, hen, rfl, rfl, k⟩ := h
  have hr1 : Room 1 (A.deeper (envOfC "Branch.counted" (defScope sBCount) s.heap.objs.size (He.fAd K ("Branch", some "counted")) cdv)) := hr.mono (by omega)
  refine ⟨_, pss_cons (ps_if (PW.pt (pw_or (pt_cmpR op_eq (pv 1) (pv 2) (nomark _)) (pw_or (pt_cmpR op_lt_str (pe_ix ix_list (pe_fld (pv 0) rfl) (pe_un un_neg pe_int) (fun _ _ => rfl)) (pv 3) (nomark _))
      (pw_or1 (pt_cmpR op_lt_str (pv 4) (pe_ix ix_list (pe_fld (pv 0) rfl) pe_int (fun _ _ => rfl)) (nomark _)))))) (pss_one (ps_ret pe_int)) pss_nil)
    (pss_cons (ps_if (PW.pt (pw_and (pt_cmpR op_le_str (pv 3) (pe_ix ix_list (pe_fld (pv 0) rfl) pe_int (fun _ _ => rfl)) (nomark _)) (pw_and1 (pt_cmpR op_le_str (pe_ix ix_list (pe_fld (pv 0) rfl) (pe_un un_neg pe_int) (fun _ _ => rfl)) (pv 4) (nomark _)))))
      (pss_one (ps_ret (pe_op op_sub (pv 2) (pv 1)))) pss_nil)
    (pss_cons (ps_set (i := 5) scCounted.nd rfl (Or.inl rfl) pe_int)
    (pss_cons (ps_for PassesOwn.never rfl (pi_enumT (by rfl) T.enumerate (pa_cons (pe_fld (pv 0) rfl) pa_nil)) (pg_tup rfl (pgs_cons (pg_name (i := 6) scCounted.nd rfl (Or.inl rfl)) (pgs_cons (pg_name (i := 7) scCounted.nd rfl (Or.inl rfl)) pgs_nil)))
      (pss_one (ps_aug (i := 5) scCounted.nd rfl (Or.inl rfl) (pe_M IH (pv 7) T.clB hr (pa_cons (pe_M (ok_ahead T) (pv 0) T.clB hr1 (pa_cons (pv 6) (pa_cons (pv 1) pa_nil)))
        (pa_cons (pe_M (ok_ahead T) (pv 0) T.clB hr1 (pa_cons (pv 6) (pa_cons (pv 2) pa_nil))) (pa_cons (pv 3) (pa_cons (pv 4) pa_nil))))) ip_add)))
    (pss_one (ps_ret (pv 5)))))), ?_⟩
  obtain ⟨dx, fs, hd⟩ := hb.hd
  obtain ⟨ls, l1, l2⟩ := hd.le
  obtain ⟨z, zm, za, zr⟩ := last_of (Sh.ls_pos sh)
  obtain ⟨a, am, aa, ar⟩ := head_of (Sh.ls_pos sh)
  have zr := zr ri
  have ar := ar ri
  have tc : ∀ d ∈ cut t be en, d ∈ sh.ls := fun d hd => ht d (cut_mem hd)
  refine ⟨_, rfl, _, rfl, rfl, _, rfl, ite2 (fun e => ?_) (fun e => ?_)⟩
  · have e : be = en := by
      have := of_decide_eq_true e
      injection this with this
      omega
    subst e
    have k := k H (fun _ _ h => h)
    rw [cut_same, btw_nil] at k
    exact iteT k
  refine ⟨_, rfl, b, _, dx, fs, _, rfl, hd.at_, T.clB, T.noB 46 rfl, l1, _, rfl, ls, _, _, _, rfl, rfl, SqL.of l2, za, _, rfl, lt z, lt lo, rfl, rfl, _, rfl, ite2 (fun e => ?_) (fun e => ?_)⟩
  · rw [lt_lv, decide_eq_true_eq] at e
    have k := k H (fun _ _ h => h)
    rw [btw_none (fun d hd => .inl (Nat.lt_of_le_of_lt (zr d (tc d hd)) e))] at k
    exact iteT k
  rw [lt_lv, decide_eq_true_eq] at e
  refine ⟨_, rfl, _, rfl, b, _, dx, fs, _, rfl, hd.at_, T.clB, T.noB 46 rfl, l1, ls, _, _, _, rfl, rfl, SqL.of l2, aa, lt hi, lt a, rfl, rfl, _, rfl, ?_⟩
  rw [lt_lv]
  refine ite2 (fun e2 => ?_) (fun e2 => ?_)
  · rw [decide_eq_true_eq] at e2
    have k := k H (fun _ _ h => h)
    rw [btw_none (fun d hd => .inr (Nat.lt_of_lt_of_le e2 (ar d (tc d hd))))] at k
    exact k
  rw [decide_eq_true_eq] at e2
  have key : ¬ (lo ≤ a ∧ z ≤ hi) → ∃ l r, sh = .node l r := fun hn => by
    cases sh with
    | node l r => exact ⟨l, r, rfl⟩
    | leaf c =>
      have h1 : z = c := List.mem_singleton.mp zm
      have h2 : a = c := List.mem_singleton.mp am
      subst h1
      subst h2
      exact absurd ⟨by omega, by omega⟩ hn
  have loop : ¬ (lo ≤ a ∧ z ≤ hi) → tSeq (tAsg (tC (.int 0)) (gName 5)) (tSeq (tFor (iEnumT K (tCons (tFld K (tVar 0) "sides") tNil)) (gTup K 2 (gCons (gName 6) (gCons (gName 7) gNil)))
      (tAug 5 (tMeth (aB K) "counted" (spCounted K n) [] E0 (tVar 7) (tCons (tMeth (aB K) "ahead" (spAhead K) [] E0 (tVar 0) (tCons (tVar 6) (tCons (tVar 1) tNil))) (tCons (tMeth (aB K) "ahead" (spAhead K) [] E0 (tVar 0) (tCons (tVar 6) (tCons (tVar 2) tNil))) (tCons (tVar 3) (tCons (tVar 4) tNil))))) (ipI fun i j => i + j)))
      (tRet (tVar 5))) { nx := fun _ H' => Q .non H', rt := Q } (start ["self", "begin", "end", "low", "high", "found", "side", "inner"] [.ref b, .int be, .int en, lv lo, lv hi]) H := fun hn => by
    obtain ⟨l, r, rfl⟩ := key hn
    have hb0 := hb
    obtain ⟨dx', fs', os, si, bl, br, hd', h1, h2, h3, h4, h5, h6⟩ := hb
    refine ⟨_, rfl, b, _, dx', fs', _, rfl, hd'.at_, T.clB, T.noB 48 rfl, h3, si, _, rfl, SqT.of h4, ?_⟩
    refine for_it (walk_enumT (K := K) (a := si) (xs := [.ref bl, .ref br])) (fun i σ H' => Same H H' ∧ ∃ x y, σ = [some (.ref b), some (.int be), some (.int en), some (lv lo), some (lv hi),
      some (.int (((if 0 < i then btw lo hi ((cut t be en).filter (sdf r false)) else 0) + (if 1 < i then btw lo hi ((cut t be en).filter (sdf r true)) else 0) : Nat) : Int)), x, y]) ?_ ?_ ?_ ?_
    · exact ⟨fun _ _ h => h, none, none, rfl⟩
    · exact fun i σ H' _ p => SqT.of (p.1 _ _ h4)
    · rintro i v σ H1 H2 hi2 ⟨e1, x, y, rfl⟩ ⟨tp, v1, v2, rfl, hn, rfl, q1, q2⟩
      cases q1
      have e2 := e1.trans (same_new (o := HO.tup [.int (i : Nat), v2]) hn)
      refine ⟨tp, _, rfl, SqT.of upd_same, rfl, _, _, rfl, _, _, rfl, rfl, ?_⟩
      refine ⟨_, rfl, ?_⟩
      have go2 : ∀ (sd : Bool) (bi : Addr) (u : Sh), (i : Int) = (if sd = true then 1 else 0) → v2 = .ref bi → BrAt (aB K) H u bi (t.filter (sdf r sd)) → u.ht ≤ n → Rise u.ls → u.ls.length ≤ 26 → (∀ c ∈ t.filter (sdf r sd), c ∈ u.ls) →
        tMeth (aB K) "counted" (spCounted K n) [] E0 (tVar 7) (tCons (tMeth (aB K) "ahead" (spAhead K) [] E0 (tVar 0) (tCons (tVar 6) (tCons (tVar 1) tNil))) (tCons (tMeth (aB K) "ahead" (spAhead K) [] E0 (tVar 0) (tCons (tVar 6) (tCons (tVar 2) tNil))) (tCons (tVar 3) (tCons (tVar 4) tNil))))
          [some (.ref b), some (.int be), some (.int en), some (lv lo), some (lv hi),
            some (.int (((if 0 < i then btw lo hi ((cut t be en).filter (sdf r false)) else 0) + (if 1 < i then btw lo hi ((cut t be en).filter (sdf r true)) else 0) : Nat) : Int)), some (.int (i : Nat)), some v2]
          (upd H1 tp (.tup [.int (i : Nat), v2])) (fun y H3 => ∃ j : Nat, y = .int (j : Nat) ∧ j = btw lo hi ((cut t be en).filter (sdf r sd)) ∧ Same H H3) := by
        intro sd bi u hsd hv hbr hu1 hu2 hu3 hu4
        subst hv
        have hbr' := hbr.same e2
        obtain ⟨dy, gs, hy⟩ := hbr'.hd
        have hbb := hb0.same e2
        obtain ⟨dz, ks, hz⟩ := hbb.hd
        refine ⟨_, rfl, bi, dy, gs, rfl, hy.at_, hy.m3, ?_⟩
        refine ⟨_, rfl, b, dz, ks, rfl, hz.at_, hz.m2, _, rfl, _, rfl, _, _, _, rfl, b, l, r, t, sd, be, rfl, hbb, congrArg V.int hsd, rfl, by omega, ?_⟩
        refine ⟨_, rfl, b, dz, ks, rfl, hz.at_, hz.m2, _, rfl, _, rfl, _, _, _, rfl, b, l, r, t, sd, en, rfl, hbb, congrArg V.int hsd, rfl, hen, ?_⟩
        refine ⟨_, rfl, _, rfl, _, _, _, _, _, rfl, bi, u, _, _, _, lo, hi, rfl, hbr', hu1, hu2, hu3, hu4, rfl, rfl, cnt_mono hbe, cnt_all, rfl, rfl, fun H' e' => ⟨_, rfl, ?_, e2.trans e'⟩⟩
        rw [cut_filter hbe]
      have h7 : l.ht ≤ n ∧ r.ht ≤ n := by
        have : max l.ht r.ht + 1 ≤ n + 1 := hh
        omega
      have h8 : l.ls.length ≤ 26 ∧ r.ls.length ≤ 26 := by
        have : (Sh.node l r).ls.length = l.ls.length + r.ls.length := List.length_append
        omega
      have mono : ∀ {Q1 Q2 : VK} {σ : L2.St} {H : Hp}, (∀ v H', Q1 v H' → Q2 v H') → tMeth (aB K) "counted" (spCounted K n) [] E0 (tVar 7) (tCons (tMeth (aB K) "ahead" (spAhead K) [] E0 (tVar 0) (tCons (tVar 6) (tCons (tVar 1) tNil))) (tCons (tMeth (aB K) "ahead" (spAhead K) [] E0 (tVar 0) (tCons (tVar 6) (tCons (tVar 2) tNil))) (tCons (tVar 3) (tCons (tVar 4) tNil)))) σ H Q1 → tMeth (aB K) "counted" (spCounted K n) [] E0 (tVar 7) (tCons (tMeth (aB K) "ahead" (spAhead K) [] E0 (tVar 0) (tCons (tVar 6) (tCons (tVar 1) tNil))) (tCons (tMeth (aB K) "ahead" (spAhead K) [] E0 (tVar 0) (tCons (tVar 6) (tCons (tVar 2) tNil))) (tCons (tVar 3) (tCons (tVar 4) tNil)))) σ H Q2 := by
        rintro Q1 Q2 σ H hQ ⟨v1, g1, a1, d1, f1, g2, g3, g4, v2, g5, a2, d2, f2, g6, g7, g8, v3, g9, v4, g10, c1, c2, c3, g11, b1, l1, r1, t1, sd1, p1, g12, g13, g14, g15, g16, v5, g17, a3, d3, f3, g18, g19, g20, v6, g21, v7, g22, c4, c5, c6, g23, b2, l2, r2, t2, sd2, p2, g24, g25, g26, g27, g28,
          v8, g29, v9, g30, c7, c8, c9, c10, c11, g31, b3, s3, t3, be3, en3, lo3, hi3, g32, g33, g34, g35, g36, g37, g38, g39, g40, g41, g42, g43, g44⟩
        exact ⟨v1, g1, a1, d1, f1, g2, g3, g4, v2, g5, a2, d2, f2, g6, g7, g8, v3, g9, v4, g10, c1, c2, c3, g11, b1, l1, r1, t1, sd1, p1, g12, g13, g14, g15, g16, v5, g17, a3, d3, f3, g18, g19, g20, v6, g21, v7, g22, c4, c5, c6, g23, b2, l2, r2, t2, sd2, p2, g24, g25, g26, g27, g28,
          v8, g29, v9, g30, c7, c8, c9, c10, c11, g31, b3, s3, t3, be3, en3, lo3, hi3, g32, g33, g34, g35, g36, g37, g38, g39, g40, g41, g42, g43, fun H' e => hQ _ _ (g44 H' e)⟩
      have hi2 : i < 2 := hi2
      rcases (by omega : i = 0 ∨ i = 1) with rfl | rfl
      · refine mono ?_ (go2 false bl l rfl (Option.some.inj q2).symm h5 h7.1 (rise_l ri) h8.1 (left_all ht))
        rintro v H3 ⟨j, rfl, rfl, e3⟩
        refine ⟨_, _, rfl, rfl, e3, some (.int ((0 : Nat) : Int)), some v2, ?_⟩
        simp [List.set]
      · refine mono ?_ (go2 true br r rfl (Option.some.inj q2).symm h6 h7.2 (rise_r ri) h8.2 (right_all ht))
        rintro v H3 ⟨j, rfl, rfl, e3⟩
        refine ⟨_, _, rfl, rfl, e3, some (.int ((1 : Nat) : Int)), some v2, ?_⟩
        simp [List.set]
    · rintro σ H' ⟨e1, x, y, rfl⟩
      refine ⟨_, rfl, ?_⟩
      have k := k H' e1
      rw [btw_parts (rg r)] at k
      exact k
  refine ⟨_, rfl, _, rfl, b, _, dx, fs, _, rfl, hd.at_, T.clB, T.noB 46 rfl, l1, ls, _, _, _, rfl, rfl, SqL.of l2, aa, lt lo, lt a, rfl, rfl, _, rfl, ?_⟩
  rw [lt_lv]
  refine ite2 (fun e3 => ?_) (fun e3 => ?_)
  · refine ⟨_, rfl, b, _, dx, fs, _, rfl, hd.at_, T.clB, T.noB 46 rfl, l1, _, rfl, ls, _, _, _, rfl, rfl, SqL.of l2, za, _, rfl, lt z, lt hi, rfl, rfl, _, rfl, ?_⟩
    rw [lt_lv]
    have e3 : lo ≤ a := by
      rw [Bool.not_eq_true', decide_eq_false_iff_not] at e3
      omega
    refine ite2 (fun e4 => ?_) (fun e4 => ?_)
    · have e4 : z ≤ hi := by
        rw [Bool.not_eq_true', decide_eq_false_iff_not] at e4
        omega
      have k := k H (fun _ _ h => h)
      rw [btw_all (fun d hd => ⟨Nat.le_trans e3 (ar d (tc d hd)), Nat.le_trans (zr d (tc d hd)) e4⟩), cut_len hbe hen, Int.ofNat_sub hbe] at k
      exact ⟨_, rfl, _, rfl, _, _, rfl, rfl, k⟩
    · refine loop fun hn => e4 ?_
      rw [Bool.not_eq_true', decide_eq_false_iff_not]
      omega
  · refine loop fun hn => e3 ?_
    rw [Bool.not_eq_true', decide_eq_false_iff_not]
    omega
theorem ok_counted (T : Txt K mg) : ∀ n, MOk P w K mg base (aB K) "counted" ["self", "begin", "end", "low", "high"] (n + 2) (spCounted K n)
  | 0 => ok_counted0 T
  | n + 1 => ok_countedS T (ok_counted T n)
end
end Tix
set_option Elab.async false
set_option linter.all false
set_option maxRecDepth 100000
set_option maxHeartbeats 4000000
/-! A heap without one place; fields; the lists of a branch's making. -/
namespace Tix
open PySem PySem.Spec PyProof.Rows L2
/-- the heap without what stands at the places q -/
def cutO (q : List Addr) (H : Hp) : Hp := fun a => if a ∈ q then none else H a
theorem cut_get {q : List Addr} {H : Hp} {a : Addr} {o : HO} (n : a ∉ q) (h : H a = some o) : cutO q H a = some o := by
  unfold cutO
  rw [if_neg n]
  exact h
theorem cut_sub {q : List Addr} {H : Hp} : Same (cutO q H) H := fun a o h => by
  unfold cutO at h
  by_cases e : a ∈ q
  · rw [if_pos e] at h
    cases h
  · rw [if_neg e] at h
    exact h
theorem cut_ne {q : List Addr} {H : Hp} {a : Addr} {o : HO} (h : cutO q H a = some o) : a ∉ q := fun e => by
  unfold cutO at h
  rw [if_pos e] at h
  cases h
theorem cut_keep {q : List Addr} {p : Addr} {H H' : Hp} (e : Keep p H H') : Keep p (cutO q H) (cutO q H') := fun a o n h => cut_get (cut_ne h) (e a o n (cut_sub _ _ h))
theorem cutS {q : List Addr} {H H' : Hp} (e : Same H H') : Same (cutO q H) (cutO q H') := fun a o h => cut_get (cut_ne h) (e a o (cut_sub _ _ h))
theorem cut_well {q : List Addr} {p : Addr} {H H' : Hp} (hp : p ∈ q) (e : Keep p H H') : Same (cutO q H) (cutO q H') := fun a o h => cut_get (cut_ne h) (e a o (fun n => cut_ne h (n ▸ hp)) (cut_sub _ _ h))
theorem cut_less {q : List Addr} {p : Addr} {H : Hp} : Same (cutO (p :: q) H) (cutO q H) := fun a o h => cut_get (fun n => cut_ne h (List.mem_cons_of_mem _ n)) (cut_sub _ _ h)
theorem cut_tups {q : List Addr} {p : Addr} {H : Hp} (h : ∀ xs, H p ≠ some (.tup xs)) : Tups (cutO q H) (cutO (p :: q) H) := fun a xs ha => by
  have h1 := cut_sub _ _ ha
  refine cut_get (fun n => ?_) h1
  rcases List.mem_cons.mp n with rfl | n
  · exact h _ h1
  · exact cut_ne ha n
/-- the places left out are taken -/
def Held (q : List Addr) (H : Hp) : Prop := ∀ a ∈ q, H a ≠ none
theorem Held.new {q : List Addr} {H : Hp} {a : Addr} (h : Held q H) (n : H a = none) : a ∉ q := fun e => h a e n
theorem Held.same {q : List Addr} {H H' : Hp} (h : Held q H) (e : Same H H') : Held q H' := fun a ha hn => by
  have h1 := h a ha
  cases e1 : H a with
  | none => exact h1 e1
  | some o =>
    rw [e _ _ e1] at hn
    cases hn
theorem Held.upd' {q : List Addr} {H : Hp} {p : Addr} {o : HO} (h : Held q H) : Held q (upd H p o) := fun a ha hn => by
  by_cases e : a = p
  · subst e
    rw [upd_same] at hn
    cases hn
  · rw [upd_ne e] at hn
    exact h a ha hn
theorem Held.keep {q : List Addr} {p : Addr} {H H' : Hp} {o : HO} (h : Held q H) (e : Keep p H H') (hp : H' p = some o) : Held q H' := fun a ha hn => by
  by_cases n : a = p
  · subst n
    rw [hp] at hn
    cases hn
  · have h1 := h a ha
    cases e1 : H a with
    | none => exact h1 e1
    | some o =>
      rw [e _ _ n e1] at hn
      cases hn
theorem Held.cons {q : List Addr} {p : Addr} {H : Hp} {o : HO} (h : Held q H) (hp : H p = some o) : Held (p :: q) H := fun a ha hn => by
  rcases List.mem_cons.mp ha with rfl | ha
  · rw [hp] at hn
    cases hn
  · exact h a ha hn
theorem make_same {H H' : Hp} {x dx : Addr} {o o' : HO} (hx : H x = none) (hd : H dx = none) (e : Keep x (upd (upd H dx o) x o') H') : Same H H' := fun a u h => by
  refine e a u (ne_of_none h hx) ?_
  rw [upd_ne (ne_of_none h hx), upd_ne (ne_of_none h hd)]
  exact h
theorem keep_mut {p a : Addr} {H H' : Hp} {o : HO} (e : Keep p H H') (h : H a = none) : Keep p H (upd H' a o) := fun b u n q => by
  rw [upd_ne (ne_of_none q h)]
  exact e b u n q
theorem keep_same {p : Addr} {H H1 H2 : Hp} (e : Keep p H H1) (f : Same H1 H2) : Keep p H H2 := fun a o n h => f _ _ (e a o n h)
/-! ### fields -/
theorem lk_hit {f : Str} {v : V} {fs : List (Str × V)} : (putF f v fs).lookup f = some v := by rw [lookup_putF, if_pos rfl]
theorem lk_miss {f g : Str} {v : V} {fs : List (Str × V)} {o : Option V} (h : ¬ g = f) (e : fs.lookup g = o) : (putF f v fs).lookup g = o := by rw [lookup_putF, if_neg h, e]
theorem putF_le (f : Str) (v : V) : ∀ fs : List (Str × V), (putF f v fs).length ≤ fs.length + 1
  | [] => Nat.le_refl _
  | (g, x) :: r => by
    show (if g = f then (g, v) :: r else (g, x) :: putF f v r).length ≤ _
    by_cases h : g = f
    · rw [if_pos h]
      exact Nat.le_succ _
    · rw [if_neg h, List.length_cons, List.length_cons]
      exact Nat.succ_le_succ (putF_le f v r)
theorem putF_few {f : Str} {v : V} {fs : List (Str × V)} {k : Nat} (h : fs.length ≤ k) : (putF f v fs).length ≤ k + 1 := Nat.le_trans (putF_le f v fs) (Nat.succ_le_succ h)
/-- what __init__ has stored: the first one, two, three, four -/
abbrev F1 (z : V) : List (Str × V) := putF "shape" z []
abbrev F2 (z l : V) : List (Str × V) := putF "letters" l (F1 z)
abbrev F3 (z l m : V) : List (Str × V) := putF "many" m (F2 z l)
abbrev F4 (z l m e : V) : List (Str × V) := putF "sides" e (F3 z l m)
abbrev F5 (z l m e b : V) : List (Str × V) := putF "bits" b (F4 z l m e)
abbrev F6 (z l m e b o : V) : List (Str × V) := putF "ones" o (F5 z l m e b)
abbrev F7 (z l m e b o d : V) : List (Str × V) := putF "sides" d (F6 z l m e b o)
section
variable {z l m e b o d : V} {g : Str}
theorem F1_few : (F1 z).length ≤ 1 := putF_few (Nat.le_refl 0)
theorem F2_few : (F2 z l).length ≤ 2 := putF_few F1_few
theorem F3_few : (F3 z l m).length ≤ 3 := putF_few F2_few
theorem F4_few : (F4 z l m e).length ≤ 4 := putF_few F3_few
theorem F5_few : (F5 z l m e b).length ≤ 5 := putF_few F4_few
theorem F6_few : (F6 z l m e b o).length ≤ 6 := putF_few F5_few
theorem few {n k : Nat} (h : n ≤ k) (hk : k < 1000) : n < 1000 := Nat.lt_of_le_of_lt h hk
theorem F4_none (h1 : ¬ g = "shape") (h2 : ¬ g = "letters") (h3 : ¬ g = "many") (h4 : ¬ g = "sides") : (F4 z l m e).lookup g = none := lk_miss h4 (lk_miss h3 (lk_miss h2 (lk_miss h1 rfl)))
theorem F4_shape : (F4 z l m e).lookup ("shape" : Str) = some z := lk_miss (by decide +kernel) (lk_miss (by decide +kernel) (lk_miss (by decide +kernel) lk_hit))
theorem F4_letters : (F4 z l m e).lookup ("letters" : Str) = some l := lk_miss (by decide +kernel) (lk_miss (by decide +kernel) lk_hit)
theorem F5_bits : (F5 z l m e b).lookup ("bits" : Str) = some b := lk_hit
theorem F6_bits : (F6 z l m e b o).lookup ("bits" : Str) = some b := lk_miss (by decide +kernel) lk_hit
theorem F6_ones : (F6 z l m e b o).lookup ("ones" : Str) = some o := lk_hit
theorem F6_shape : (F6 z l m e b o).lookup ("shape" : Str) = some z := lk_miss (by decide +kernel) (lk_miss (by decide +kernel) F4_shape)
theorem F7_none (h1 : ¬ g = "shape") (h2 : ¬ g = "letters") (h3 : ¬ g = "many") (h4 : ¬ g = "sides") (h5 : ¬ g = "bits") (h6 : ¬ g = "ones") : (F7 z l m e b o d).lookup g = none := lk_miss h4 (lk_miss h6 (lk_miss h5 (F4_none h1 h2 h3 h4)))
theorem F7_shape : (F7 z l m e b o d).lookup ("shape" : Str) = some z := lk_miss (by decide +kernel) F6_shape
theorem F7_letters : (F7 z l m e b o d).lookup ("letters" : Str) = some l := lk_miss (by decide +kernel) (lk_miss (by decide +kernel) (lk_miss (by decide +kernel) F4_letters))
theorem F7_ones : (F7 z l m e b o d).lookup ("ones" : Str) = some o := lk_miss (by decide +kernel) lk_hit
theorem F7_sides : (F7 z l m e b o d).lookup ("sides" : Str) = some d := lk_hit
end
/-! ### a branch's lists -/
def bitsOf (r : Sh) (t : List Nat) : List V := t.map fun c => .int (if rg r c = true then 1 else 0)
theorem last_map {α : Type} {f : Nat → α} {n : Nat} (hn : n + 1 ≤ 100000) : atI ((List.range (n + 1)).map f) (-1) = some (f n) := by
  unfold atI
  have e : ixN ((List.range (n + 1)).map f).length (-1) = some n := by
    unfold ixN
    rw [List.length_map, List.length_range]
    simp
    omega
  rw [e]
  show ((List.range (n + 1)).map f)[n]? = _
  rw [List.getElem?_map, List.getElem?_range (by omega)]
  rfl
theorem ones_more {r : Sh} {t : List Nat} {i : Nat} : ((List.range (i + 1)).map fun j => V.int (cnt (rg r) t j : Nat)) ++ [.int (cnt (rg r) t (i + 1) : Nat)] = (List.range (i + 1 + 1)).map fun j => V.int (cnt (rg r) t j : Nat) := by
  rw [List.range_succ (n := i + 1), List.map_append]
  rfl
theorem take_more {α : Type} {l : List α} {i : Nat} {x : α} (h : l[i]? = some x) : l.take (i + 1) = l.take i ++ [x] := by
  rw [List.take_add_one, h]
  rfl
theorem singles : ∀ m : List Nat, (m.map fun c => [c]).flatten = m
  | [] => rfl
  | c :: m => by
    rw [List.map_cons, List.flatten_cons, singles m]
    rfl
theorem join_lv (m : List Nat) : Txt.join (tx []) (m.map lt) = tx m := by
  have e : m.map lt = (m.map fun c => [c]).map tx := by
    rw [List.map_map]
    rfl
  rw [e, join_empty, singles]
theorem lens_lv (m : List Nat) : ((m.map lt).map (·.length)).sum = m.length := by
  induction m with
  | nil => rfl
  | cons c m ih =>
    show (1 : Nat) + ((m.map lt).map (·.length)).sum = m.length + 1
    rw [ih]
    omega
theorem in_lv_dec {c : Nat} {l : List Nat} : inV (lv c) (l.map lv) = decide (c ∈ l) := by
  by_cases h : c ∈ l
  · rw [in_lv h, decide_eq_true h]
  · rw [inV_lv h, decide_eq_false h]
theorem map_lv_str (m : List Nat) : m.map lv = (m.map lt).map V.str := by
  rw [List.map_map]
  rfl
end Tix
set_option Elab.async false
set_option linter.all false
set_option maxRecDepth 100000
set_option maxHeartbeats 4000000
/-! Branch.__init__. -/
namespace Tix
open PySem PySem.Spec PyProof.Rows L2
section
variable {P : Program} {w : World} {K : PySem.W.Frag} {mg : Str → Option Value} {base : Heap}
def spBInit (K : PySem.W.Frag) (n : Nat) : Sp := sp3 fun x y z H Q => ∃ p dx s t, ∃ q : List Addr, x = .ref p ∧ H p = some (.ins (aB K) dx []) ∧ y = tv t ∧ Held q H ∧ p ∉ q ∧ ShapeV (cutO q H) z s ∧ s.ht ≤ n ∧ Fine s ∧ t.length ≤ 1000 ∧
  ∀ H', Keep p H H' → BrAt (aB K) (cutO q H') s p t → Q .non H'
abbrev nBInit : List Str := ["self", "text", "shape", "right", "bit", "parts", "sign", "side"]
theorem scBInit : FnScope nBInit ["self", "text", "shape"] (defScope sBInit) := ⟨rfl, rfl, rfl, by decide +kernel, rfl, by decide +kernel, by decide +kernel⟩
theorem ok_bInit0 (T : Txt K mg) : IOk P w K mg base "Branch" (aB K) ["self", "text", "shape"] 3 (spBInit K 0) := by
  refine IOk.ofB (q := "Branch.__init__") (st := sBInit) (k := 2) T 9 rfl scBInit (fun _ _ _ _ _ _ us hl => match us, hl with | [_, _, _], _ => rfl) len3 fun cdv A outer s H vs Q E hr h => ?_
  obtain ⟨_, _, _, rfl, p, dx, sh, t, q, rfl, hp, rfl, hh, hq, hv, h0, ⟨al, nd, hl⟩, ht, k⟩ := h
  refine ⟨_, pss_cons (ps_fld (pv 0) (pv 2) rfl)
    (pss_cons (ps_fld (pv 0) (pe_D (ok_letters T) hr (by rfl) (pa_cons (pv 2) pa_nil)) rfl)
    (pss_cons (ps_fld (pv 0) (pe_callB call_len_str (by rfl) T.len boot_len (pa_cons (pv 1) pa_nil)) rfl)
    (pss_cons (ps_fld (pv 0) (pe_tup pa_nil) rfl)
    (pss_one (ps_if (pt_not (pt_val (pe_M0 (ok_isEnd T) (pv 0) T.clB (hr.mono (by decide))))) pss_never pss_nil))))), ?_⟩
  cases sh with
  | node l r => exact absurd h0 (Nat.not_succ_le_zero _)
  | leaf c =>
    cases (show _ = lv c from hv)
    refine ⟨_, rfl, _, rfl, p, _, dx, _, rfl, hp, T.clB, T.noB 45 rfl, by decide, ?_⟩
    refine ⟨_, rfl, _, rfl, .leaf c, rfl, ⟨al, nd, hl⟩, fun H1 ls e1 n1 q1 => ?_⟩
    have e1p := e1 _ _ upd_same
    refine ⟨_, rfl, p, _, dx, _, rfl, e1p, T.clB, T.noB 46 rfl, few F1_few (by decide), ?_⟩
    refine ⟨_, rfl, tx t, rfl, size_tx ht, ?_⟩
    refine ⟨_, rfl, p, _, dx, _, rfl, upd_same, T.clB, T.noB 47 rfl, few F2_few (by decide), ?_⟩
    refine ⟨Nat.zero_le _, fun e0 he0 => ?_⟩
    refine ⟨_, rfl, p, _, dx, _, rfl, (same_new he0) _ _ upd_same, T.clB, T.noB 48 rfl, few F3_few (by decide), ?_⟩
    have hlp : ls ≠ p := fun e => by
      rw [e, upd_same] at n1
      cases n1
    have k2 : Keep p H H1 := keep_same (keep_upd Keep.rfl') e1
    have k5 := keep_upd (o := .ins (aB K) dx (F4 (lv c) (.ref ls) (.int (tx t).length) (.ref e0))) (keep_same (keep_upd (o := .ins (aB K) dx (F3 (lv c) (.ref ls) (.int (tx t).length))) (keep_upd (o := .ins (aB K) dx (F2 (lv c) (.ref ls))) k2)) (same_new (o := .tup []) he0))
    refine ⟨_, rfl, p, dx, _, rfl, upd_same, F4_none (by decide +kernel) (by decide +kernel) (by decide +kernel) (by decide +kernel), _, rfl, p, dx, _, lv c, .leaf c, rfl, upd_same, F4_shape, rfl, true, rfl, iteF ?_⟩
    refine k _ k5 ⟨dx, _, cut_get hq upd_same, F4_none (by decide +kernel) (by decide +kernel) (by decide +kernel) (by decide +kernel), F4_none (by decide +kernel) (by decide +kernel) (by decide +kernel) (by decide +kernel), F4_none (by decide +kernel) (by decide +kernel) (by decide +kernel) (by decide +kernel),
      ⟨lv c, F4_shape, rfl⟩, ⟨ls, F4_letters, cut_get (Held.new hh ?_) ?_⟩⟩
    · rw [upd_ne hlp] at n1
      exact n1
    · rw [upd_ne hlp, (same_new he0) ls _ (by rw [upd_ne hlp, upd_ne hlp]; exact q1)]
end
end Tix
set_option Elab.async false
set_option linter.all false
set_option maxRecDepth 100000
set_option maxHeartbeats 4000000
/-! Branch.__init__ of a shape with sides. -/
namespace Tix
open PySem PySem.Spec PyProof.Rows L2
theorem fine_l {l r : Sh} (h : Fine (.node l r)) : Fine l := ⟨h.1.of fun c hc => mem_node.mpr (.inl hc), nodup_l h.2.1, by
  have : (Sh.node l r).ls.length = l.ls.length + r.ls.length := List.length_append
  have := h.2.2
  omega⟩
theorem fine_r {l r : Sh} (h : Fine (.node l r)) : Fine r := ⟨h.1.of fun c hc => mem_node.mpr (.inr hc), nodup_r h.2.1, by
  have : (Sh.node l r).ls.length = l.ls.length + r.ls.length := List.length_append
  have := h.2.2
  omega⟩
theorem bits_take {r : Sh} {t : List Nat} {i c : Nat} (h : t[i]? = some c) : (bitsOf r t).take (i + 1) = (bitsOf r t).take i ++ [.int (if rg r c = true then 1 else 0)] := by
  refine take_more ?_
  unfold bitsOf
  rw [List.getElem?_map, h]
  rfl
theorem filt_take {f : Nat → Bool} {t : List Nat} {i c : Nat} (h : t[i]? = some c) : (t.take (i + 1)).filter f = (t.take i).filter f ++ (if f c = true then [c] else []) := by
  rw [take_more h, List.filter_append]
  cases e : f c <;> simp [e]
theorem tx_get {t : List Nat} {i c : Nat} (h : (tx t).cps[i]? = some c) : t[i]? = some c := by
  have e : (tx t).cps[i]? = (tx t).cps.toList[i]? := by simp
  rw [e, tx_list] at h
  exact h
theorem tx_size {t : List Nat} : (tx t).cps.size = t.length := by simp [tx]
def rJoinK (K : PySem.W.Frag) : V → List V → Hp → VK → Prop := fun x xs H Q => ∃ a p, ∃ ys : List Str, x = .str a ∧ xs = [.ref p] ∧ (SqL K H p (ys.map V.str) ∨ SqT K H p (ys.map V.str)) ∧
      (ys.map (·.length)).sum + ys.length * a.length ≤ 16777216 ∧ Q (.str (Txt.join a ys)) H
theorem pe_joinK {X : Cx} {K : PySem.W.Frag} {o e : Expr} {to te : TE} {apos pos : Pos} (hK : X.K = K) (ho : PE X o to) (he : PE X e te) (hs : starEach [e] X.env = [(false, eval e X.env)] := by rfl) (hbase : attributeBase o "join" X.env (eval o X.env) = eval o X.env := by rfl) (hline : (apos.endLine == pos.line) = true := by rfl) :
    PE X (.Call (.Attribute o "join" apos) [e] [] pos) (tM1 (rJoinK K) to te) := by
  subst hK
  exact pe_join ho he hs hbase hline
theorem op_in_seqK {X : Cx} {K : PySem.W.Frag} (hK : X.K = K) : OpR X (compareOp .In) (rIn K false) := by
  subst hK
  exact op_in_seq
section
variable {P : Program} {w : World} {K : PySem.W.Frag} {mg : Str → Option Value} {base : Heap}
theorem ok_bInitS (T : Txt K mg) {n j : Nat} (hj : 2 ≤ j) (IH : IOk P w K mg base "Branch" (aB K) ["self", "text", "shape"] j (spBInit K n)) :
    IOk P w K mg base "Branch" (aB K) ["self", "text", "shape"] (j + 2) (spBInit K (n + 1)) := by
  refine IOk.ofB (q := "Branch.__init__") (st := sBInit) (k := j + 1) T 9 rfl scBInit (fun _ _ _ _ _ _ us hl => match us, hl with | [_, _, _], _ => rfl) len3 fun cdv A outer s H vs Q E hr h => ?_
  obtain ⟨_, _, z, rfl, p, dx, sh, t, q, rfl, hp, rfl, hh, hq, hv, h0, hF, ht, k⟩ := h
  have nd := scBInit.nd
  refine ⟨_, pss_cons (ps_fld (pv 0) (pv 2) rfl)
    (pss_cons (ps_fld (pv 0) (pe_D (ok_letters T) (hr.mono (by omega)) (by rfl) (pa_cons (pv 2) pa_nil)) rfl)
    (pss_cons (ps_fld (pv 0) (pe_callB call_len_str (by rfl) T.len boot_len (pa_cons (pv 1) pa_nil)) rfl)
    (pss_cons (ps_fld (pv 0) (pe_tup pa_nil) rfl)
    (pss_one (ps_if (pt_not (pt_val (pe_M0 (ok_isEnd T) (pv 0) T.clB (hr.mono (by omega)))))
      (pss_cons (ps_set (i := 3) nd rfl (Or.inr rfl) (pe_D (ok_letters T) (hr.mono (by omega)) (by rfl) (pa_cons (pe_ix ix_tup (pv 2) pe_int (fun _ _ => rfl)) pa_nil)))
      (pss_cons (ps_fld (pv 0) (pe_lc (own := [("sign", 6)]) (g := gName 6) (tt := tYes) rfl nd (pi_str (pv 1)) (blkOk_by (N := nBInit) (sc := defScope sBInit) (by decide +kernel))
        (fun _ _ _ _ _ => pg_name (i := 6) nd rfl (Or.inl rfl)) (fun _ _ _ _ _ => pts_nil)
        (fun _ _ _ _ _ => pe_callTy call_int1 (by rfl) T.int boot_intT (pa_cons (pe_cmpR (op_in_seqK (K := K) rfl) (pv 6) (pv 3) rfl) pa_nil))) rfl)
      (pss_cons (ps_fld (pv 0) (pe_lst (pa_cons pe_int pa_nil)) rfl)
      (pss_cons (ps_for PassesOwn.never rfl (pi_list (pe_fld (pv 0) rfl)) (pg_name (i := 4) nd rfl (Or.inl rfl))
        (pss_one (ps_expr (pe_bm PySem.F.plainAttrs_list PySem.F.slot_list_append PySem.F.type_list_append mt_append (pe_fld (pv 0) rfl)
          (pa_cons (pe_op op_add (pe_ix ix_list (pe_fld (pv 0) rfl) (pe_un un_neg pe_int) (fun _ _ => rfl)) (pv 4)) pa_nil)))))
      (pss_cons (ps_setLc (i := 5) (own := [("side", 7)]) (g := gName 7) (tt := tYes) rfl nd rfl rfl (sw_true rfl rfl rfl (by decide +kernel)) (pi_tup (pe_tup (pa_cons pe_bl (pa_cons pe_bl pa_nil))))
        (blkOk_by (N := nBInit) (sc := defScope sBInit) (by decide +kernel))
        (fun _ _ _ _ _ => pg_name (i := 7) nd rfl (Or.inr rfl)) (fun _ _ _ _ _ => pts_nil)
        (fun _ _ _ _ _ => pe_joinK (K := K) rfl pe_str (pe_lc (own := [("sign", 6)]) (g := gName 6) rfl nd (pi_str (pv 1)) (blkOk_by (N := nBInit) (by kernel_rfl))
          (fun _ _ _ _ _ => pg_name (i := 6) nd rfl (Or.inl rfl)) (fun _ _ _ _ _ => pts_one (pt_cmpR op_eq (pe_cmpR (op_in_seqK (K := K) rfl) (pv 6) (pv 3) rfl) (pv 7) (nomark _)))
          (fun _ _ _ _ _ => pv 6))))
      (pss_one (ps_fld (pv 0) (pe_tup (pa_cons (pe_I IH hr (by rfl) (pa_cons (pe_ix ix_list (pv 5) pe_int (fun _ _ => rfl)) (pa_cons (pe_ix ix_tup (pv 2) pe_int (fun _ _ => rfl)) pa_nil)))
        (pa_cons (pe_I IH hr (by rfl) (pa_cons (pe_ix ix_list (pv 5) pe_int (fun _ _ => rfl)) (pa_cons (pe_ix ix_tup (pv 2) pe_int (fun _ _ => rfl)) pa_nil))) pa_nil))) rfl))))))) pss_nil))))), ?_⟩
  have k2 : ∀ {H1 : Hp}, Same (upd H p (.ins (aB K) dx (F1 z))) H1 → Keep p H H1 := fun {H1} e1 => keep_same (keep_upd Keep.rfl') e1
  have e0t : Tups (cutO q H) (upd H p (.ins (aB K) dx (F1 z))) := fun b xs hb => by
    have hb := cut_sub _ _ hb
    rw [upd_ne (ne_of hb hp (by intro z; cases z))]
    exact hb
  have hv1 := hv.tups e0t
  refine ⟨_, rfl, _, rfl, p, _, dx, _, rfl, hp, T.clB, T.noB 45 rfl, by decide, ?_⟩
  refine ⟨_, rfl, _, rfl, sh, hv1, hF, fun H1 ls e1 n1 q1 => ?_⟩
  have e1p := e1 _ _ upd_same
  refine ⟨_, rfl, p, _, dx, _, rfl, e1p, T.clB, T.noB 46 rfl, few F1_few (by decide), ?_⟩
  refine ⟨_, rfl, tx t, rfl, size_tx ht, ?_⟩
  refine ⟨_, rfl, p, _, dx, _, rfl, upd_same, T.clB, T.noB 47 rfl, few F2_few (by decide), ?_⟩
  refine ⟨Nat.zero_le _, fun e0 he0 => ?_⟩
  refine ⟨_, rfl, p, _, dx, _, rfl, (same_new he0) _ _ upd_same, T.clB, T.noB 48 rfl, few F3_few (by decide), ?_⟩
  have hlp : ls ≠ p := fun e => by
    rw [e, upd_same] at n1
    cases n1
  have nls : ls ∉ q := by
    rw [upd_ne hlp] at n1
    exact hh.new n1
  have k4 := keep_upd (o := .ins (aB K) dx (F4 z (.ref ls) (.int (tx t).length) (.ref e0))) (keep_same (keep_upd (o := .ins (aB K) dx (F3 z (.ref ls) (.int (tx t).length))) (keep_upd (o := .ins (aB K) dx (F2 z (.ref ls))) (k2 e1))) (same_new (o := .tup []) he0))
  have hp4 : (upd (upd (upd (upd H1 p (.ins (aB K) dx (F2 z (.ref ls)))) p (.ins (aB K) dx (F3 z (.ref ls) (.int (tx t).length)))) e0 (.tup [])) p (.ins (aB K) dx (F4 z (.ref ls) (.int (tx t).length) (.ref e0)))) p = _ := upd_same
  have ls4 : (upd (upd (upd (upd H1 p (.ins (aB K) dx (F2 z (.ref ls)))) p (.ins (aB K) dx (F3 z (.ref ls) (.int (tx t).length)))) e0 (.tup [])) p (.ins (aB K) dx (F4 z (.ref ls) (.int (tx t).length) (.ref e0)))) ls = some (.lst (sh.ls.map lv)) := by
    rw [upd_ne hlp, (same_new he0) ls _ (by rw [upd_ne hlp, upd_ne hlp]; exact q1)]
  generalize (upd (upd (upd (upd H1 p (.ins (aB K) dx (F2 z (.ref ls)))) p (.ins (aB K) dx (F3 z (.ref ls) (.int (tx t).length)))) e0 (.tup [])) p (.ins (aB K) dx (F4 z (.ref ls) (.int (tx t).length) (.ref e0)))) = H4 at *
  have hv4 : Tups (cutO q H) H4 := fun b xs hb => k4 b _ (ne_of (cut_sub _ _ hb) hp (by intro z; cases z)) (cut_sub _ _ hb)
  have hvs := hv.tups hv4
  refine ⟨_, rfl, p, dx, _, rfl, hp4, F4_none (by decide +kernel) (by decide +kernel) (by decide +kernel) (by decide +kernel), _, rfl, p, dx, _, _, sh, rfl, hp4, F4_shape, hvs, ?_⟩
  cases sh with
  | leaf c =>
    refine ⟨true, rfl, iteF ?_⟩
    exact k _ k4 ⟨dx, _, cut_get hq hp4, F4_none (by decide +kernel) (by decide +kernel) (by decide +kernel) (by decide +kernel), F4_none (by decide +kernel) (by decide +kernel) (by decide +kernel) (by decide +kernel), F4_none (by decide +kernel) (by decide +kernel) (by decide +kernel) (by decide +kernel),
      ⟨_, F4_shape, hv⟩, ⟨ls, F4_letters, cut_get nls ls4⟩⟩
  | node l r =>
    refine ⟨false, rfl, iteT ?_⟩
    obtain ⟨va, vl, vr, rfl, hva, hvl, hvr⟩ := hv
    have hva4 := hv4 _ _ hva
    have hvl4 := hvl.tups hv4
    have hvr4 := hvr.tups hv4
    refine ⟨_, rfl, va, _, _, _, rfl, rfl, SqT.of hva4, atI_nat (j := 1) rfl, _, rfl, r, hvr4, fine_r hF, fun H5 rl e5 n5 r5 => ?_⟩
    have k5 := keep_same k4 e5
    have hp5 := e5 _ _ hp4
    have ls5 := e5 _ _ ls4
    refine ⟨_, rfl, tx t, rfl, fun D hD => ?_⟩
    refine lc_pl walk_str (fun i H' => Same H5 H' ∧ H' D = some (.lst ((bitsOf r t).take i))) ⟨same_new hD, upd_same⟩ (fun _ _ _ _ => True.intro) ?_ ?_
    · rintro i x Ha Hb hi ⟨s1, d1⟩ ⟨rfl, c, hc, rfl⟩
      refine ⟨rfl, ?_⟩
      refine ⟨_, rfl, _, rfl, rl, _, rfl, .inl (SqL.of (s1 _ _ r5)), rfl, flat_lv, .inr ⟨_, rfl, _, d1, ?_, same_mut s1 hD, ?_⟩⟩
      · refine small1000 ?_
        rw [List.length_take]
        unfold bitsOf
        rw [List.length_map]
        omega
      · rw [upd_same, bits_take (tx_get hc)]
        have e : inV (lv c) (r.ls.map lv) = rg r c := in_lv_dec
        show some (HO.lst (_ ++ [V.int (if inV (lv c) (r.ls.map lv) = true then 1 else 0)])) = _
        rw [e]
    rintro H6 ⟨e6, d6⟩
    have d6 : H6 D = some (.lst (bitsOf r t)) := by
      rw [d6, tx_size, List.take_of_length_le]
      unfold bitsOf
      rw [List.length_map]
      exact Nat.le_refl _
    have hp6 := e6 _ _ hp5
    have ls6 := e6 _ _ ls5
    have r6 := e6 _ _ r5
    have k6 := keep_same k5 e6
    refine ⟨_, rfl, p, _, dx, _, rfl, hp6, T.clB, T.noB 49 rfl, few F4_few (by decide), ?_⟩
    have nDp : D ≠ p := ne_of d6 hp6 (by intro z; cases z)
    have nrp : rl ≠ p := ne_of r6 hp6 (by intro z; cases z)
    have k7 := keep_upd (o := .ins (aB K) dx (F5 (.ref va) (.ref ls) (.int (tx t).length) (.ref e0) (.ref D))) k6
    have hp7 : (upd H6 p (.ins (aB K) dx (F5 (.ref va) (.ref ls) (.int (tx t).length) (.ref e0) (.ref D)))) p = _ := upd_same
    have d7 : (upd H6 p (.ins (aB K) dx (F5 (.ref va) (.ref ls) (.int (tx t).length) (.ref e0) (.ref D)))) D = _ := (upd_ne nDp).trans d6
    have r7 : (upd H6 p (.ins (aB K) dx (F5 (.ref va) (.ref ls) (.int (tx t).length) (.ref e0) (.ref D)))) rl = _ := (upd_ne nrp).trans r6
    have ls7 : (upd H6 p (.ins (aB K) dx (F5 (.ref va) (.ref ls) (.int (tx t).length) (.ref e0) (.ref D)))) ls = _ := (upd_ne hlp).trans ls6
    generalize (upd H6 p (.ins (aB K) dx (F5 (.ref va) (.ref ls) (.int (tx t).length) (.ref e0) (.ref D)))) = H7 at *
    refine ⟨le1000 (n := 1) (by decide), fun os hos => ?_⟩
    have sos := same_new (o := .lst [.int 0]) hos
    refine ⟨_, rfl, p, _, dx, _, rfl, sos _ _ hp7, T.clB, T.noB 50 rfl, few F5_few (by decide), ?_⟩
    have nop : os ≠ p := Ne.symm (ne_of_none hp7 hos)
    have nDo : D ≠ os := ne_of_none d7 hos
    have nro : rl ≠ os := ne_of_none r7 hos
    have nlo : ls ≠ os := ne_of_none ls7 hos
    have nosq : os ∉ q := by
      refine Held.new (Held.keep hh k7 hp7) hos
    have k8 := keep_upd (o := .ins (aB K) dx (F6 (.ref va) (.ref ls) (.int (tx t).length) (.ref e0) (.ref D) (.ref os))) (keep_same k7 sos)
    have hp8 : (upd (upd H7 os (.lst [.int 0])) p (.ins (aB K) dx (F6 (.ref va) (.ref ls) (.int (tx t).length) (.ref e0) (.ref D) (.ref os)))) p = _ := upd_same
    have d8 : (upd (upd H7 os (.lst [.int 0])) p (.ins (aB K) dx (F6 (.ref va) (.ref ls) (.int (tx t).length) (.ref e0) (.ref D) (.ref os)))) D = _ := (upd_ne nDp).trans (sos _ _ d7)
    have r8 : (upd (upd H7 os (.lst [.int 0])) p (.ins (aB K) dx (F6 (.ref va) (.ref ls) (.int (tx t).length) (.ref e0) (.ref D) (.ref os)))) rl = _ := (upd_ne nrp).trans (sos _ _ r7)
    have ls8 : (upd (upd H7 os (.lst [.int 0])) p (.ins (aB K) dx (F6 (.ref va) (.ref ls) (.int (tx t).length) (.ref e0) (.ref D) (.ref os)))) ls = _ := (upd_ne hlp).trans (sos _ _ ls7)
    have o8 : (upd (upd H7 os (.lst [.int 0])) p (.ins (aB K) dx (F6 (.ref va) (.ref ls) (.int (tx t).length) (.ref e0) (.ref D) (.ref os)))) os = some (.lst [.int 0]) := (upd_ne nop).trans upd_same
    have ho0 : ∀ a o, a ≠ p → H a = some o → a ≠ os := fun a o n h => ne_of_none (k7 a o n h) hos
    generalize (upd (upd H7 os (.lst [.int 0])) p (.ins (aB K) dx (F6 (.ref va) (.ref ls) (.int (tx t).length) (.ref e0) (.ref D) (.ref os)))) = H8 at *
    refine ⟨_, rfl, p, _, dx, _, _, rfl, hp8, T.clB, T.noB 49 rfl, F6_bits, D, rfl, ⟨_, SqL.of d8⟩, ?_⟩
    refine for_it (walk_list (K := K) (a := D) (xs := bitsOf r t)) (fun i σ H' => Keep os H8 H' ∧ H' os = some (.lst ((List.range (i + 1)).map fun j => V.int (cnt (rg r) t j : Nat))) ∧
      ∃ y, σ = [some (.ref p), some (tv t), some (.ref va), some (.ref rl), y, none, none, none]) ⟨Keep.rfl', o8, none, rfl⟩ (fun i σ H' _ pv => SqL.of (pv.1 _ _ nDo d8)) ?_ ?_
    · rintro i x σ Ha Hb hi ⟨s1, o1, y, rfl⟩ ⟨rfl, hx⟩
      have hi' : i < t.length := by
        unfold bitsOf at hi
        rwa [List.length_map] at hi
      have hx : x = .int (if rg r t[i] = true then 1 else 0) := by
        unfold bitsOf at hx
        rw [List.getElem?_map, List.getElem?_eq_getElem hi'] at hx
        exact (Option.some.inj hx).symm
      subst hx
      have hpb := s1 _ _ (Ne.symm nop) hp8
      refine ⟨_, rfl, p, _, dx, _, _, rfl, hpb, T.clB, T.noB 50 rfl, F6_ones, .inl ⟨rfl, _, SqL.of o1⟩, ?_⟩
      refine ⟨_, rfl, p, _, dx, _, _, rfl, hpb, T.clB, T.noB 50 rfl, F6_ones, _, rfl, os, _, _, _, rfl, rfl, SqL.of o1, last_map (by omega), ?_⟩
      refine ⟨_, rfl, _, _, rfl, rfl, os, _, _, rfl, rfl, o1, ?_, ?_⟩
      · refine small1000 ?_
        rw [List.length_map, List.length_range]
        omega
      · refine ⟨keep_upd s1, ?_, _, rfl⟩
        rw [upd_same, ← ones_more, cnt_succ (List.getElem?_eq_getElem hi')]
        cases rg r t[i] <;> rfl
    rintro σ H9 ⟨s9, o9, y, rfl⟩
    have o9 : H9 os = some (.lst (onesOf r t)) := by
      rw [o9]
      unfold bitsOf onesOf
      rw [List.length_map]
    have hp9 := s9 _ _ (Ne.symm nop) hp8
    have r9 := s9 _ _ nro r8
    have ls9 := s9 _ _ nlo ls8
    have k9 : Keep p H H9 := fun a o n h => s9 a o (ho0 a o n h) (k8 a o n h)
    refine ⟨le1000 (n := 2) (by decide), fun pt hpt => ⟨pt, rfl, ⟨_, SqT.of upd_same⟩, fun D2 hD2 => ?_⟩⟩
    have spt := same_new (o := .tup [.bl false, .bl true]) hpt
    have upt : (upd H9 pt (.tup [.bl false, .bl true])) pt = _ := upd_same
    generalize (upd H9 pt (.tup [.bl false, .bl true])) = H10 at *
    refine lc_pl (walk_tup (K := K) (a := pt) (xs := [.bl false, .bl true])) (fun i H' => Same H10 H' ∧ H' D2 = some (.lst ([tv (t.filter (sdf r false)), tv (t.filter (sdf r true))].take i)))
      ⟨same_new hD2, upd_same⟩ (fun i H' _ pv => SqT.of (pv.1 _ _ upt)) ?_ ?_
    · rintro i x Ha Hb hi ⟨s1, d1⟩ ⟨rfl, hx⟩
      obtain ⟨sd, rfl, hsd⟩ : ∃ sd, x = .bl sd ∧ [tv (t.filter (sdf r false)), tv (t.filter (sdf r true))].take (i + 1) = [tv (t.filter (sdf r false)), tv (t.filter (sdf r true))].take i ++ [tv (t.filter (sdf r sd))] := by
        have hi : i < 2 := hi
        rcases (by omega : i = 0 ∨ i = 1) with rfl | rfl
        · exact ⟨false, (Option.some.inj hx).symm, rfl⟩
        · exact ⟨true, (Option.some.inj hx).symm, rfl⟩
      refine ⟨rfl, ?_⟩
      refine ⟨⟨_, rfl⟩, _, rfl, tx t, rfl, fun D3 hD3 => ?_⟩
      refine lc_it walk_str (fun i H' => Same Hb H' ∧ H' D3 = some (.lst (((t.take i).filter (sdf r sd)).map lv))) ⟨same_new hD3, upd_same⟩ (fun _ _ _ _ => True.intro) ?_ ?_
      · rintro i x Hc Hd hi ⟨s2, d2⟩ ⟨rfl, c, hc, rfl⟩
        refine ⟨rfl, ?_⟩
        have rc := s2 _ _ (s1 _ _ (spt _ _ r9))
        refine ⟨_, rfl, _, rfl, rl, _, rfl, .inl (SqL.of rc), rfl, flat_lv, _, rfl, rfl, _, rfl, ?_⟩
        have e : inV (lv c) (r.ls.map lv) = rg r c := in_lv_dec
        have e2 : decide (V.bl (inV (lv c) (r.ls.map lv)) = V.bl sd) = sdf r sd c := by
          rw [dec_bl, e]
          cases sd with
          | true => cases hg : rg r c <;> simp [sdf, hg]
          | false => cases hg : rg r c <;> simp [sdf, hg]
        refine ite2 (fun hb => ?_) (fun hb => ?_)
        · have hb : sdf r sd c = true := e2.symm.trans hb
          refine ⟨_, rfl, _, d2, ?_, same_mut s2 hD3, ?_⟩
          · refine small1000 ?_
            rw [List.length_map]
            have h1 := List.length_filter_le (sdf r sd) (t.take i)
            rw [List.length_take] at h1
            omega
          · rw [upd_same, filt_take (tx_get hc), if_pos hb, List.map_append]
            rfl
        · have hb : ¬ sdf r sd c = true := fun h => hb (e2.trans h)
          refine ⟨s2, ?_⟩
          rw [filt_take (tx_get hc), if_neg hb, List.append_nil]
          exact d2
      · rintro Hc ⟨s2, d2⟩
        have d2 : Hc D3 = some (.lst ((t.filter (sdf r sd)).map lv)) := by
          rw [d2, tx_size, List.take_of_length_le (Nat.le_refl _)]
        rw [map_lv_str] at d2
        refine ⟨tx [], D3, _, rfl, rfl, .inl (SqL.of d2), ?_, ?_⟩
        · rw [lens_lv, List.length_map]
          have h1 := List.length_filter_le (sdf r sd) t
          show _ + _ * 0 ≤ _
          omega
        · have s3 := s1.trans s2
          rw [join_lv]
          refine ⟨_, s2 _ _ d1, ?_, same_mut s3 hD2, ?_⟩
          · refine small1000 ?_
            rw [List.length_take]
            show min i 2 ≤ 1000
            omega
          · rw [upd_same, hsd]
    rintro H11 ⟨e11, d11⟩
    have d11 : H11 D2 = some (.lst [tv (t.filter (sdf r false)), tv (t.filter (sdf r true))]) := d11
    have e911 := spt.trans e11
    have hp11 := e911 _ _ hp9
    have ls11 := e911 _ _ ls9
    have o11 := e911 _ _ o9
    have k11 := keep_same k9 e911
    have tu11 : Tups (cutO q H) (cutO (p :: q) H11) := fun b xs hb => by
      have h1 := cut_sub _ _ hb
      have h2 := ne_of h1 hp (by intro z; cases z)
      refine cut_get (fun hm => ?_) (k11 b _ h2 h1)
      rcases List.mem_cons.mp hm with e | hm
      · exact h2 e
      · exact cut_ne hb hm
    have hd11 : Held (p :: q) H11 := Held.cons (Held.keep hh k11 hp11) hp11
    have hva11 := cut_sub _ _ (tu11 _ _ hva)
    have hh2 : l.ht ≤ n ∧ r.ht ≤ n := by
      have : max l.ht r.ht + 1 ≤ n + 1 := h0
      omega
    have fl : ∀ sd, (t.filter (sdf r sd)).length ≤ 1000 := fun sd => Nat.le_trans (List.length_filter_le _ _) ht
    refine ⟨_, rfl, D2, _, _, _, rfl, rfl, SqL.of d11, atI_nat (j := 0) rfl, ?_⟩
    refine ⟨_, rfl, va, _, _, _, rfl, rfl, SqT.of hva11, atI_nat (j := 0) rfl, fun bl dbl nbl ndbl nne => ?_⟩
    refine ⟨_, _, _, rfl, bl, dbl, l, _, p :: q, rfl, upd_same, rfl, Held.upd' (Held.upd' hd11), hd11.new nbl, ?_, hh2.1, fine_l hF, fl false, fun H12 k12 b12 => ⟨rfl, ?_⟩⟩
    · exact (hvl.tups tu11).same (cutS ((same_new ndbl).trans (same_new (by rw [upd_ne (Ne.symm nne)]; exact nbl))))
    have e12 : Same H11 H12 := make_same nbl ndbl k12
    refine ⟨_, rfl, D2, _, _, _, rfl, rfl, SqL.of (e12 _ _ d11), atI_nat (j := 1) rfl, ?_⟩
    refine ⟨_, rfl, va, _, _, _, rfl, rfl, SqT.of (e12 _ _ hva11), atI_nat (j := 1) rfl, fun br dbr nbr ndbr nne2 => ?_⟩
    have hd12 := hd11.same e12
    refine ⟨_, _, _, rfl, br, dbr, r, _, p :: q, rfl, upd_same, rfl, Held.upd' (Held.upd' hd12), hd12.new nbr, ?_, hh2.2, fine_r hF, fl true, fun H13 k13 b13 => ⟨rfl, ?_⟩⟩
    · exact (hvr.tups tu11).same ((cutS e12).trans (cutS ((same_new ndbr).trans (same_new (by rw [upd_ne (Ne.symm nne2)]; exact nbr)))))
    have e13 : Same H12 H13 := make_same nbr ndbr k13
    refine ⟨le1000 (n := 2) (by decide), fun sdA hsd => ?_⟩
    have e14 := same_new (o := .tup [.ref bl, .ref br]) hsd
    have e1114 := (e12.trans e13).trans e14
    have hp14 := e1114 _ _ hp11
    refine ⟨_, rfl, p, _, dx, _, rfl, hp14, T.clB, T.noB 48 rfl, few F6_few (by decide), ?_⟩
    have nsp : sdA ≠ p := Ne.symm (ne_of_none (e13 _ _ (e12 _ _ hp11)) hsd)
    have nsq : sdA ∉ q := fun hm => (hd12.same e13).new hsd (List.mem_cons_of_mem _ hm)
    have kF := keep_upd (o := .ins (aB K) dx (F7 (.ref va) (.ref ls) (.int (tx t).length) (.ref e0) (.ref D) (.ref os) (.ref sdA))) (keep_same k11 e1114)
    have kP : Keep p (upd H13 sdA (.tup [.ref bl, .ref br])) (upd (upd H13 sdA (.tup [.ref bl, .ref br])) p (.ins (aB K) dx (F7 (.ref va) (.ref ls) (.int (tx t).length) (.ref e0) (.ref D) (.ref os) (.ref sdA)))) := keep_upd Keep.rfl'
    have cP := cut_well (q := p :: q) (List.mem_cons_self ..) kP
    have hFp : (upd (upd H13 sdA (.tup [.ref bl, .ref br])) p (.ins (aB K) dx (F7 (.ref va) (.ref ls) (.int (tx t).length) (.ref e0) (.ref D) (.ref os) (.ref sdA)))) p = _ := upd_same
    have hFl := (kP ls _ hlp (e1114 _ _ ls11))
    have hFo := (kP os _ nop (e1114 _ _ o11))
    have hFs := (kP sdA _ nsp upd_same)
    have tuF : Tups (cutO q H) (cutO q (upd (upd H13 sdA (.tup [.ref bl, .ref br])) p (.ins (aB K) dx (F7 (.ref va) (.ref ls) (.int (tx t).length) (.ref e0) (.ref D) (.ref os) (.ref sdA))))) := fun b xs hb => by
      have h1 := cut_sub _ _ hb
      exact cut_get (cut_ne hb) (kF b _ (ne_of h1 hp (by intro z; cases z)) h1)
    refine k _ kF ⟨dx, _, os, sdA, bl, br, ⟨cut_get hq hFp, F7_none (by decide +kernel) (by decide +kernel) (by decide +kernel) (by decide +kernel) (by decide +kernel) (by decide +kernel), F7_none (by decide +kernel) (by decide +kernel) (by decide +kernel) (by decide +kernel) (by decide +kernel) (by decide +kernel), F7_none (by decide +kernel) (by decide +kernel) (by decide +kernel) (by decide +kernel) (by decide +kernel) (by decide +kernel),
      ⟨_, F7_shape, va, vl, vr, rfl, tuF _ _ hva, hvl.tups tuF, hvr.tups tuF⟩, ⟨ls, F7_letters, cut_get nls hFl⟩⟩, F7_ones, cut_get nosq hFo, F7_sides, cut_get nsq hFs, ?_, ?_⟩
    · exact b12.same ((((cutS e13).trans (cutS e14)).trans cP).trans cut_less)
    · exact b13.same (((cutS e14).trans cP).trans cut_less)
end
end Tix
set_option Elab.async false
set_option linter.all false
set_option maxRecDepth 100000
set_option maxHeartbeats 4000000
/-! A tree in the heap; its making; the checks; between. -/
namespace Tix
open PySem PySem.Spec PyProof.Rows L2
structure TreeHd (K : PySem.W.Frag) (H : Hp) (a : Addr) (s : Sh) (t : List Nat) (dx : Addr) (fs : List (Str × V)) : Prop where
  at_ : H a = some (.ins (aT K) dx fs)
  m1 : fs.lookup ("check_stretch" : Str) = none
  m2 : fs.lookup ("check_order" : Str) = none
  m3 : fs.lookup ("least" : Str) = none
  m4 : fs.lookup ("between" : Str) = none
  de : ∃ d kvs, fs.lookup ("depths" : Str) = some (.ref d) ∧ H d = some (.dK kvs) ∧ DepthsOk kvs s
  te : fs.lookup ("text" : Str) = some (tv t)
  to : ∃ b, fs.lookup ("top" : Str) = some (.ref b) ∧ BrAt (aB K) H s b t
def TreeAt (K : PySem.W.Frag) (H : Hp) (a : Addr) (s : Sh) (t : List Nat) : Prop := ∃ dx fs, TreeHd K H a s t dx fs
theorem TreeAt.same {K : PySem.W.Frag} {H H' : Hp} (e : Same H H') {a : Addr} {s : Sh} {t : List Nat} : TreeAt K H a s t → TreeAt K H' a s t
  | ⟨dx, fs, h⟩ => ⟨dx, fs, e _ _ h.at_, h.m1, h.m2, h.m3, h.m4, let ⟨d, kvs, a, b, c⟩ := h.de; ⟨d, kvs, a, e _ _ b, c⟩, h.te, let ⟨b, x, y⟩ := h.to; ⟨b, x, y.same e⟩⟩
abbrev G1 (d : V) : List (Str × V) := putF "depths" d []
abbrev G2 (d t : V) : List (Str × V) := putF "text" t (G1 d)
abbrev G3 (d t s : V) : List (Str × V) := putF "shape" s (G2 d t)
abbrev G4 (d t s b : V) : List (Str × V) := putF "top" b (G3 d t s)
section
variable {d t s b : V} {g : Str}
theorem G1_few : (G1 d).length ≤ 1 := putF_few (Nat.le_refl 0)
theorem G2_few : (G2 d t).length ≤ 2 := putF_few G1_few
theorem G3_few : (G3 d t s).length ≤ 3 := putF_few G2_few
theorem G4_none (h1 : ¬ g = "depths") (h2 : ¬ g = "text") (h3 : ¬ g = "shape") (h4 : ¬ g = "top") : (G4 d t s b).lookup g = none := lk_miss h4 (lk_miss h3 (lk_miss h2 (lk_miss h1 rfl)))
theorem G4_depths : (G4 d t s b).lookup ("depths" : Str) = some d := lk_miss (by decide +kernel) (lk_miss (by decide +kernel) (lk_miss (by decide +kernel) lk_hit))
theorem G4_text : (G4 d t s b).lookup ("text" : Str) = some t := lk_miss (by decide +kernel) (lk_miss (by decide +kernel) lk_hit)
theorem G4_top : (G4 d t s b).lookup ("top" : Str) = some b := lk_hit
end
theorem strs_dp {K : PySem.W.Frag} {H : Hp} : ∀ l : List Nat, DpAll K H (l.map lv) (l.map fun c => PyData.str (lt c))
  | [] => .nil
  | c :: l => .cons (.str _) (strs_dp l)
theorem strs_ok : ∀ {l : List Nat}, Alpha l → PyData.canLayAll0 (l.map fun c => PyData.str (lt c)) = true ∧ PyData.depthAll (l.map fun c => PyData.str (lt c)) = 0
  | [], _ => ⟨rfl, rfl⟩
  | c :: l, h => by
    obtain ⟨h1, h2⟩ := strs_ok (l := l) (h.of fun d hd => List.mem_cons_of_mem _ hd)
    have := dat_lay (s := .leaf c) (h.of fun d hd => by
      rw [List.mem_singleton.mp hd]
      exact List.mem_cons_self ..)
    refine ⟨?_, ?_⟩
    · show ((dat (.leaf c)).canLay0 && PyData.canLayAll0 _) = true
      rw [this, h1]
      rfl
    · show max 0 (PyData.depthAll _) = 0
      rw [h2]
      rfl
theorem strs_shaped {l : List Nat} (h : Alpha l) : SeqAt.shaped (.list (l.map fun c => PyData.str (lt c))) = true := by
  obtain ⟨h1, h2⟩ := strs_ok h
  show (PyData.canLayAll0 _ && decide (PyData.depthAll _ + 1 ≤ 64)) = true
  rw [h1, h2]
  rfl
theorem pe_fldK {X : Cx} {K : PySem.W.Frag} {e : Expr} {ta : TE} {f : Str} {pos : Pos} (hK : X.K = K) (he : PE X e ta) (hb : attributeBase e f X.env (eval e X.env) = eval e X.env) : PE X (.Attribute e f pos) (tFld K ta f) := by
  subst hK
  exact pe_fld he hb
section
variable {P : Program} {w : World} {K : PySem.W.Frag} {mg : Str → Option Value} {base : Heap}
theorem ok_bInit (T : Txt K mg) : ∀ n, IOk P w K mg base "Branch" (aB K) ["self", "text", "shape"] (3 + 2 * n) (spBInit K n)
  | 0 => ok_bInit0 T
  | n + 1 => ok_bInitS T (j := 3 + 2 * n) (Nat.le_trans (by decide : 2 ≤ 3) (Nat.le_add_right _ _)) (ok_bInit T n)
/-! ### Tree.__init__ -/
def spTInit (K : PySem.W.Frag) : Sp := sp3 fun x y z H Q => ∃ p dx s t, ∃ q : List Addr, x = .ref p ∧ H p = some (.ins (aT K) dx []) ∧ y = tv t ∧ Held q H ∧ p ∉ q ∧ ShapeV (cutO q H) z s ∧ Fine s ∧ Alpha t ∧ t.length ≤ 1000 ∧ (∀ c ∈ t, c ∈ s.ls) ∧
  ∀ H', Keep p H H' → TreeAt K (cutO q H') p s t → Q .non H'
abbrev nTInit : List Str := ["self", "text", "shape", "sign"]
theorem scTInit : FnScope nTInit ["self", "text", "shape"] (defScope sTInit) := ⟨rfl, rfl, rfl, by decide +kernel, rfl, by decide +kernel, by decide +kernel⟩
theorem ok_tInit (T : Txt K mg) : IOk P w K mg base "Tree" (aT K) ["self", "text", "shape"] 55 (spTInit K) := by
  refine IOk.ofT (q := "Tree.__init__") (st := sTInit) (k := 54) T 13 rfl scTInit (fun _ _ _ _ _ _ us hl => match us, hl with | [_, _, _], _ => rfl) len3 fun cdv A outer s H vs Q E hr h => ?_
  obtain ⟨_, _, z, rfl, p, dx, sh, t, q, rfl, hp, rfl, hh, hq, hv, hF, al, ht, hs, k⟩ := h
  have nd := scTInit.nd
  refine ⟨_, pss_cons (ps_expr (pe_D (ok_cText T) (hr.mono (by decide)) (by rfl) (pa_cons (pv 1) pa_nil)))
    (pss_cons (ps_expr (pe_D (ok_cShape T) (hr.mono (by decide)) (by rfl) (pa_cons (pv 2) pa_nil)))
    (pss_cons (ps_fld (pv 0) (pe_D (ok_depths T) (hr.mono (by decide)) (by rfl) (pa_cons (pv 2) pa_nil)) rfl)
    (pss_cons (ps_if (pt_not (pt_val (pe_callB (cr_all rfl) (by rfl) T.all (by decide +kernel)
        (pa_cons (pe_lc (own := [("sign", 3)]) (g := gName 3) (tt := tYes) rfl nd (pi_str (pv 1)) (blkOk_by (N := nTInit) (sc := defScope sTInit) (by decide +kernel))
          (fun _ _ _ _ _ => pg_name (i := 3) nd rfl (Or.inl rfl)) (fun _ _ _ _ _ => pts_nil)
          (fun _ _ _ _ _ => pe_cmp (pc_din (hu_of hr) (pv 3) (pe_fldK (K := K) rfl (pv 0) rfl)) rfl)) pa_nil)))) (pss_one ps_never) pss_nil)
    (pss_cons (ps_fld (pv 0) (pv 1) rfl)
    (pss_cons (ps_fld (pv 0) (pv 2) rfl)
    (pss_one (ps_fld (pv 0) (pe_I (ok_bInit T 25) hr (by rfl) (pa_cons (pv 1) (pa_cons (pv 2) pa_nil))) rfl))))))), ?_⟩
  have hH : ∀ {H1}, Same H H1 → ShapeV H1 z sh := fun e => (hv.same cut_sub).same e
  refine ⟨_, rfl, _, rfl, t, rfl, al, ht, fun H1 e1 => ?_⟩
  refine ⟨_, rfl, _, rfl, sh, hH e1, hF, fun H2 e2 => ?_⟩
  have e2 := e1.trans e2
  refine ⟨_, rfl, _, rfl, sh, hH e2, hF, fun H3 d kvs e3 n3 d3 do3 => ?_⟩
  have e3 := e2.trans e3
  have hp3 := e3 _ _ hp
  refine ⟨_, rfl, p, _, dx, _, rfl, hp3, T.clT, T.noT 51 rfl, by decide, ?_⟩
  have ndp : d ≠ p := ne_of d3 hp3 (by intro z; cases z)
  have ndq : d ∉ q := (hh.same e2).new n3
  have k4 : Keep p H (upd H3 p (.ins (aT K) dx (G1 (.ref d)))) := keep_upd (Same.keep e3)
  have hp4 : (upd H3 p (.ins (aT K) dx (G1 (.ref d)))) p = _ := upd_same
  have d4 : (upd H3 p (.ins (aT K) dx (G1 (.ref d)))) d = _ := (upd_ne ndp).trans d3
  generalize (upd H3 p (.ins (aT K) dx (G1 (.ref d)))) = H4 at *
  refine ⟨_, rfl, tx t, rfl, fun D hD => ?_⟩
  refine lc_pl walk_str (fun i H' => Same H4 H' ∧ H' D = some (.lst ((List.replicate i true).map V.bl))) ⟨same_new hD, upd_same⟩ (fun _ _ _ _ => True.intro) ?_ ?_
  · rintro i x Ha Hb hi ⟨s1, d1⟩ ⟨rfl, c, hc, rfl⟩
    have hc' := tx_get hc
    have hm : c ∈ sh.ls := hs c (List.mem_of_getElem? hc')
    refine ⟨rfl, ?_⟩
    refine ⟨_, rfl, _, rfl, p, _, dx, _, _, rfl, s1 _ _ hp4, T.clT, T.noT 51 rfl, lk_hit, d, _, rfl, DGet.k (k := Sum.inr (lt c)) (s1 _ _ d4), _, d1, ?_, same_mut s1 hD, ?_⟩
    · rw [List.length_map, List.length_replicate]
      rw [tx_size] at hi
      exact small1000 (by omega)
    · rw [upd_same, do3 c hm, List.replicate_succ', List.map_append]
      rfl
  rintro H5 ⟨e5, d5⟩
  refine ⟨D, _, rfl, SqL.of d5, true, ?_, iteF ?_⟩
  · simp
  have k5 := keep_same k4 e5
  have hp5 := e5 _ _ hp4
  have d5' := e5 _ _ d4
  refine ⟨_, rfl, _, rfl, p, _, dx, _, rfl, hp5, T.clT, T.noT 52 rfl, few G1_few (by decide), ?_⟩
  refine ⟨_, rfl, _, rfl, p, _, dx, _, rfl, upd_same, T.clT, T.noT 53 rfl, few G2_few (by decide), ?_⟩
  have k6 := keep_upd (o := .ins (aT K) dx (G3 (.ref d) (tv t) z)) (keep_upd (o := .ins (aT K) dx (G2 (.ref d) (tv t))) k5)
  have hp6 : (upd (upd H5 p (.ins (aT K) dx (G2 (.ref d) (tv t)))) p (.ins (aT K) dx (G3 (.ref d) (tv t) z))) p = _ := upd_same
  have d6 : (upd (upd H5 p (.ins (aT K) dx (G2 (.ref d) (tv t)))) p (.ins (aT K) dx (G3 (.ref d) (tv t) z))) d = _ := (upd_ne ndp).trans ((upd_ne ndp).trans d5')
  generalize (upd (upd H5 p (.ins (aT K) dx (G2 (.ref d) (tv t)))) p (.ins (aT K) dx (G3 (.ref d) (tv t) z))) = H6 at *
  have tu6 : Tups (cutO q H) (cutO (p :: q) H6) := fun b xs hb => by
    have h1 := cut_sub _ _ hb
    have h2 := ne_of h1 hp (by intro z; cases z)
    refine cut_get (fun hm => ?_) (k6 b _ h2 h1)
    rcases List.mem_cons.mp hm with e | hm
    · exact h2 e
    · exact cut_ne hb hm
  have hd6 : Held (p :: q) H6 := Held.cons (Held.keep hh k6 hp6) hp6
  have h25 : sh.ht ≤ 25 := by
    have h1 := Sh.ht_lt sh
    have h2 := hF.2.2
    omega
  refine ⟨_, rfl, _, rfl, fun b db nb ndb nne => ?_⟩
  refine ⟨_, _, _, rfl, b, db, sh, t, p :: q, rfl, upd_same, rfl, Held.upd' (Held.upd' hd6), hd6.new nb, ?_, h25, hF, ht, fun H7 k7 b7 => ⟨rfl, ?_⟩⟩
  · exact (hv.tups tu6).same (cutS ((same_new ndb).trans (same_new (by rw [upd_ne (Ne.symm nne)]; exact nb))))
  have e7 : Same H6 H7 := make_same nb ndb k7
  have hp7 := e7 _ _ hp6
  refine ⟨_, rfl, p, _, dx, _, rfl, hp7, T.clT, T.noT 54 rfl, few G3_few (by decide), ?_⟩
  have kF := keep_upd (o := .ins (aT K) dx (G4 (.ref d) (tv t) z (.ref b))) (keep_same k6 e7)
  have kP : Keep p H7 (upd H7 p (.ins (aT K) dx (G4 (.ref d) (tv t) z (.ref b)))) := keep_upd Keep.rfl'
  refine k _ kF ⟨dx, _, cut_get hq upd_same, G4_none (by decide +kernel) (by decide +kernel) (by decide +kernel) (by decide +kernel), G4_none (by decide +kernel) (by decide +kernel) (by decide +kernel) (by decide +kernel),
    G4_none (by decide +kernel) (by decide +kernel) (by decide +kernel) (by decide +kernel), G4_none (by decide +kernel) (by decide +kernel) (by decide +kernel) (by decide +kernel),
    ⟨d, kvs, G4_depths, cut_get ndq ((upd_ne ndp).trans (e7 _ _ d6)), do3⟩, G4_text, ⟨b, G4_top, b7.same ((cut_well (List.mem_cons_self ..) kP).trans cut_less)⟩⟩
/-! ### check_stretch -/
def spStretch (K : PySem.W.Frag) : Sp := sp3 fun x y z H Q => ∃ a s t be en, x = .ref a ∧ TreeAt K H a s t ∧ y = .int (be : Nat) ∧ z = .int (en : Nat) ∧ be ≤ en ∧ en ≤ t.length ∧ t.length ≤ 1000 ∧ Q .non H
theorem scStretch : FnScope ["self", "begin", "end"] ["self", "begin", "end"] (defScope sTStretch) := ⟨rfl, rfl, rfl, by decide +kernel, rfl, by decide +kernel, by decide +kernel⟩
theorem ok_stretch (T : Txt K mg) : MOk P w K mg base (aT K) "check_stretch" ["self", "begin", "end"] 3 (spStretch K) := by
  refine MOk.ofT (q := "Tree.check_stretch") (st := sTStretch) (k := 2) T 14 41 rfl rfl scStretch (fun _ _ _ _ _ _ us hl => match us, hl with | [_, _, _], _ => rfl) len3 fun cdv A outer s H vs Q E hr h => ?_
  obtain ⟨_, _, _, rfl, a, sh, t, be, en, rfl, ⟨dx, fs, h⟩, rfl, rfl, h1, h2, h3, k⟩ := h
  refine ⟨_, pss_cons (ps_expr (pe_D (ok_cNumber T) hr (by rfl) (pa_cons (pv 1) (pa_cons pe_int (pa_cons (pe_callB call_len_str (by rfl) T.len boot_len (pa_cons (pe_fld (pv 0) rfl) pa_nil)) pa_nil)))))
    (pss_one (ps_expr (pe_D (ok_cNumber T) hr (by rfl) (pa_cons (pv 2) (pa_cons (pv 1) (pa_cons (pe_callB call_len_str (by rfl) T.len boot_len (pa_cons (pe_fld (pv 0) rfl) pa_nil)) pa_nil)))))), ?_⟩
  refine ⟨_, rfl, _, rfl, a, _, dx, fs, _, rfl, h.at_, T.clT, T.noT 52 rfl, h.te, tx t, rfl, size_tx h3, _, _, _, rfl, _, _, rfl, rfl, Int.natCast_nonneg be, .inr ⟨_, rfl, by rw [tx_len]; omega⟩, ?_⟩
  exact ⟨_, rfl, _, rfl, _, rfl, a, _, dx, fs, _, rfl, h.at_, T.clT, T.noT 52 rfl, h.te, tx t, rfl, size_tx h3, _, _, _, rfl, _, _, rfl, rfl, by omega, .inr ⟨_, rfl, by rw [tx_len]; omega⟩, k⟩
/-! ### check_order -/
def spOrder (K : PySem.W.Frag) : Sp := sp1 fun x H Q => ∃ a s t, x = .ref a ∧ TreeAt K H a s t ∧ Rise s.ls ∧ Fine s ∧ ∀ H', Same H H' → Q .non H'
theorem scOrder : FnScope ["self"] ["self"] (defScope sTOrder) := ⟨rfl, rfl, rfl, by decide +kernel, rfl, by decide +kernel, by decide +kernel⟩
theorem ok_order (T : Txt K mg) : MOk P w K mg base (aT K) "check_order" ["self"] 1 (spOrder K) := by
  refine MOk.ofT (q := "Tree.check_order") (st := sTOrder) (k := 0) T 15 42 rfl rfl scOrder (fun _ _ _ _ _ _ us hl => match us, hl with | [_], _ => rfl) len1 fun cdv A outer s H vs Q E hr h => ?_
  obtain ⟨_, rfl, a, sh, t, rfl, ⟨dx, fs, h⟩, ri, hF, k⟩ := h
  refine ⟨_, pss_one (ps_if (pt_cmpR (op_neD hr.units) (pe_fld (pe_fld (pv 0) rfl) rfl) (pe_callB cr_sortLet (by rfl) T.sorted (by decide +kernel) (pa_cons (pe_fld (pe_fld (pv 0) rfl) rfl) pa_nil)) (nomark _)) (pss_one ps_never) pss_nil), ?_⟩
  obtain ⟨b, hb, bt⟩ := h.to
  obtain ⟨dy, gs, hd⟩ := bt.hd
  obtain ⟨ls, l1, l2⟩ := hd.le
  refine ⟨_, rfl, a, _, dx, fs, _, rfl, h.at_, T.clT, T.noT 54 rfl, hb, b, _, dy, gs, _, rfl, hd.at_, T.clB, T.noB 46 rfl, l1, ?_⟩
  refine ⟨_, rfl, a, _, dx, fs, _, rfl, h.at_, T.clT, T.noT 54 rfl, hb, b, _, dy, gs, _, rfl, hd.at_, T.clB, T.noB 46 rfl, l1, ls, _, rfl, SqL.of l2, fun p hp => ?_⟩
  rw [srt_of_up ri.up]
  refine ⟨_, _, .lst (SqL.of ((same_new hp) _ _ l2)) (strs_dp _), .lst (SqL.of upd_same) (strs_dp _), strs_shaped hF.1, strs_shaped hF.1, false, ?_, iteF ?_⟩
  · rw [SeqAt.eqv_refl _ (SeqAt.canLay_of_shaped (strs_shaped hF.1))]
    rfl
  · exact k _ (same_new hp)
/-! ### between -/
def spBetween (K : PySem.W.Frag) : Sp := sp5 fun x y z u v H Q => ∃ a s t be en lo hi, x = .ref a ∧ TreeAt K H a s t ∧ Rise s.ls ∧ Fine s ∧ (∀ c ∈ t, c ∈ s.ls) ∧ t.length ≤ 1000 ∧ y = .int (be : Nat) ∧ z = .int (en : Nat) ∧ be ≤ en ∧ en ≤ t.length ∧
  u = lv lo ∧ v = lv hi ∧ 97 ≤ lo ∧ lo ≤ 122 ∧ 97 ≤ hi ∧ hi ≤ 122 ∧ ∀ H', Same H H' → Q (.int (btw lo hi (cut t be en) : Nat)) H'
theorem scBetween : FnScope ["self", "begin", "end", "low", "high"] ["self", "begin", "end", "low", "high"] (defScope sTBetween) := ⟨rfl, rfl, rfl, by decide +kernel, rfl, by decide +kernel, by decide +kernel⟩
theorem ok_between (T : Txt K mg) : MOk P w K mg base (aT K) "between" ["self", "begin", "end", "low", "high"] 28 (spBetween K) := by
  refine MOk.ofT (q := "Tree.between") (st := sTBetween) (k := 27) T 17 44 rfl rfl scBetween (fun _ _ _ _ _ _ us hl => match us, hl with | [_, _, _, _, _], _ => rfl) len5 fun cdv A outer s H vs Q E hr h => ?_
  obtain ⟨_, _, _, _, _, rfl, a, sh, t, be, en, lo, hi, rfl, hT, ri, hF, hs, ht, rfl, rfl, hbe, hen, rfl, rfl, l1, l2, h1, h2, k⟩ := h
  refine ⟨_, pss_cons (ps_expr (pe_M (ok_stretch T) (pv 0) T.clT (hr.mono (by decide)) (pa_cons (pv 1) (pa_cons (pv 2) pa_nil))))
    (pss_cons (ps_expr (pe_D (ok_cLetter T) (hr.mono (by decide)) (by rfl) (pa_cons (pv 3) pa_nil)))
    (pss_cons (ps_expr (pe_D (ok_cLetter T) (hr.mono (by decide)) (by rfl) (pa_cons (pv 4) pa_nil)))
    (pss_cons (ps_expr (pe_M0 (ok_order T) (pv 0) T.clT (hr.mono (by decide))))
    (pss_one (ps_ret (pe_M (ok_counted T 25) (pe_fld (pv 0) rfl) T.clB hr (pa_cons (pv 1) (pa_cons (pv 2) (pa_cons (pv 3) (pa_cons (pv 4) pa_nil)))))))))), ?_⟩
  obtain ⟨dx, fs, h⟩ := id hT
  refine ⟨_, rfl, a, dx, fs, rfl, h.at_, h.m1, _, rfl, _, rfl, _, _, _, rfl, a, sh, t, be, en, rfl, hT, rfl, rfl, hbe, hen, ht, ?_⟩
  refine ⟨_, rfl, _, rfl, lo, rfl, l1, l2, fun H1 e1 => ?_⟩
  refine ⟨_, rfl, _, rfl, hi, rfl, h1, h2, fun H2 e2 => ?_⟩
  have e2 := e1.trans e2
  refine ⟨_, rfl, a, dx, fs, rfl, e2 _ _ h.at_, h.m2, _, rfl, a, sh, t, rfl, hT.same e2, ri, hF, fun H3 e3 => ?_⟩
  have e3 := e2.trans e3
  obtain ⟨b, hb, bt⟩ := h.to
  have bt := bt.same e3
  obtain ⟨dy, gs, hd⟩ := bt.hd
  have h25 : sh.ht ≤ 25 := by
    have h1 := Sh.ht_lt sh
    have h2 := hF.2.2
    omega
  exact ⟨_, rfl, a, _, dx, fs, _, rfl, e3 _ _ h.at_, T.clT, T.noT 54 rfl, hb, b, dy, gs, rfl, hd.at_, hd.m3, _, rfl, _, rfl, _, rfl, _, rfl, _, _, _, _, _, rfl, b, sh, t, be, en, lo, hi, rfl, bt, h25, ri, hF.2.2, hs, rfl, rfl, hbe, hen, rfl, rfl,
    fun H' e => k H' (e3.trans e)⟩
end
end Tix
set_option Elab.async false
set_option linter.all false
set_option maxRecDepth 100000
set_option maxHeartbeats 4000000
/-! least. -/
namespace Tix
open PySem PySem.Spec PyProof.Rows L2
theorem kth_mem {w : List Nat} {k c : Nat} (h : kth w k = some c) : c ∈ w := (srt_perm w).mem_iff.mp (List.mem_of_getElem? h)
theorem kth_lt {w : List Nat} {k c : Nat} (h : kth w k = some c) : k < w.length := by
  have := (List.getElem?_eq_some_iff.mp h).1
  rwa [srt_len] at this
section
variable {P : Program} {w : World} {K : PySem.W.Frag} {mg : Str → Option Value} {base : Heap}
def spLeast (K : PySem.W.Frag) : Sp := sp4 fun x y z u H Q => ∃ a s t be en kk c, x = .ref a ∧ TreeAt K H a s t ∧ Rise s.ls ∧ Fine s ∧ (∀ c ∈ t, c ∈ s.ls) ∧ t.length ≤ 1000 ∧ y = .int (be : Nat) ∧ z = .int (en : Nat) ∧ be ≤ en ∧ en ≤ t.length ∧
  u = .int ((kk + 1 : Nat) : Int) ∧ kth (cut t be en) kk = some c ∧ ∀ H' p, Same H H' → H p = none → H' p = some (.tup [lv c, .int (dof s c : Nat)]) → Q (.ref p) H'
theorem scLeast : FnScope ["self", "begin", "end", "k", "branch", "left", "few", "side"] ["self", "begin", "end", "k"] (defScope sTLeast) := ⟨rfl, rfl, rfl, by decide +kernel, rfl, by decide +kernel, by decide +kernel⟩
theorem ok_least (T : Txt K mg) : MOk P w K mg base (aT K) "least" ["self", "begin", "end", "k"] 4 (spLeast K) := by
  refine MOk.ofT (q := "Tree.least") (st := sTLeast) (k := 3) T 16 43 rfl rfl scLeast (fun _ _ _ _ _ _ us hl => match us, hl with | [_, _, _, _], _ => rfl) len4 fun cdv A outer s H vs Q E hr h => ?_
  obtain ⟨_, _, _, _, rfl, a, sh, t, be, en, kk, c, rfl, hT, ri, hF, hs, ht, rfl, rfl, hbe, hen, rfl, hk, k⟩ := h
  have nd := scLeast.nd
  refine ⟨_, pss_cons (ps_expr (pe_M (ok_stretch T) (pv 0) T.clT hr (pa_cons (pv 1) (pa_cons (pv 2) pa_nil))))
    (pss_cons (ps_expr (pe_D (ok_cNumber T) (hr.mono (by decide)) (by rfl) (pa_cons (pv 3) (pa_cons pe_int (pa_cons pe_non pa_nil)))))
    (pss_cons (ps_expr (pe_M0 (ok_order T) (pv 0) T.clT (hr.mono (by decide))))
    (pss_cons (ps_if (pt_cmpR op_gt (pv 3) (pe_op op_sub (pv 2) (pv 1)) (nomark _)) (pss_one ps_never) pss_nil)
    (pss_cons (ps_par (i := 4) (j := 5) rfl nd rfl rfl (by decide) rfl rfl (pa_cons (pe_fld (pv 0) rfl) (pa_cons (pv 3) pa_nil)) rfl)
    (pss_cons (ps_while PassesOwn.never (pt_not (pt_val (pe_M0 (ok_isEnd T) (pv 4) T.clB (hr.mono (by decide)))))
      (pss_cons (ps_set (i := 6) nd rfl (Or.inl rfl) (pe_op op_sub (pe_M (ok_ahead T) (pv 4) T.clB (hr.mono (by decide)) (pa_cons pe_int (pa_cons (pv 2) pa_nil))) (pe_M (ok_ahead T) (pv 4) T.clB (hr.mono (by decide)) (pa_cons pe_int (pa_cons (pv 1) pa_nil)))))
      (pss_cons (ps_set (i := 7) nd rfl (Or.inl rfl) (pe_callTy call_int1 (by rfl) T.int boot_intT (pa_cons (pe_cmpR op_gt (pv 5) (pv 6) (nomark _)) pa_nil)))
      (pss_cons (ps_set (i := 5) nd rfl (Or.inl rfl) (pe_op op_sub (pv 5) (pe_op op_mul (pv 7) (pv 6))))
      (pss_cons (ps_par (i := 1) (j := 2) rfl nd rfl rfl (by decide) rfl rfl (pa_cons (pe_M (ok_ahead T) (pv 4) T.clB (hr.mono (by decide)) (pa_cons (pv 7) (pa_cons (pv 1) pa_nil))) (pa_cons (pe_M (ok_ahead T) (pv 4) T.clB (hr.mono (by decide)) (pa_cons (pv 7) (pa_cons (pv 2) pa_nil))) pa_nil)) rfl)
      (pss_one (ps_set (i := 4) nd rfl (Or.inl rfl) (pe_ix ix_tup (pe_fld (pv 4) rfl) (pv 7) (fun _ _ => rfl)))))))))
    (pss_one (ps_ret (pe_tup (pa_cons (pe_fld (pv 4) rfl) (pa_cons (pe_dget (hu_of hr) (pe_fld (pv 0) rfl) (pe_fld (pv 4) rfl) (fun _ _ => rfl)) pa_nil)))))))))), ?_⟩
  obtain ⟨dx, fs, h⟩ := id hT
  have hkl := kth_lt hk
  rw [cut_len hbe hen] at hkl
  refine ⟨_, rfl, a, dx, fs, rfl, h.at_, h.m1, _, rfl, _, rfl, _, _, _, rfl, a, sh, t, be, en, rfl, hT, rfl, rfl, hbe, hen, ht, ?_⟩
  refine ⟨_, rfl, _, _, _, rfl, _, _, rfl, rfl, by omega, .inl rfl, ?_⟩
  refine ⟨_, rfl, a, dx, fs, rfl, h.at_, h.m2, _, rfl, a, sh, t, rfl, hT, ri, hF, fun H1 e1 => ?_⟩
  refine ⟨_, rfl, _, rfl, _, rfl, _, _, rfl, rfl, _, _, rfl, rfl, false, congrArg V.bl (decide_eq_false (by omega)), iteF ?_⟩
  have h1 := e1 _ _ h.at_
  obtain ⟨b, hb, bt⟩ := h.to
  have bt1 := bt.same e1
  have hc : c ∈ sh.ls := hs c (cut_mem (kth_mem hk))
  refine ⟨_, rfl, a, _, dx, fs, _, rfl, h1, T.clT, T.noT 54 rfl, hb, _, rfl, _, _, rfl, ?_⟩
  refine ⟨fun m σ H' => H' = H1 ∧ ∃ b' s' t' be' en' kk' f sd, m = s'.sz ∧ σ = [some (.ref a), some (.int (be' : Nat)), some (.int (en' : Nat)), some (.int ((kk + 1 : Nat) : Int)), some (.ref b'), some (.int ((kk' + 1 : Nat) : Int)), f, sd] ∧
    BrAt (aB K) H1 s' b' t' ∧ Rise s'.ls ∧ (∀ c ∈ t', c ∈ s'.ls) ∧ be' ≤ en' ∧ en' ≤ t'.length ∧ t'.length ≤ 1000 ∧ kth (cut t' be' en') kk' = some c, ⟨_, rfl, b, sh, t, be, en, kk, none, none, rfl, rfl, bt1, ri, hs, hbe, hen, ht, hk⟩, ?_⟩
  rintro m σ Hx ⟨rfl, b', s', t', be', en', kk', f, sd, rfl, rfl, bt', ri', hs', hbe', hen', ht', hk'⟩
  obtain ⟨dy, gs, hd⟩ := bt'.hd
  obtain ⟨v, hv1, hv2⟩ := hd.sh
  refine ⟨_, rfl, b', dy, gs, rfl, hd.at_, hd.m1, _, rfl, b', dy, gs, v, s', rfl, hd.at_, hv1, hv2, ?_⟩
  cases s' with
  | leaf d =>
    cases (show v = lv d from hv2)
    have ecd : c = d := List.mem_singleton.mp (hs' c (cut_mem (kth_mem hk')))
    subst ecd
    refine ⟨true, rfl, iteF ?_⟩
    obtain ⟨dd, kvs, q1, q2, q3⟩ := h.de
    refine ⟨_, rfl, b', _, dy, gs, _, rfl, hd.at_, T.clB, T.noB 45 rfl, hv1, ?_⟩
    refine ⟨_, rfl, a, _, dx, fs, _, rfl, h1, T.clT, T.noT 51 rfl, q1, _, rfl, b', _, dy, gs, _, rfl, hd.at_, T.clB, T.noB 45 rfl, hv1, dd, .int (dof sh c : Nat), rfl, ?_, ?_⟩
    · have g := DGet.k (k := Sum.inr (lt c)) (e1 _ _ q2)
      rw [q3 c hc] at g
      exact g
    refine ⟨le1000 (n := 2) (by decide), fun p hp => k _ p (Same.trans e1 (same_new hp)) ?_ upd_same⟩
    cases e : H p with
    | none => rfl
    | some o =>
      rw [e1 _ _ e] at hp
      cases hp
  | node l r =>
    refine ⟨false, rfl, iteT ?_⟩
    refine ⟨_, fun σ' H' q => q, ?_⟩
    have hw : (cut t' be' en').filter (sdf r false) = cut (t'.filter (sdf r false)) (cnt (sdf r false) t' be') (cnt (sdf r false) t' en') := cut_filter hbe'
    have hw2 : (cut t' be' en').filter (sdf r true) = cut (t'.filter (sdf r true)) (cnt (sdf r true) t' be') (cnt (sdf r true) t' en') := cut_filter hbe'
    have hm1 : cnt (sdf r false) t' be' ≤ cnt (sdf r false) t' en' := cnt_mono hbe'
    have hm2 : cnt (sdf r true) t' be' ≤ cnt (sdf r true) t' en' := cnt_mono hbe'
    have hl : ((cut t' be' en').filter (sdf r false)).length = cnt (sdf r false) t' en' - cnt (sdf r false) t' be' := by
      rw [hw, cut_len hm1 cnt_all]
    have ord : ∀ x ∈ cut t' be' en', ∀ y ∈ cut t' be' en', rg r x = false → rg r y = true → x ≤ y := fun x hx y hy h1 h2 => by
      have hx' := hs' x (cut_mem hx)
      have hy' : y ∈ r.ls := of_decide_eq_true h2
      have hx2 : x ∈ l.ls := by
        rcases mem_node.mp hx' with e | e
        · exact e
        · exact absurd e (of_decide_eq_false h1)
      exact Nat.le_of_lt (rise_x ri' hx2 hy')
    obtain ⟨dz, ks, os, si, bl, br, hd2, i1, i2, i3, i4, i5, i6⟩ := id bt'
    refine ⟨_, rfl, b', dy, gs, rfl, hd.at_, hd.m2, _, rfl, _, _, _, rfl, b', l, r, t', false, en', rfl, bt', rfl, rfl, hen', ?_⟩
    refine ⟨_, rfl, b', dy, gs, rfl, hd.at_, hd.m2, _, rfl, _, _, _, rfl, b', l, r, t', false, be', rfl, bt', rfl, rfl, by omega, _, _, rfl, rfl, ?_⟩
    have ef : ((cnt (sdf r false) t' en' : Nat) : Int) - (cnt (sdf r false) t' be' : Nat) = (((cut t' be' en').filter (sdf r false)).length : Nat) := by
      rw [hl]
      omega
    have hcn : cnt (sdf r false) t' en' ≤ 1000 := Nat.le_trans cnt_le (by omega)
    refine ⟨_, rfl, _, rfl, _, _, rfl, rfl, .inr ⟨_, rfl, ?_⟩⟩
    by_cases hg : ((cut t' be' en').filter (sdf r false)).length ≤ kk'
    · have h3 : kth (cut (t'.filter (sdf r true)) (cnt (sdf r true) t' be') (cnt (sdf r true) t' en')) (kk' - ((cut t' be' en').filter (sdf r false)).length) = some c := by
        rw [← hw2, ← hk']
        exact (kth_right (f := rg r) ord hg).symm
      have e1 : decide (((cnt (sdf r false) t' en' : Nat) : Int) - (cnt (sdf r false) t' be' : Nat) < ((kk' + 1 : Nat) : Int)) = true := decide_eq_true (by omega)
      rw [e1]
      refine ⟨_, rfl, _, rfl, _, rfl, _, _, rfl, rfl, .inl ⟨by decide, by decide⟩, _, _, rfl, rfl, ?_⟩
      refine ⟨_, rfl, b', dy, gs, rfl, hd.at_, hd.m2, _, rfl, _, rfl, _, _, _, rfl, b', l, r, t', true, be', rfl, bt', rfl, rfl, by omega, ?_⟩
      refine ⟨_, rfl, b', dy, gs, rfl, hd.at_, hd.m2, _, rfl, _, rfl, _, _, _, rfl, b', l, r, t', true, en', rfl, bt', rfl, rfl, hen', _, _, rfl, ?_⟩
      refine ⟨_, rfl, b', _, dz, ks, _, rfl, hd2.at_, T.clB, T.noB 48 rfl, i3, _, rfl, si, _, _, _, rfl, rfl, SqT.of i4, atI_nat (j := 1) rfl, ?_⟩
      refine ⟨r.sz, ?_, rfl, br, r, _, cnt (sdf r true) t' be', cnt (sdf r true) t' en', kk' - ((cut t' be' en').filter (sdf r false)).length, some (.int (((cnt (sdf r false) t' en' : Nat) : Int) - (cnt (sdf r false) t' be' : Nat))), some (.int 1), rfl, ?_, i6, rise_r ri', right_all hs', hm2, cnt_all, Nat.le_trans (List.length_filter_le _ _) ht', h3⟩
      · show r.sz < l.sz + r.sz + 1
        omega
      · have e2 : ((kk' + 1 : Nat) : Int) - 1 * (((cnt (sdf r false) t' en' : Nat) : Int) - (cnt (sdf r false) t' be' : Nat)) = ((kk' - ((cut t' be' en').filter (sdf r false)).length + 1 : Nat) : Int) := by omega
        rw [← e2]
        rfl
    · have hg' : kk' < ((cut t' be' en').filter (sdf r false)).length := by omega
      have h3 : kth (cut (t'.filter (sdf r false)) (cnt (sdf r false) t' be') (cnt (sdf r false) t' en')) kk' = some c := by
        rw [← hw, ← hk']
        exact (kth_left (f := rg r) ord hg').symm
      have e1 : decide (((cnt (sdf r false) t' en' : Nat) : Int) - (cnt (sdf r false) t' be' : Nat) < ((kk' + 1 : Nat) : Int)) = false := decide_eq_false (by omega)
      rw [e1]
      refine ⟨_, rfl, _, rfl, _, rfl, _, _, rfl, rfl, .inl ⟨by decide, by decide⟩, _, _, rfl, rfl, ?_⟩
      refine ⟨_, rfl, b', dy, gs, rfl, hd.at_, hd.m2, _, rfl, _, rfl, _, _, _, rfl, b', l, r, t', false, be', rfl, bt', rfl, rfl, by omega, ?_⟩
      refine ⟨_, rfl, b', dy, gs, rfl, hd.at_, hd.m2, _, rfl, _, rfl, _, _, _, rfl, b', l, r, t', false, en', rfl, bt', rfl, rfl, hen', _, _, rfl, ?_⟩
      refine ⟨_, rfl, b', _, dz, ks, _, rfl, hd2.at_, T.clB, T.noB 48 rfl, i3, _, rfl, si, _, _, _, rfl, rfl, SqT.of i4, atI_nat (j := 0) rfl, ?_⟩
      refine ⟨l.sz, ?_, rfl, bl, l, _, cnt (sdf r false) t' be', cnt (sdf r false) t' en', kk', some (.int (((cnt (sdf r false) t' en' : Nat) : Int) - (cnt (sdf r false) t' be' : Nat))), some (.int 0), rfl, ?_, i5, rise_l ri', left_all hs', hm1, cnt_all, Nat.le_trans (List.length_filter_le _ _) ht', h3⟩
      · show l.sz < l.sz + r.sz + 1
        omega
      · have e2 : ((kk' + 1 : Nat) : Int) - 0 * (((cnt (sdf r false) t' en' : Nat) : Int) - (cnt (sdf r false) t' be' : Nat)) = ((kk' + 1 : Nat) : Int) := by omega
        exact congrArg (fun x => [some (V.ref a), some (.int (cnt (sdf r false) t' be' : Nat)), some (.int (cnt (sdf r false) t' en' : Nat)), some (.int ((kk + 1 : Nat) : Int)), some (.ref bl), some (V.int x), some (.int (((cnt (sdf r false) t' en' : Nat) : Int) - (cnt (sdf r false) t' be' : Nat))), some (.int 0)]) e2
end
end Tix
set_option Elab.async false
set_option linter.all false
set_option maxRecDepth 100000
set_option maxHeartbeats 4000000
/-! The law's wells, draws, picks, shapes. -/
namespace Tix
open PySem PySem.Spec PyProof.Rows L2
def WellAt (H : Hp) (p : Addr) : Prop := ∃ a b c : Int, H p = some (.lst [.int a, .int b, .int c])
theorem WellAt.same {H H' : Hp} {p : Addr} (e : Same H H') : WellAt H p → WellAt H' p
  | ⟨a, b, c, h⟩ => ⟨a, b, c, e _ _ h⟩
theorem WellAt.tups {H H' : Hp} {p : Addr} (h : WellAt H p) (e : Keep p H H') : Tups H H' := fun b xs hb => by
  obtain ⟨x, y, z, hw⟩ := h
  exact e b _ (ne_of hb hw (by intro z; cases z)) hb
theorem drw {i m : Int} {b : Nat} (hb : 1 ≤ b) (e : m = (b : Int)) : ∃ n : Nat, n < b ∧ i % m = (n : Int) := by
  have h1 := Int.emod_nonneg i (show m ≠ 0 by omega)
  have h2 := Int.emod_lt_of_pos i (show 0 < m by omega)
  exact ⟨(i % m).toNat, by omega, by omega⟩
theorem small_mod {i m : Int} (h : 0 < m) (hm : m ≤ 2147483629) : -(2 ^ 64) < i % m ∧ i % m < 2 ^ 64 := by
  have h1 := Int.emod_nonneg i (show m ≠ 0 by omega)
  have h2 := Int.emod_lt_of_pos i h
  omega
section
variable {P : Program} {w : World} {K : PySem.W.Frag} {mg : Str → Option Value} {base : Heap}
/-! ### _law_well -/
def spWell (K : PySem.W.Frag) : Sp := sp2 fun x y H Q => ∃ (a : Addr) (ns : List Int) (k : Nat), x = .ref a ∧ SqL K H a (ns.map V.int) ∧ ns.length ≤ 1000 ∧ y = .int (k : Nat) ∧ ∀ H' p, Same H H' → H p = none → WellAt H' p → Q (.ref p) H'
theorem scWell : FnScope ["_law_script", "_law_k", "_law_cell"] ["_law_script", "_law_k"] (defScope sWell) := ⟨rfl, rfl, rfl, by decide +kernel, rfl, by decide +kernel, by decide +kernel⟩
theorem ok_well (T : Txt K mg) : DOk P w K mg base "_law_well" ["_law_script", "_law_k"] 1 (spWell K) := by
  refine DOk.of (q := "_law_well") (st := sWell) (k := 0) T 18 11 rfl rfl scWell (fun _ _ _ _ _ _ us hl => match us, hl with | [_, _], _ => rfl) len2 fun cdv A outer s H vs Q E hr h => ?_
  obtain ⟨_, _, rfl, a, ns, k, rfl, hl, hz, rfl, q⟩ := h
  refine ⟨_, pss_cons (ps_set (i := 2) scWell.nd rfl (Or.inl rfl) (pe_ifExp (pt_cmpR op_lt (pv 1) (pe_callB call_len_seq (by rfl) T.len boot_len (pa_cons (pv 0) pa_nil)) (nomark _)) (pe_ix ix_list (pv 0) (pv 1) (fun _ _ => rfl)) pe_int))
    (pss_one (ps_ret (pe_lst (pa_cons (pe_op op_mul (pv 2) (pe_callTy call_int1 (by rfl) T.int boot_intT (pa_cons (pe_cmpR op_ge (pv 2) (pe_op op_pow pe_int pe_int) (nomark _)) pa_nil)))
      (pa_cons (pe_op op_add (pe_op op_mod (pe_callTy call_int1 (by rfl) T.int boot_intT (pa_cons (pv 2) pa_nil)) pe_int) (pe_op op_mul pe_int (pv 1)))
      (pa_cons pe_int pa_nil)))))), ?_⟩
  have fin : ∀ c : Int, tRet (tLst (tCons (tOp (rI CMul fun i j => .int (i * j)) (tVar 2) (tCB (fun xs H Q => (∃ i, xs = [.int i] ∧ Q (.int i) H) ∨ ∃ k, xs = [.bl k] ∧ Q (.int (if k then 1 else 0)) H) (tCons (tOp (rI0 fun i j => .bl (decide (j ≤ i))) (tVar 2) (tOp (rI CPow fun i j => .int (i ^ j.toNat)) (tC (.int 10)) (tC (.int 18)))) tNil)))
      (tCons (tOp (rI0 fun i j => .int (i + j)) (tOp (rI (fun _ j => 0 < j) fun i j => .int (i % j)) (tCB (fun xs H Q => (∃ i, xs = [.int i] ∧ Q (.int i) H) ∨ ∃ k, xs = [.bl k] ∧ Q (.int (if k then 1 else 0)) H) (tCons (tVar 2) tNil)) (tC (.int 2147483579))) (tOp (rI CMul fun i j => .int (i * j)) (tC (.int 9173)) (tVar 1)))
      (tCons (tC (.int 0)) tNil)))) { nx := fun _ H' => Q .non H', rt := Q } [some (.ref a), some (.int (k : Nat)), some (.int c)] H := fun c => by
    refine ⟨_, rfl, _, rfl, _, _, rfl, rfl, ⟨by decide, by decide, by decide⟩, _, _, rfl, rfl, .inr ⟨_, rfl, _, _, rfl, rfl, .inr ?_, ?_⟩⟩
    · cases decide ((10 : Int) ^ (18 : Int).toNat ≤ c) <;> decide
    refine ⟨_, rfl, .inl ⟨_, rfl, _, _, rfl, rfl, (by show (0 : Int) < 2147483579; decide), _, rfl, _, _, rfl, rfl, .inl ⟨by decide, by decide⟩, _, _, rfl, rfl, ?_⟩⟩
    exact ⟨le1000 (n := 3) (by decide), fun p hp => q _ p (same_new hp) hp ⟨_, _, _, upd_same⟩⟩
  refine ⟨_, rfl, _, rfl, a, _, rfl, .inl hl, _, _, rfl, rfl, _, rfl, ite2 (fun e => ?_) (fun e => ?_)⟩
  · have e := of_decide_eq_true e
    rw [List.length_map] at e
    have hk : k < ns.length := by omega
    refine ⟨_, rfl, _, rfl, a, _, _, .int ns[k], rfl, rfl, hl, atI_nat (by rw [List.getElem?_map, List.getElem?_eq_getElem hk]; rfl), ?_⟩
    exact fin _
  · exact fin _
/-! ### _law_draw -/
def spDraw : Sp := sp2 fun x y H Q => ∃ (p : Addr) (b : Nat), x = .ref p ∧ WellAt H p ∧ y = .int (b : Nat) ∧ 1 ≤ b ∧ b ≤ 100000 ∧ ∀ (n : Nat) H', n < b → Keep p H H' → WellAt H' p → Q (.int (n : Nat)) H'
theorem scDraw : FnScope ["_law_well_here", "_law_bound", "_law_found", "_law_blend"] ["_law_well_here", "_law_bound"] (defScope sDraw) := ⟨rfl, rfl, rfl, by decide +kernel, rfl, by decide +kernel, by decide +kernel⟩
theorem ok_draw (T : Txt K mg) : DOk P w K mg base "_law_draw" ["_law_well_here", "_law_bound"] 1 spDraw := by
  refine DOk.of (q := "_law_draw") (st := sDraw) (k := 0) T 19 12 rfl rfl scDraw (fun _ _ _ _ _ _ us hl => match us, hl with | [_, _], _ => rfl) len2 fun cdv A outer s H vs Q E hr h => ?_
  obtain ⟨_, _, rfl, p, b, rfl, ⟨x, y, z, hw⟩, rfl, hb1, hb2, q⟩ := h
  have nd := scDraw.nd
  refine ⟨_, pss_cons (ps_if (pt_cmpR op_gt (pe_ix ix_list (pv 0) pe_int (fun _ _ => rfl)) pe_int (nomark _))
      (pss_cons (ps_set (i := 2) nd rfl (Or.inl rfl) (pe_op op_mod (pe_callTy call_int1 (by rfl) T.int boot_intT (pa_cons (pe_ix ix_list (pv 0) pe_int (fun _ _ => rfl)) pa_nil)) (pv 1)))
      (pss_cons (ps_asg (pe_op op_fdiv (pe_ix ix_list (pv 0) pe_int (fun _ _ => rfl)) (pv 1)) (pg_sub (pv 0) pe_int set_list (fun _ => rfl)))
      (pss_one (ps_ret (pv 2))))) pss_nil)
    (pss_cons (ps_asg (pe_op op_add (pe_ix ix_list (pv 0) pe_int (fun _ _ => rfl)) pe_int) (pg_sub (pv 0) pe_int set_list (fun _ => rfl)))
    (pss_cons (ps_set (i := 3) nd rfl (Or.inl rfl) (pe_op op_mod (pe_callTy call_int1 (by rfl) T.int boot_intT (pa_cons (pe_op op_add (pe_op op_add (pe_op op_mul (pe_ix ix_list (pv 0) pe_int (fun _ _ => rfl)) pe_int) (pe_op op_mul (pe_ix ix_list (pv 0) pe_int (fun _ _ => rfl)) pe_int)) pe_int) pa_nil)) pe_int))
    (pss_cons (ps_set (i := 3) nd rfl (Or.inl rfl) (pe_op op_mod (pe_callTy call_int1 (by rfl) T.int boot_intT (pa_cons (pe_op op_mul (pv 3) (pe_op op_add (pe_op op_fdiv (pv 3) pe_int) pe_int)) pa_nil)) pe_int))
    (pss_cons (ps_set (i := 3) nd rfl (Or.inl rfl) (pe_op op_mod (pe_callTy call_int1 (by rfl) T.int boot_intT (pa_cons (pe_op op_mul (pv 3) (pe_op op_add (pe_op op_fdiv (pv 3) pe_int) pe_int)) pa_nil)) pe_int))
    (pss_one (ps_ret (pe_op op_mod (pe_callTy call_int1 (by rfl) T.int boot_intT (pa_cons (pe_op op_fdiv (pv 3) pe_int) pa_nil)) (pv 1)))))))), ?_⟩
  have hb0 : (0 : Int) < (b : Int) := by omega
  have hbb : (b : Int) < 1073741824 := by omega
  refine ⟨_, rfl, p, _, _, _, rfl, rfl, SqL.of hw, atI_nat (j := 0) rfl, _, _, rfl, rfl, _, rfl, ite2 (fun e => ?_) (fun e => ?_)⟩
  · refine ⟨_, rfl, p, _, _, _, rfl, rfl, SqL.of hw, atI_nat (j := 0) rfl, .inl ⟨_, rfl, _, rfl, _, _, rfl, rfl, hb0, ?_⟩⟩
    refine ⟨_, rfl, p, _, _, _, rfl, rfl, SqL.of hw, atI_nat (j := 0) rfl, _, rfl, _, _, rfl, rfl, ⟨hb0, hbb⟩, ?_⟩
    refine ⟨_, rfl, p, _, _, 0, rfl, rfl, hw, rfl, ?_⟩
    obtain ⟨n, hn, e⟩ := drw (i := x) hb1 rfl
    refine ⟨_, rfl, ?_⟩
    show Q (.int (x % (b : Int))) _
    rw [e]
    exact q n _ hn (keep_upd Keep.rfl') ⟨_, _, _, upd_same⟩
  · refine ⟨_, rfl, p, _, _, _, rfl, rfl, SqL.of hw, atI_nat (j := 2) rfl, _, _, rfl, rfl, _, rfl, p, _, _, 2, rfl, rfl, hw, rfl, ?_⟩
    have hw2 : (upd H p (.lst ([.int x, .int y, .int z].set 2 (.int (z + 1))))) p = some (.lst [.int x, .int y, .int (z + 1)]) := upd_same
    have k2 : Keep p H (upd H p (.lst ([.int x, .int y, .int z].set 2 (.int (z + 1))))) := keep_upd Keep.rfl'
    refine ⟨_, rfl, p, _, _, _, rfl, rfl, SqL.of hw2, atI_nat (j := 1) rfl, _, _, rfl, rfl, .inr ⟨by decide, by decide⟩, ?_⟩
    refine ⟨_, rfl, p, _, _, _, rfl, rfl, SqL.of hw2, atI_nat (j := 2) rfl, _, _, rfl, rfl, .inr ⟨by decide, by decide⟩, _, _, rfl, rfl, _, _, rfl, rfl, .inl ⟨_, rfl, _, _, rfl, rfl, (by show (0 : Int) < 2147483629; decide), ?_⟩⟩
    refine ⟨_, rfl, _, rfl, _, _, rfl, rfl, ⟨by decide, by decide⟩, _, _, rfl, rfl, _, _, rfl, rfl, .inl (small_mod (by decide) (by decide)), .inl ⟨_, rfl, _, _, rfl, rfl, (by show (0 : Int) < 2147483587; decide), ?_⟩⟩
    refine ⟨_, rfl, _, rfl, _, _, rfl, rfl, ⟨by decide, by decide⟩, _, _, rfl, rfl, _, _, rfl, rfl, .inl (small_mod (by decide) (by decide)), .inl ⟨_, rfl, _, _, rfl, rfl, (by show (0 : Int) < 2147483563; decide), ?_⟩⟩
    refine ⟨_, rfl, _, _, rfl, rfl, ⟨by decide, by decide⟩, .inl ⟨_, rfl, _, rfl, _, _, rfl, rfl, hb0, ?_⟩⟩
    refine (fun (u : Int) => ?_ : ∀ u : Int, Q (.int (u % (b : Int))) _) _
    obtain ⟨n, hn, e⟩ := drw (i := u) hb1 rfl
    rw [e]
    exact q n _ hn k2 ⟨_, _, _, hw2⟩
end
end Tix
set_option Elab.async false
set_option linter.all false
set_option maxRecDepth 100000
set_option maxHeartbeats 4000000
/-! The law's picks, shapes, depths. -/
namespace Tix
open PySem PySem.Spec PyProof.Rows L2
theorem cut_pre {cs : List Nat} {k : Nat} (h : k ≤ cs.length) : cutV (cs.map lv) none (some (k : Int)) = (cs.take k).map lv := by
  unfold cutV
  rw [show HT.sIx (cs.map lv).length 0 none = 0 from rfl, HT.sIx_nat, List.length_map, Nat.min_eq_left h, List.drop_zero, Nat.sub_zero, List.map_take]
theorem cut_post {cs : List Nat} {k : Nat} (h : k ≤ cs.length) : cutV (cs.map lv) (some (k : Int)) none = (cs.drop k).map lv := by
  unfold cutV
  rw [show ∀ n, HT.sIx (cs.map lv).length n none = n from fun _ => rfl, HT.sIx_nat, List.length_map, Nat.min_eq_left h, ← List.map_drop, List.take_of_length_le]
  rw [List.length_map, List.length_drop]
  exact Nat.le_refl _
section
variable {P : Program} {w : World} {K : PySem.W.Frag} {mg : Str → Option Value} {base : Heap}
/-! ### _law_pick -/
def spPick : Sp := sp2 fun x y H Q => ∃ p : Addr, x = .ref p ∧ WellAt H p ∧
  ((∃ l, y = tv l ∧ 0 < l.length ∧ l.length ≤ 1000 ∧ ∀ c H', c ∈ l → Keep p H H' → WellAt H' p → Q (lv c) H') ∨
   (∃ q vs, y = .ref q ∧ q ≠ p ∧ H q = some (.lst vs) ∧ 0 < vs.length ∧ vs.length ≤ 1000 ∧ ∀ v H', v ∈ vs → Keep p H H' → WellAt H' p → Q v H'))
theorem scPick : FnScope ["_law_well_here", "_law_some"] ["_law_well_here", "_law_some"] (defScope sPick) := ⟨rfl, rfl, rfl, by decide +kernel, rfl, by decide +kernel, by decide +kernel⟩
theorem ok_pick (T : Txt K mg) : DOk P w K mg base "_law_pick" ["_law_well_here", "_law_some"] 2 spPick := by
  refine DOk.of (q := "_law_pick") (st := sPick) (k := 1) T 20 13 rfl rfl scPick (fun _ _ _ _ _ _ us hl => match us, hl with | [_, _], _ => rfl) len2 fun cdv A outer s H vs Q E hr h => ?_
  obtain ⟨_, _, rfl, p, rfl, hw, hq⟩ := h
  refine ⟨_, pss_one (ps_ret (pe_ix (ix_list.or ix_T) (pv 1) (pe_D (ok_draw T) hr (by rfl) (pa_cons (pv 0) (pa_cons (pe_callB call_len (by rfl) T.len boot_len (pa_cons (pv 1) pa_nil)) pa_nil))) (fun _ _ => rfl))), ?_⟩
  rcases hq with ⟨l, rfl, l1, l2, q⟩ | ⟨a, vs, rfl, ha, hv, l1, l2, q⟩
  · refine ⟨_, rfl, _, rfl, _, rfl, _, l.length, rfl, ⟨size_tx l2, tx_len l |>.symm⟩, _, _, rfl, p, l.length, rfl, hw, rfl, l1, by omega, fun n H' hn kp wa => .inr ?_⟩
    exact ⟨l, _, l[n], rfl, rfl, by omega, atI_nat (List.getElem?_eq_getElem hn), q _ H' (List.getElem_mem hn) kp wa⟩
  · refine ⟨_, rfl, _, rfl, _, rfl, _, vs.length, rfl, .inl ⟨_, SqL.of hv, rfl⟩, _, _, rfl, p, vs.length, rfl, hw, rfl, l1, by omega, fun n H' hn kp wa => .inl ?_⟩
    exact ⟨a, vs, _, vs[n], rfl, rfl, SqL.of (kp _ _ ha hv), atI_nat (List.getElem?_eq_getElem hn), q _ H' (List.getElem_mem hn) kp wa⟩
/-! ### _law_shape -/
def spShape (n : Nat) : Sp := sp2 fun x y H Q => ∃ (p q : Addr) (cs : List Nat), x = .ref p ∧ WellAt H p ∧ y = .ref q ∧ q ≠ p ∧ H q = some (.lst (cs.map lv)) ∧ 1 ≤ cs.length ∧ cs.length ≤ n + 1 ∧ cs.length ≤ 26 ∧
  ∀ H' v s, Keep p H H' → WellAt H' p → ShapeV H' v s → s.ls = cs → Q v H'
theorem scShape : FnScope ["_law_well_here", "_law_letters", "_law_at"] ["_law_well_here", "_law_letters"] (defScope sShape) := ⟨rfl, rfl, rfl, by decide +kernel, rfl, by decide +kernel, by decide +kernel⟩
theorem one_ls {cs : List Nat} (h : cs.length = 1) : ∃ c, cs = [c] := by
  match cs, h with
  | [c], _ => exact ⟨c, rfl⟩
theorem ok_shape0 (T : Txt K mg) : DOk P w K mg base "_law_shape" ["_law_well_here", "_law_letters"] 3 (spShape 0) := by
  refine DOk.of (q := "_law_shape") (st := sShape) (k := 2) T 21 14 rfl rfl scShape (fun _ _ _ _ _ _ us hl => match us, hl with | [_, _], _ => rfl) len2 fun cdv A outer s H vs Q E hr h => ?_
  obtain ⟨_, _, rfl, p, a, cs, rfl, hw, rfl, hap, ha, c1, c2, c3, q⟩ := h
  refine ⟨_, pss_cons (ps_if (pt_cmpR op_eq (pe_callB call_len_seq (by rfl) T.len boot_len (pa_cons (pv 1) pa_nil)) pe_int (nomark _)) (pss_one (ps_ret (pe_ix ix_list (pv 1) pe_int (fun _ _ => rfl)))) pss_nil) pss_never, ?_⟩
  obtain ⟨c, rfl⟩ := one_ls (show cs.length = 1 by omega)
  refine ⟨_, rfl, a, _, rfl, .inl (SqL.of ha), rfl, true, rfl, iteT ?_⟩
  exact ⟨_, rfl, a, _, _, _, rfl, rfl, SqL.of ha, atI_nat (j := 0) rfl, q H (lv c) (.leaf c) Keep.rfl' hw rfl rfl⟩
theorem ok_shapeS (T : Txt K mg) {n : Nat} (IH : DOk P w K mg base "_law_shape" ["_law_well_here", "_law_letters"] (3 + n) (spShape n)) : DOk P w K mg base "_law_shape" ["_law_well_here", "_law_letters"] (3 + n + 1) (spShape (n + 1)) := by
  refine DOk.of (q := "_law_shape") (st := sShape) (k := 3 + n) T 21 14 rfl rfl scShape (fun _ _ _ _ _ _ us hl => match us, hl with | [_, _], _ => rfl) len2 fun cdv A outer s H vs Q E hr h => ?_
  obtain ⟨_, _, rfl, p, a, cs, rfl, hw, rfl, hap, ha, c1, c2, c3, q⟩ := h
  have nd := scShape.nd
  have hr1 : Room 1 (A.deeper (envOfC "_law_shape" (defScope sShape) s.heap.objs.size (He.fAd K ("_law_shape", none)) cdv)) := hr.mono (by omega)
  have hr2 : Room 2 (A.deeper (envOfC "_law_shape" (defScope sShape) s.heap.objs.size (He.fAd K ("_law_shape", none)) cdv)) := hr.mono (by omega)
  refine ⟨_, pss_cons (ps_if (pt_cmpR op_eq (pe_callB call_len_seq (by rfl) T.len boot_len (pa_cons (pv 1) pa_nil)) pe_int (nomark _)) (pss_one (ps_ret (pe_ix ix_list (pv 1) pe_int (fun _ _ => rfl)))) pss_nil)
    (pss_cons (ps_set (i := 2) nd rfl (Or.inl rfl) (pe_op op_add pe_int (pe_D (ok_pick T) hr2 (by rfl) (pa_cons (pv 0) (pa_cons (pe_lst (pa_cons pe_int (pa_cons (pe_op op_sub (pe_callB call_len_seq (by rfl) T.len boot_len (pa_cons (pv 1) pa_nil)) pe_int)
        (pa_cons (pe_D (ok_draw T) hr1 (by rfl) (pa_cons (pv 0) (pa_cons (pe_op op_sub (pe_callB call_len_seq (by rfl) T.len boot_len (pa_cons (pv 1) pa_nil)) pe_int) pa_nil))) pa_nil)))) pa_nil)))))
    (pss_one (ps_ret (pe_tup (pa_cons (pe_D IH hr (by rfl) (pa_cons (pv 0) (pa_cons (pe_slice sl_list (pv 1) po_none (po_some (pv 2))) pa_nil)))
      (pa_cons (pe_D IH hr (by rfl) (pa_cons (pv 0) (pa_cons (pe_slice sl_list (pv 1) (po_some (pv 2)) po_none) pa_nil))) pa_nil)))))), ?_⟩
  refine ⟨_, rfl, a, _, rfl, .inl (SqL.of ha), rfl, _, rfl, ite2 (fun e => ?_) (fun e => ?_)⟩
  · have e := of_decide_eq_true e
    injection e with e
    rw [List.length_map] at e
    obtain ⟨c, rfl⟩ := one_ls (show cs.length = 1 by omega)
    exact ⟨_, rfl, a, _, _, _, rfl, rfl, SqL.of ha, atI_nat (j := 0) rfl, q H (lv c) (.leaf c) Keep.rfl' hw rfl rfl⟩
  · have hl2 : 2 ≤ cs.length := by
      have : ¬ cs.length = 1 := fun h1 => e (decide_eq_true (by rw [List.length_map, h1]; rfl))
      omega
    refine ⟨_, rfl, _, rfl, a, _, rfl, .inl (SqL.of ha), _, _, rfl, rfl, ?_⟩
    refine ⟨_, rfl, _, rfl, a, _, rfl, .inl (SqL.of ha), _, _, rfl, rfl, _, _, rfl, p, cs.length - 1, rfl, hw, ?_, by omega, by omega, fun d H1 hd k1 w1 => ?_⟩
    · rw [List.length_map]
      exact congrArg V.int (by omega)
    refine ⟨le1000 (n := 3) (by decide), fun b hb => ?_⟩
    have sb := same_new (o := .lst [.int 0, .int (((cs.map lv).length : Nat) - 2), .int (d : Nat)]) hb
    have ha1 := k1 _ _ hap ha
    have w1' := w1.same sb
    have hbp : b ≠ p := by
      obtain ⟨_, _, _, w0⟩ := w1
      exact Ne.symm (ne_of_none w0 hb)
    refine ⟨_, _, rfl, p, rfl, w1', .inr ⟨b, _, rfl, hbp, upd_same, (by show 0 < 3; decide), (by show 3 ≤ 1000; decide), fun v H2 hv k2 w2 => ?_⟩⟩
    obtain ⟨m, rfl, hm⟩ : ∃ m : Nat, v = .int (m : Nat) ∧ m + 2 ≤ cs.length := by
      rcases List.mem_cons.mp hv with rfl | hv
      · exact ⟨0, rfl, hl2⟩
      rcases List.mem_cons.mp hv with rfl | hv
      · exact ⟨cs.length - 2, congrArg V.int (by rw [List.length_map]; omega), by omega⟩
      · rw [List.mem_singleton] at hv
        exact ⟨d, hv, by omega⟩
    refine ⟨_, _, rfl, rfl, ?_⟩
    have ha2 := k2 _ _ hap (sb _ _ ha1)
    have k02 : Keep p H H2 := (keep_same k1 sb).trans k2
    have em : (1 : Int) + (m : Nat) = ((m + 1 : Nat) : Int) := by omega
    refine ⟨_, rfl, _, rfl, _, rfl, _, rfl, a, _, rfl, SqL.of ha2, fun c hc => ?_⟩
    rw [em, cut_pre (by omega)]
    have sc := same_new (o := .lst ((cs.take (m + 1)).map lv)) hc
    have w2' := w2.same sc
    have hcp : c ≠ p := by
      obtain ⟨_, _, _, w0⟩ := w2
      exact Ne.symm (ne_of_none w0 hc)
    have l1 : (cs.take (m + 1)).length = m + 1 := by
      rw [List.length_take]
      omega
    refine ⟨_, _, rfl, p, c, cs.take (m + 1), rfl, w2', rfl, hcp, upd_same, by omega, by omega, by omega, fun H3 v1 s1 k3 w3 h1 e1 => ?_⟩
    have ha3 := k3 _ _ hap (sc _ _ ha2)
    refine ⟨_, rfl, _, rfl, _, rfl, _, rfl, a, _, rfl, SqL.of ha3, fun d2 hd2 => ?_⟩
    rw [em, cut_post (by omega)]
    have sd := same_new (o := .lst ((cs.drop (m + 1)).map lv)) hd2
    have w3' := w3.same sd
    have hdp : d2 ≠ p := by
      obtain ⟨_, _, _, w0⟩ := w3
      exact Ne.symm (ne_of_none w0 hd2)
    have l2 : (cs.drop (m + 1)).length = cs.length - (m + 1) := List.length_drop
    refine ⟨_, _, rfl, p, d2, cs.drop (m + 1), rfl, w3', rfl, hdp, upd_same, by omega, by omega, by omega, fun H4 v2 s2 k4 w4 h2 e2 => ?_⟩
    refine ⟨le1000 (n := 2) (by decide), fun tp htp => ?_⟩
    have st := same_new (o := .tup [v1, v2]) htp
    have k34 := (Same.keep sd).trans k4
    have h1' := (h1.tups (w3.tups k34)).same st
    refine q _ (.ref tp) (.node s1 s2) ((keep_same (k02.trans ((Same.keep sc).trans (k3.trans k34))) st)) (w4.same st) ⟨tp, v1, v2, rfl, upd_same, h1', h2.same st⟩ ?_
    show s1.ls ++ s2.ls = cs
    rw [e1, e2, List.take_append_drop]
theorem ok_shape (T : Txt K mg) : ∀ n, DOk P w K mg base "_law_shape" ["_law_well_here", "_law_letters"] (3 + n) (spShape n)
  | 0 => ok_shape0 T
  | n + 1 => ok_shapeS T (ok_shape T n)
end
end Tix
set_option Elab.async false
set_option linter.all false
set_option maxRecDepth 100000
set_option maxHeartbeats 4000000
/-! The law's depths. -/
namespace Tix
open PySem PySem.Spec PyProof.Rows L2
section
variable {P : Program} {w : World} {K : PySem.W.Frag} {mg : Str → Option Value} {base : Heap}
def spLDepths (n : Nat) : Sp := sp3 fun x y z H Q => ∃ s dd a kvs, ShapeV H x s ∧ s.ht ≤ n ∧ Fine s ∧ y = .int (dd : Nat) ∧ z = .ref a ∧ H a = some (.dK kvs) ∧ kvs.length + s.ls.length ≤ 60 ∧
  ∀ H' kvs', Keep a H H' → H' a = some (.dK kvs') → kvs'.length ≤ kvs.length + s.ls.length → (∀ c ∈ s.ls, valV kvs' (Sum.inr (lt c)) = some (.int ((dof s c + dd : Nat) : Int))) →
    (∀ c, c ∉ s.ls → valV kvs' (Sum.inr (lt c)) = valV kvs (Sum.inr (lt c))) → Q (.ref a) H'
theorem scLDepths : FnScope ["_law_shape_here", "_law_deep", "_law_found"] ["_law_shape_here", "_law_deep", "_law_found"] (defScope sLDepths) := ⟨rfl, rfl, rfl, by decide +kernel, rfl, by decide +kernel, by decide +kernel⟩
theorem leaf_put {H : Hp} {a : Addr} {kvs : List (Key × V)} {c dd : Nat} {Q : VK} (ha : H a = some (.dK kvs)) (h60 : kvs.length + (Sh.leaf c).ls.length ≤ 60)
    (k : ∀ H' kvs', Keep a H H' → H' a = some (.dK kvs') → kvs'.length ≤ kvs.length + (Sh.leaf c).ls.length → (∀ c' ∈ (Sh.leaf c).ls, valV kvs' (Sum.inr (lt c')) = some (.int ((dof (.leaf c) c' + dd : Nat) : Int))) →
      (∀ c', c' ∉ (Sh.leaf c).ls → valV kvs' (Sum.inr (lt c')) = valV kvs (Sum.inr (lt c'))) → Q (.ref a) H') : Q (.ref a) (upd H a (.dK (putK kvs (Sum.inr (lt c)) (.int (dd : Nat))))) := by
  refine k _ _ (keep_upd Keep.rfl') upd_same (putK_le _ _ _) (fun c' hc' => ?_) (fun c' hc' => ?_)
  · rw [List.mem_singleton.mp hc', valV_put, if_pos rfl]
    show _ = some (V.int ((0 + dd : Nat) : Int))
    rw [Nat.zero_add]
  · rw [valV_put, if_neg (fun e => hc' (by rw [lt_inj (Sum.inr.inj e)]; exact List.mem_singleton.mpr rfl))]
theorem ok_lDepths0 (T : Txt K mg) : DOk P w K mg base "_law_depths" ["_law_shape_here", "_law_deep", "_law_found"] 1 (spLDepths 0) := by
  refine DOk.of (q := "_law_depths") (st := sLDepths) (k := 0) T 23 16 rfl rfl scLDepths (fun _ _ _ _ _ _ us hl => match us, hl with | [_, _, _], _ => rfl) len3 fun cdv A outer s H vs Q E hr h => ?_
  obtain ⟨x, _, _, rfl, sh, dd, a, kvs, hx, h0, hF, rfl, rfl, ha, h60, k⟩ := h
  refine ⟨_, pss_cons (ps_if (pt_val (pe_isi (pv 0) T.isinstance T.str_ boot_strT)) (pss_one (ps_dput (hu_of hr) (pv 2) (pv 0) (pv 1) rfl)) pss_never) (pss_one (ps_ret (pv 2))), ?_⟩
  cases sh with
  | node l r => exact absurd h0 (Nat.not_succ_le_zero _)
  | leaf c =>
    cases (show x = lv c from hx)
    refine isi_v rfl (.base (.str _)) kit_ss ⟨true, rfl, iteT ?_⟩
    refine ⟨_, rfl, _, rfl, _, rfl, a, _, rfl, DPut.k (k := Sum.inr (lt c)) ha (small1000 (by omega)), ?_⟩
    exact ⟨_, rfl, leaf_put ha h60 k⟩
theorem ok_lDepthsS (T : Txt K mg) {n : Nat} (IH : DOk P w K mg base "_law_depths" ["_law_shape_here", "_law_deep", "_law_found"] (1 + n) (spLDepths n)) :
    DOk P w K mg base "_law_depths" ["_law_shape_here", "_law_deep", "_law_found"] (1 + n + 1) (spLDepths (n + 1)) := by
  refine DOk.of (q := "_law_depths") (st := sLDepths) (k := 1 + n) T 23 16 rfl rfl scLDepths (fun _ _ _ _ _ _ us hl => match us, hl with | [_, _, _], _ => rfl) len3 fun cdv A outer s H vs Q E hr h => ?_
  obtain ⟨x, _, _, rfl, sh, dd, a, kvs, hx, h0, hF, rfl, rfl, ha, h60, k⟩ := h
  refine ⟨_, pss_cons (ps_if (pt_val (pe_isi (pv 0) T.isinstance T.str_ boot_strT)) (pss_one (ps_dput (hu_of hr) (pv 2) (pv 0) (pv 1) rfl))
    (pss_cons (ps_expr (pe_D IH hr (by rfl) (pa_cons (pe_ix ix_tup (pv 0) pe_int (fun _ _ => rfl)) (pa_cons (pe_op op_add (pv 1) pe_int) (pa_cons (pv 2) pa_nil)))))
      (pss_one (ps_expr (pe_D IH hr (by rfl) (pa_cons (pe_ix ix_tup (pv 0) pe_int (fun _ _ => rfl)) (pa_cons (pe_op op_add (pv 1) pe_int) (pa_cons (pv 2) pa_nil)))))))) (pss_one (ps_ret (pv 2))), ?_⟩
  cases sh with
  | leaf c =>
    cases (show x = lv c from hx)
    refine isi_v rfl (.base (.str _)) kit_ss ⟨true, rfl, iteT ?_⟩
    refine ⟨_, rfl, _, rfl, _, rfl, a, _, rfl, DPut.k (k := Sum.inr (lt c)) ha (small1000 (by omega)), ?_⟩
    exact ⟨_, rfl, leaf_put ha h60 k⟩
  | node l r =>
    obtain ⟨va, vl, vr, rfl, hva, hvl, hvr⟩ := hx
    have hh : l.ht ≤ n ∧ r.ht ≤ n := by
      have : max l.ht r.ht + 1 ≤ n + 1 := h0
      omega
    have hls : (Sh.node l r).ls.length = l.ls.length + r.ls.length := List.length_append
    refine isi_v rfl (.base (.tup hva)) kit_ts ⟨false, rfl, iteF ?_⟩
    refine ⟨_, rfl, va, _, _, _, rfl, rfl, SqT.of hva, atI_nat (j := 0) rfl, _, rfl, _, _, rfl, rfl, _, rfl, _, _, _, rfl, l, dd + 1, a, kvs, hvl, hh.1, fine_l hF, rfl, rfl, ha, by omega, fun H1 kv1 k1 a1 z1 p1 q1 => ?_⟩
    have tu : Tups H H1 := k1.tups fun xs e => by
      rw [ha] at e
      cases e
    refine ⟨_, rfl, va, _, _, _, rfl, rfl, SqT.of (tu _ _ hva), atI_nat (j := 1) rfl, _, rfl, _, _, rfl, rfl, _, rfl, _, _, _, rfl, r, dd + 1, a, kv1, hvr.tups tu, hh.2, fine_r hF, rfl, rfl, a1, by omega, fun H2 kv2 k2 a2 z2 p2 q2 => ?_⟩
    refine ⟨_, rfl, k H2 kv2 (k1.trans k2) a2 (by omega) (fun c hc => ?_) (fun c hc => ?_)⟩
    · by_cases hr : c ∈ r.ls
      · rw [p2 c hr, dof_r hr]
        exact congrArg (fun n : Nat => some (V.int n)) (by omega)
      · have hl : c ∈ l.ls := by
          rcases mem_node.mp hc with e | e
          · exact e
          · exact absurd e hr
        rw [q2 c hr, p1 c hl, dof_l hF.2.1 hl]
        exact congrArg (fun n : Nat => some (V.int n)) (by omega)
    · rw [q2 c (fun e => hc (mem_node.mpr (.inr e))), q1 c (fun e => hc (mem_node.mpr (.inl e)))]
theorem ok_lDepths (T : Txt K mg) : ∀ n, DOk P w K mg base "_law_depths" ["_law_shape_here", "_law_deep", "_law_found"] (1 + n) (spLDepths n)
  | 0 => ok_lDepths0 T
  | n + 1 => ok_lDepthsS T (ok_lDepths T n)
end
end Tix
set_option Elab.async false
set_option linter.all false
set_option maxRecDepth 100000
set_option maxHeartbeats 4000000
/-! The law's texts. -/
namespace Tix
open PySem PySem.Spec PyProof.Rows L2
theorem txt_lit {z : Str} (h1 : (z.cps.toList.all fun c => decide (97 ≤ c ∧ c ≤ 122)) = true) (h2 : decide (1 ≤ z.cps.toList.length ∧ z.cps.toList.length ≤ 26) = true) : ∃ l, V.str z = tv l ∧ Alpha l ∧ 1 ≤ l.length ∧ l.length ≤ 26 := by
  refine ⟨z.cps.toList, congrArg V.str (tx_of z), fun c hc => of_decide_eq_true (List.all_eq_true.mp h1 c hc), (of_decide_eq_true h2).1, (of_decide_eq_true h2).2⟩
theorem slice_sub {l : List Nat} {a b : Nat} : (∀ c ∈ (l.drop a).take b, c ∈ l) ∧ ((l.drop a).take b).length ≤ l.length := by
  refine ⟨fun c hc => List.mem_of_mem_drop (List.mem_of_mem_take hc), ?_⟩
  rw [List.length_take, List.length_drop]
  omega
theorem slice_pre {l : List Nat} {k n : Nat} : ((l.drop n).take (HT.sIx l.length l.length (some (k : Int)) - n)).length ≤ k := by
  rw [HT.sIx_nat, List.length_take]
  omega
theorem WellAt.upd_ {H : Hp} {p d : Addr} {o : HO} (h : WellAt H p) (n : p ≠ d) : WellAt (upd H d o) p := by
  obtain ⟨a, b, c, e⟩ := h
  exact ⟨a, b, c, (upd_ne n).trans e⟩
theorem WellAt.ne_new {H : Hp} {p d : Addr} (h : WellAt H p) (n : H d = none) : p ≠ d := by
  obtain ⟨a, b, c, e⟩ := h
  exact ne_of_none e n
theorem flat_len {m : Nat} : ∀ {ws : List (List Nat)}, (∀ w ∈ ws, w.length ≤ m) → ws.flatten.length ≤ ws.length * m
  | [], _ => Nat.zero_le _
  | w :: ws, h => by
    have h1 := flat_len (ws := ws) fun v hv => h v (List.mem_cons_of_mem _ hv)
    have h2 := h w (List.mem_cons_self ..)
    rw [List.flatten_cons, List.length_append, List.length_cons, Nat.succ_mul]
    omega
theorem lens_tx {ws : List (List Nat)} : ((ws.map tx).map (·.length)).sum = ws.flatten.length := by
  induction ws with
  | nil => rfl
  | cons w ws ih =>
    show (tx w).length + ((ws.map tx).map (·.length)).sum = _
    rw [ih, tx_len, List.flatten_cons, List.length_append]
theorem join_go {K : PySem.W.Frag} {H : Hp} {D : Addr} {ws : List (List Nat)} {m : Nat} {Q : VK} (h : H D = some (.lst (ws.map tv))) (hw : ∀ w ∈ ws, Alpha w ∧ w.length ≤ m) (hm : ws.length * m ≤ 100000)
    (q : ∀ l, Alpha l → l.length ≤ ws.length * m → Q (tv l) H) : rJoinK K (.str "") [.ref D] H Q := by
  have e : ws.map tv = (ws.map tx).map V.str := by
    rw [List.map_map]
    rfl
  rw [e] at h
  have hl := flat_len (ws := ws) (m := m) fun w hw' => (hw w hw').2
  refine ⟨tx [], D, _, rfl, rfl, .inl (SqL.of h), ?_, ?_⟩
  · rw [lens_tx]
    show _ + _ * 0 ≤ _
    omega
  · rw [join_empty]
    refine q _ (fun c hc => ?_) hl
    obtain ⟨w, hw1, hw2⟩ := List.mem_flatten.mp hc
    exact (hw w hw1).1 c hw2
/-- a comprehension over a range that draws from the well: texts of few letters -/
theorem lc_ws {lo : Int} {n i0 m : Nat} {p D : Addr} {Hc : Hp} {te : TE} {σ : L2.St} {Qd : Hp → Prop} (hD : Hc D = none) (hw : WellAt Hc p) (hn : n ≤ 1000)
    (ht : ∀ i H' Q, Keep p Hc H' → WellAt H' p → (∀ w H4, Alpha w → w.length ≤ m → Keep p H' H4 → WellAt H4 p → Q (tv w) H4) → te ((wipe σ [i0]).set i0 (some (.int (lo + (i : Nat))))) H' Q)
    (hs : wipe ((wipe σ [i0]).set i0 none) [i0] = wipe σ [i0])
    (hd : ∀ H' (ws : List (List Nat)), Keep p Hc H' → WellAt H' p → H' D = some (.lst (ws.map tv)) → ws.length = n → (∀ w ∈ ws, Alpha w ∧ w.length ≤ m) → Qd H') :
    ∃ W : Nat → Nat → Hp → Prop, (∃ m, W 0 m (upd Hc D (.lst []))) ∧ ∀ i m H, W i m H →
      ((Itr lo n).stop i H ∧ Qd H) ∨ ((Itr lo n).go i H ∧ ∃ Nx : Hp → Prop, (∀ H', Nx H' → ∃ m', m' < m ∧ W (i + 1) m' H') ∧ ∀ x H', (Itr lo n).yld i H x H' → gName i0 x (wipe σ [i0]) H' fun σ2 H2 => wipe σ2 [i0] = wipe σ [i0] ∧ tYes σ2 H2 fun b H3 =>
        if b = true then te σ2 H3 fun y H4 => ∃ acc, H4 D = some (.lst acc) ∧ acc.length < sizeLine ∧ Nx (upd H4 D (.lst (acc ++ [y]))) else Nx H3) := by
  have npD := hw.ne_new hD
  refine lc_pl walk_range (fun i H' => Keep p Hc H' ∧ WellAt H' p ∧ ∃ ws : List (List Nat), ws.length = i ∧ (∀ w ∈ ws, Alpha w ∧ w.length ≤ m) ∧ H' D = some (.lst (ws.map tv))) ?_ (fun _ _ _ _ => True.intro) ?_ ?_
  · exact ⟨Same.keep (same_new hD), hw.upd_ npD, [], rfl, (fun _ h => nomatch h), upd_same⟩
  · rintro i x H1 H2 hi ⟨k1, w1, ws, e1, e2, e3⟩ ⟨rfl, rfl⟩
    refine ⟨?_, ht i _ _ k1 w1 fun v H4 a1 a2 k4 w4 => ⟨_, k4 _ _ (Ne.symm npD) e3, ?_, keep_mut (k1.trans k4) hD, w4.upd_ npD, ws ++ [v], ?_, ?_, ?_⟩⟩
    · simp only [wipe, List.set_set]
    · rw [List.length_map]
      exact small1000 (by omega)
    · rw [List.length_append, e1]
      rfl
    · intro u hu
      rcases List.mem_append.mp hu with hu | hu
      · exact e2 u hu
      · rw [List.mem_singleton.mp hu]
        exact ⟨a1, a2⟩
    · rw [upd_same, List.map_append]
      rfl
  · rintro H' ⟨k1, w1, ws, e1, e2, e3⟩
    exact hd H' ws k1 w1 e3 e1 e2
section
variable {P : Program} {w : World} {K : PySem.W.Frag} {mg : Str → Option Value} {base : Heap}
def spText : Sp := sp2 fun x y H Q => ∃ (p : Addr) (m : Nat), x = .ref p ∧ WellAt H p ∧ y = .int (m : Nat) ∧ m ≤ 300 ∧ ∀ l H', Alpha l → l.length ≤ m → Keep p H H' → WellAt H' p → Q (tv l) H'
abbrev nText : List Str := ["_law_well_here", "_law_most", "_law_signs", "_law_size", "_law_way", "_law_word", "_law_one", "_law_other", "_law_turn", "_law_k"]
theorem scText : FnScope nText ["_law_well_here", "_law_most"] (defScope sText) := ⟨rfl, rfl, rfl, by decide +kernel, rfl, by decide +kernel, by decide +kernel⟩
theorem ok_text (T : Txt K mg) : DOk P w K mg base "_law_text" ["_law_well_here", "_law_most"] 3 spText := by
  refine DOk.of (q := "_law_text") (st := sText) (k := 2) T 22 15 rfl rfl scText (fun _ _ _ _ _ _ us hl => match us, hl with | [_, _], _ => rfl) len2 fun cdv A outer s H vs Q E hr h => ?_
  obtain ⟨_, _, rfl, p, m, rfl, hw, rfl, hm, k⟩ := h
  have nd := scText.nd
  have hr1 : Room 1 (A.deeper (envOfC "_law_text" (defScope sText) s.heap.objs.size (He.fAd K ("_law_text", none)) cdv)) := hr.mono (by omega)
  refine ⟨_, pss_cons (ps_set (i := 2) nd rfl (Or.inr rfl) (pe_D (ok_pick T) hr (by rfl) (pa_cons (pv 0) (pa_cons (pe_lst (pa_cons pe_str (pa_cons pe_str (pa_cons pe_str (pa_cons pe_str (pa_cons pe_str (pa_cons pe_str pa_nil))))))) pa_nil))))
    (pss_cons (ps_par (i := 3) (j := 4) rfl nd rfl rfl (by decide) rfl rfl (pa_cons (pe_D (ok_draw T) hr1 (by rfl) (pa_cons (pv 0) (pa_cons (pe_op op_add (pv 1) pe_int) pa_nil))) (pa_cons (pe_D (ok_draw T) hr1 (by rfl) (pa_cons (pv 0) (pa_cons pe_int pa_nil))) pa_nil)) rfl)
    (pss_cons (ps_if (pt_cmpR op_eq (pv 4) pe_int (nomark _))
      (pss_cons (ps_set (i := 5) nd rfl (Or.inl rfl) (pe_joinK (K := K) rfl pe_str (pe_lc (own := [("_law_k", 9)]) (g := gName 9) (tt := tYes) rfl nd (pi_range1 (by rfl) T.range (pa_cons (pe_op op_add pe_int (pe_D (ok_draw T) hr1 (by rfl) (pa_cons (pv 0) (pa_cons pe_int pa_nil)))) pa_nil))
          (blkOk_by (N := nText) (sc := defScope sText) (by decide +kernel)) (fun _ _ _ _ _ => pg_name (i := 9) nd rfl (Or.inl rfl)) (fun _ _ _ _ _ => pts_nil)
          (fun _ _ _ _ _ => pe_D (ok_pick T) hr (by rfl) (pa_cons (pv 0) (pa_cons (pv 2) pa_nil))))))
        (pss_one (ps_ret (pe_slice sl_T (pe_op op_mulT (pv 5) (pe_op op_add (pv 3) pe_int)) po_none (po_some (pv 3)))))) pss_nil)
    (pss_cons (ps_if (pt_cmpR op_eq (pv 4) pe_int (nomark _))
      (pss_one (ps_ret (pe_slice sl_T (pe_joinK (K := K) rfl pe_str (pe_lc (own := [("_law_k", 9)]) (g := gName 9) (tt := tYes) rfl nd (pi_range1 (by rfl) T.range (pa_cons (pv 3) pa_nil))
          (blkOk_by (N := nText) (sc := defScope sText) (by decide +kernel)) (fun _ _ _ _ _ => pg_name (i := 9) nd rfl (Or.inl rfl)) (fun _ _ _ _ _ => pts_nil)
          (fun _ _ _ _ _ => pe_op op_mulT (pe_D (ok_pick T) hr (by rfl) (pa_cons (pv 0) (pa_cons (pv 2) pa_nil))) (pe_op op_add pe_int (pe_D (ok_draw T) hr1 (by rfl) (pa_cons (pv 0) (pa_cons pe_int pa_nil))))))) po_none (po_some (pv 3))))) pss_nil)
    (pss_cons (ps_if (pt_cmpR op_eq (pv 4) pe_int (nomark _))
      (pss_cons (ps_par (i := 6) (j := 7) rfl nd rfl rfl (by decide) rfl rfl (pa_cons (pe_slice sl_T (pv 2) (po_some (pe_un un_neg pe_int)) po_none) (pa_cons (pe_op op_addT (pe_slice sl_T (pv 2) (po_some (pe_un un_neg pe_int)) po_none) (pe_slice sl_T (pv 2) po_none (po_some pe_int))) pa_nil)) rfl)
      (pss_cons (ps_for PassesOwn.never rfl (pi_range1 (by rfl) T.range (pa_cons pe_int pa_nil)) (pg_name (i := 8) nd rfl (Or.inl rfl)) (pss_one (ps_par (i := 6) (j := 7) rfl nd rfl rfl (by decide) rfl rfl (pa_cons (pv 7) (pa_cons (pe_op op_addT (pv 7) (pv 6)) pa_nil)) rfl)))
      (pss_one (ps_ret (pe_slice sl_T (pe_op op_addT (pe_D (ok_pick T) hr (by rfl) (pa_cons (pv 0) (pa_cons (pv 2) pa_nil))) (pv 7)) po_none (po_some (pv 3))))))) pss_nil)
    (pss_one (ps_ret (pe_joinK (K := K) rfl pe_str (pe_lc (own := [("_law_k", 9)]) (g := gName 9) (tt := tYes) rfl nd (pi_range1 (by rfl) T.range (pa_cons (pv 3) pa_nil))
          (blkOk_by (N := nText) (sc := defScope sText) (by decide +kernel)) (fun _ _ _ _ _ => pg_name (i := 9) nd rfl (Or.inl rfl)) (fun _ _ _ _ _ => pts_nil)
          (fun _ _ _ _ _ => pe_D (ok_pick T) hr (by rfl) (pa_cons (pv 0) (pa_cons (pv 2) pa_nil))))))))))), ?_⟩
  refine ⟨_, rfl, le1000 (n := 6) (by decide), fun b hb => ?_⟩
  have hbp := Ne.symm (hw.ne_new hb)
  have sb := same_new (o := .lst [.str "a", .str "ab", .str "abc", .str "axz", .str "abcdef", .str "abcdefghijklmnopqrstuvwxyz"]) hb
  refine ⟨_, _, rfl, p, rfl, hw.same sb, .inr ⟨b, _, rfl, hbp, upd_same, (by show 0 < 6; decide), (by show 6 ≤ 1000; decide), fun v H1 hv k1 w1 => ?_⟩⟩
  obtain ⟨sg, rfl, sa, s1, s2⟩ : ∃ l, v = tv l ∧ Alpha l ∧ 1 ≤ l.length ∧ l.length ≤ 26 := by
    rcases List.mem_cons.mp hv with rfl | hv
    · exact txt_lit (by decide +kernel) (by decide +kernel)
    rcases List.mem_cons.mp hv with rfl | hv
    · exact txt_lit (by decide +kernel) (by decide +kernel)
    rcases List.mem_cons.mp hv with rfl | hv
    · exact txt_lit (by decide +kernel) (by decide +kernel)
    rcases List.mem_cons.mp hv with rfl | hv
    · exact txt_lit (by decide +kernel) (by decide +kernel)
    rcases List.mem_cons.mp hv with rfl | hv
    · exact txt_lit (by decide +kernel) (by decide +kernel)
    rw [List.mem_singleton] at hv
    subst hv
    exact txt_lit (by decide +kernel) (by decide +kernel)
  have k1 : Keep p H H1 := (Same.keep sb).trans k1
  refine ⟨_, rfl, _, rfl, _, _, rfl, rfl, _, _, rfl, p, m + 1, rfl, w1, rfl, by omega, by omega, fun sz H2 hsz k2 w2 => ?_⟩
  have k2 := k1.trans k2
  refine ⟨_, rfl, _, _, rfl, p, 5, rfl, w2, rfl, by decide, by decide, fun wy H3 hwy k3 w3 => ⟨_, _, rfl, ?_⟩⟩
  have k3 := k2.trans k3
  have pick : ∀ {Hc H' : Hp} {lst : List (Option V)} {x : V} {Q : VK}, WellAt H' p → (∀ w H4, Alpha w → w.length ≤ 1 → Keep p H' H4 → WellAt H4 p → Q (tv w) H4) →
      tCall spPick [] E0 (tCons (tVar 0) (tCons (tVar 2) tNil)) (some (.ref p) :: some (.int (m : Nat)) :: some (tv sg) :: lst) H' Q := fun w' q =>
    ⟨_, rfl, _, rfl, _, _, rfl, p, rfl, w', .inl ⟨sg, rfl, s1, by omega, fun c H4 hc kp wa => q [c] H4 (fun d hd => by rw [List.mem_singleton.mp hd]; exact sa c hc) (Nat.le_refl _) kp wa⟩⟩
  refine ⟨_, rfl, rfl, _, rfl, ite2 (fun e => ?_) (fun e => ?_)⟩
  · refine ⟨⟨_, rfl⟩, _, rfl, _, _, rfl, p, 5, rfl, w3, rfl, by decide, by decide, fun d H4 hd k4 w4 => ⟨_, _, rfl, rfl, _, rfl, by omega, by omega, fun D hD => ?_⟩⟩
    refine lc_ws (m := 1) hD w4 (by omega) (fun i H' Q _ w' q => pick (Hc := H') (x := .non) w' q) rfl fun H5 ws k5 w5 h5 hl hws => ?_
    have hl : ws.length ≤ 5 := by omega
    refine join_go h5 hws (by omega) fun l la ll => ?_
    refine ⟨_, rfl, _, rfl, _, _, rfl, rfl, l, sz + 1, rfl, rfl, ?_, by omega, ?_⟩
    · have h1 : l.length * (sz + 1) ≤ 5 * (sz + 1) := Nat.mul_le_mul_right _ (by omega)
      omega
    refine ⟨_, rfl, _, rfl, _, rfl, ?_, k _ H5 (fun c hc => ?_) ?_ ((k3.trans k4).trans k5) w5⟩
    · rw [List.length_flatten, List.map_replicate, List.sum_replicate_nat]
      have h1 : (sz + 1) * l.length ≤ (sz + 1) * 5 := Nat.mul_le_mul_left _ (by omega)
      omega
    · have := List.mem_of_mem_drop (List.mem_of_mem_take hc)
      obtain ⟨u, hu, hc⟩ := List.mem_flatten.mp this
      rw [(List.mem_replicate.mp hu).2] at hc
      exact la c hc
    · exact Nat.le_trans slice_pre (by omega)
  refine ⟨_, rfl, rfl, _, rfl, ite2 (fun e => ?_) (fun e => ?_)⟩
  · refine ⟨⟨_, rfl⟩, _, rfl, _, rfl, by omega, by omega, fun D hD => ?_⟩
    refine lc_ws (m := 5) hD w3 (by omega) (fun i H' Q kk w' q => pick (Hc := H') (x := .non) w' fun u H4 ua ul k4 w4 => ?_) rfl fun H5 ws k5 w5 h5 hl hws => ?_
    · refine ⟨_, rfl, _, _, rfl, p, 5, rfl, w4, rfl, by decide, by decide, fun d H6 hd k6 w6 => ⟨_, _, rfl, rfl, u, 1 + d, rfl, congrArg V.int (by omega), ?_, by omega, q _ H6 (fun c hc => ?_) ?_ (k4.trans k6) w6⟩⟩
      · have h1 : u.length * (1 + d) ≤ 1 * (1 + d) := Nat.mul_le_mul_right _ ul
        omega
      · obtain ⟨x, hx, hc⟩ := List.mem_flatten.mp hc
        rw [(List.mem_replicate.mp hx).2] at hc
        exact ua c hc
      · rw [List.length_flatten, List.map_replicate, List.sum_replicate_nat]
        have h1 : (1 + d) * u.length ≤ (1 + d) * 1 := Nat.mul_le_mul_left _ ul
        omega
    have hl : ws.length ≤ 300 := by omega
    refine join_go h5 hws (by omega) fun l la ll => ?_
    refine ⟨_, rfl, _, rfl, l, rfl, by omega, k _ H5 (fun c hc => la c (slice_sub.1 c hc)) ?_ (k3.trans k5) w5⟩
    exact Nat.le_trans slice_pre (by omega)
  refine ⟨_, rfl, rfl, _, rfl, ite2 (fun e => ?_) (fun e => ?_)⟩
  · refine ⟨_, rfl, _, rfl, _, rfl, sg, rfl, by omega, ?_⟩
    refine ⟨_, rfl, _, rfl, _, rfl, sg, rfl, by omega, ?_⟩
    refine ⟨_, rfl, _, rfl, sg, rfl, by omega, ?_⟩
    refine ⟨_, _, rfl, rfl, Nat.le_trans (Nat.add_le_add slice_sub.2 slice_sub.2) (by omega), _, _, rfl, ?_⟩
    refine ⟨_, rfl, by decide, by decide, ?_⟩
    refine for_range (lo := 0) (n := 9) (fun i σ H' => H' = H3 ∧ ∃ (l1 l2 : List Nat) (y : Option V), σ = [some (.ref p), some (.int (m : Nat)), some (tv sg), some (.int (sz : Nat)), some (.int (wy : Nat)), none, some (tv l1), some (tv l2), y, none] ∧ Alpha l1 ∧ Alpha l2 ∧ l1.length ≤ 52 * 2 ^ i ∧ l2.length ≤ 52 * 2 ^ i) ?_ ?_ ?_
    · refine ⟨rfl, _, _, none, rfl, fun c hc => sa c (slice_sub.1 c hc), fun c hc => ?_, Nat.le_trans slice_sub.2 (by omega), ?_⟩
      · rcases List.mem_append.mp hc with hc | hc
        · exact sa c (slice_sub.1 c hc)
        · exact sa c (slice_sub.1 c hc)
      · rw [List.length_append]
        exact Nat.le_trans (Nat.add_le_add slice_sub.2 slice_sub.2) (by omega)
    · rintro i σ H' hi ⟨rfl, l1, l2, y, rfl, a1, a2, b1, b2⟩
      have hp : 2 ^ i ≤ 2 ^ 8 := Nat.pow_le_pow_right (by decide) (by omega)
      have hp2 : 2 ^ (i + 1) = 2 * 2 ^ i := Nat.pow_succ'
      refine ⟨_, rfl, _, rfl, _, rfl, l2, l1, rfl, rfl, by omega, _, _, rfl, rfl, l2, l2 ++ l1, some (.int (0 + (i : Nat))), rfl, a2, fun c hc => ?_, by omega, by rw [List.length_append]; omega⟩
      rcases List.mem_append.mp hc with hc | hc
      · exact a2 c hc
      · exact a1 c hc
    · rintro σ H' ⟨rfl, l1, l2, y, rfl, a1, a2, b1, b2⟩
      have b2 : l2.length ≤ 52 * 2 ^ 9 := b2
      refine pick (Hc := H') (x := .non) w3 fun u H4 ua ul k4 w4 => ?_
      refine ⟨_, rfl, u, l2, rfl, rfl, by omega, _, rfl, _, rfl, u ++ l2, rfl, by rw [List.length_append]; omega, k _ H4 (fun c hc => ?_) ?_ (k3.trans k4) w4⟩
      · rcases List.mem_append.mp (slice_sub.1 c hc) with hc | hc
        · exact ua c hc
        · exact a2 c hc
      · exact Nat.le_trans slice_pre (by omega)
  refine ⟨⟨_, rfl⟩, _, rfl, _, rfl, by omega, by omega, fun D hD => ?_⟩
  refine lc_ws (m := 1) hD w3 (by omega) (fun i H' Q _ w' q => pick (Hc := H') (x := .non) w' q) rfl fun H5 ws k5 w5 h5 hl hws => ?_
  have hl : ws.length ≤ sz := by omega
  exact join_go h5 hws (by omega) fun l la ll => k l H5 la (by omega) (k3.trans k5) w5
end
end Tix
set_option Elab.async false
set_option linter.all false
set_option maxRecDepth 100000
set_option maxHeartbeats 4000000
/-! _law_right. -/
namespace Tix
open PySem PySem.Spec PyProof.Rows L2
/-- a row of pairs: a letter and its depth -/
def PairsAt (H : Hp) (s : Sh) : List V → List Nat → Prop
  | [], [] => True
  | v :: vs, c :: cs => (∃ a : Addr, v = .ref a ∧ H a = some (.tup [lv c, .int (dof s c : Nat)])) ∧ PairsAt H s vs cs
  | [], _ :: _ => False
  | _ :: _, [] => False
theorem PairsAt.same {H H' : Hp} {s : Sh} (e : Same H H') : ∀ {vs : List V} {cs : List Nat}, PairsAt H s vs cs → PairsAt H' s vs cs
  | [], [], _ => trivial
  | _ :: _, _ :: _, ⟨⟨a, h1, h2⟩, h3⟩ => ⟨⟨a, h1, e _ _ h2⟩, PairsAt.same e h3⟩
theorem PairsAt.len {H : Hp} {s : Sh} : ∀ {vs : List V} {cs : List Nat}, PairsAt H s vs cs → vs.length = cs.length
  | [], [], _ => rfl
  | _ :: _, _ :: _, ⟨_, h3⟩ => congrArg (· + 1) (PairsAt.len h3)
theorem PairsAt.more {H : Hp} {s : Sh} {a : Addr} {c : Nat} (h : H a = some (.tup [lv c, .int (dof s c : Nat)])) : ∀ {vs : List V} {cs : List Nat}, PairsAt H s vs cs → PairsAt H s (vs ++ [.ref a]) (cs ++ [c])
  | [], [], _ => ⟨⟨a, rfl, h⟩, trivial⟩
  | _ :: _, _ :: _, ⟨h1, h3⟩ => ⟨h1, PairsAt.more h h3⟩
theorem PairsAt.tups {H H' : Hp} {s : Sh} (e : Tups H H') : ∀ {vs : List V} {cs : List Nat}, PairsAt H s vs cs → PairsAt H' s vs cs
  | [], [], _ => trivial
  | _ :: _, _ :: _, ⟨⟨a, h1, h2⟩, h3⟩ => ⟨⟨a, h1, e _ _ h2⟩, PairsAt.tups e h3⟩
def pdat (s : Sh) (c : Nat) : PyData := .tuple [.str (lt c), .int (dof s c : Nat)]
theorem PairsAt.dp {K : PySem.W.Frag} {H : Hp} {s : Sh} : ∀ {vs : List V} {cs : List Nat}, PairsAt H s vs cs → DpAll K H vs (cs.map (pdat s))
  | [], [], _ => .nil
  | _ :: _, _ :: _, ⟨⟨a, h1, h2⟩, h3⟩ => by
    subst h1
    exact .cons (.tup (SqT.of h2) (.cons (.str _) (.cons (.int _) .nil))) (PairsAt.dp h3)
theorem pdat_ok {s : Sh} : ∀ {l : List Nat}, Alpha l → PyData.canLayAll0 (l.map (pdat s)) = true ∧ PyData.depthAll (l.map (pdat s)) ≤ 1
  | [], _ => ⟨rfl, Nat.zero_le _⟩
  | c :: l, h => by
    obtain ⟨h1, h2⟩ := pdat_ok (s := s) (l := l) (h.of fun d hd => List.mem_cons_of_mem _ hd)
    have h3 := dat_lay (s := .leaf c) (h.of fun d hd => by
      rw [List.mem_singleton.mp hd]
      exact List.mem_cons_self ..)
    refine ⟨?_, ?_⟩
    · show (((dat (.leaf c)).canLay0 && true) && PyData.canLayAll0 _) = true
      rw [h3, h1]
      rfl
    · show max (max 0 (max 0 0) + 1) (PyData.depthAll _) ≤ 1
      omega
theorem pdat_shaped {s : Sh} {l : List Nat} (h : Alpha l) : SeqAt.shaped (.list (l.map (pdat s))) = true := by
  obtain ⟨h1, h2⟩ := pdat_ok (s := s) h
  show (PyData.canLayAll0 _ && decide (PyData.depthAll _ + 1 ≤ 64)) = true
  rw [h1, decide_eq_true (by omega)]
  rfl
theorem cut_slice {l : List Nat} {f e : Nat} (h2 : f ≤ e) (h : e ≤ l.length) : (l.drop (HT.sIx l.length 0 (some (f : Int)))).take (HT.sIx l.length l.length (some (e : Int)) - HT.sIx l.length 0 (some (f : Int))) = cut l f e := by
  rw [HT.sIx_nat, HT.sIx_nat, Nat.min_eq_left h, Nat.min_eq_left (Nat.le_trans h2 h)]
  unfold cut
  rw [List.drop_take]
theorem shape_well {H : Hp} {p : Addr} (w : WellAt H p) {v : V} {s : Sh} (sv : ShapeV H v s) : ShapeV (cutO [p] H) v s := by
  refine sv.tups fun b xs hb => cut_get (fun hm => ?_) hb
  rw [List.mem_singleton] at hm
  subst hm
  obtain ⟨_, _, _, w0⟩ := w
  rw [w0] at hb
  cases hb
theorem str_a : V.str "a" = lv 97 := by rfl
theorem str_z : V.str "z" = lv 122 := by rfl
theorem same_row {H H' : Hp} {a : Addr} {o : HO} (e : Same H H') (h : H a = some o) : H' a = some o := e a o h
section
variable {P : Program} {w : World} {K : PySem.W.Frag} {mg : Str → Option Value} {base : Heap}
def spRight : Sp := sp2 fun x y H Q => ∃ (p : Addr) (l : List Nat), x = .ref p ∧ WellAt H p ∧ y = tv l ∧ Alpha l ∧ l.length ≤ 25 ∧ ∀ H', Keep p H H' → WellAt H' p → Q (.bl true) H'
abbrev nRight : List Str := ["_law_well_here", "_law_text_here", "_law_letters", "_law_shape_here", "_law_tree", "_law_depths_here", "_law_first", "_law_last", "_law_row", "_law_told", "_law_low", "_law_high", "_law_due", "_law_big", "_law_small", "_law_k", "_law_sign"]
theorem scRight : FnScope nRight ["_law_well_here", "_law_text_here"] (defScope sRight) := ⟨rfl, rfl, rfl, by decide +kernel, rfl, by decide +kernel, by decide +kernel⟩
theorem ok_right (T : Txt K mg) : DOk P w K mg base "_law_right" ["_law_well_here", "_law_text_here"] 57 spRight := by
  refine DOk.of (q := "_law_right") (st := sRight) (k := 56) T 24 17 rfl rfl scRight (fun _ _ _ _ _ _ us hl => match us, hl with | [_, _], _ => rfl) len2 fun cdv A outer s H vs Q E hr h => ?_
  obtain ⟨_, _, rfl, p, l, rfl, hw, rfl, la, ll, k⟩ := h
  have nd := scRight.nd
  have hr2 : Room 2 (A.deeper (envOfC "_law_right" (defScope sRight) s.heap.objs.size (He.fAd K ("_law_right", none)) cdv)) := hr.mono (by omega)
  have hr4 : Room 4 (A.deeper (envOfC "_law_right" (defScope sRight) s.heap.objs.size (He.fAd K ("_law_right", none)) cdv)) := hr.mono (by omega)
  have hr28 : Room 28 (A.deeper (envOfC "_law_right" (defScope sRight) s.heap.objs.size (He.fAd K ("_law_right", none)) cdv)) := hr.mono (by omega)
  refine ⟨_, pss_cons (ps_set (i := 2) nd rfl (Or.inl rfl) (pe_callB (cr_sortSet rfl) (by rfl) T.sorted (by decide +kernel) (pa_cons (pe_callTy (cr_setTxt rfl) (by rfl) T.set (by decide +kernel) (pa_cons (pe_op op_addT (pv 1)
      (pe_D (ok_pick T) hr2 (by rfl) (pa_cons (pv 0) (pa_cons (pe_lst (pa_cons pe_str (pa_cons pe_str (pa_cons pe_str (pa_cons pe_str pa_nil))))) pa_nil)))) pa_nil)) pa_nil)))
    (pss_cons (ps_set (i := 3) nd rfl (Or.inl rfl) (pe_D (ok_shape T 25) hr28 (by rfl) (pa_cons (pv 0) (pa_cons (pv 2) pa_nil))))
    (pss_cons (ps_asg (pe_tup (pa_cons (pe_I (ok_tInit T) hr (by rfl) (pa_cons (pv 1) (pa_cons (pv 3) pa_nil))) (pa_cons (pe_D (ok_lDepths T 25) (hr.mono (by decide)) (by rfl) (pa_cons (pv 3) (pa_cons pe_int (pa_cons pe_dnewK pa_nil)))) pa_nil)))
      (pg_tup rfl (pgs_cons (pg_name (i := 4) nd rfl (Or.inr rfl)) (pgs_cons (pg_name (i := 5) nd rfl (Or.inr rfl)) pgs_nil))))
    (pss_cons (ps_for PassesOwn.never rfl (pi_range1 (by rfl) T.range (pa_cons (pe_op op_add (pe_callB call_len_str (by rfl) T.len boot_len (pa_cons (pv 1) pa_nil)) pe_int) pa_nil)) (pg_name (i := 6) nd rfl (Or.inr rfl))
      (pss_one (ps_for PassesOwn.never rfl (pi_range2 (by rfl) T.range (pa_cons (pv 6) (pa_cons (pe_op op_add (pe_callB call_len_str (by rfl) T.len boot_len (pa_cons (pv 1) pa_nil)) pe_int) pa_nil))) (pg_name (i := 7) nd rfl (Or.inr rfl))
        (pss_cons (ps_set (i := 8) nd rfl (Or.inl rfl) (pe_callB (cr_sortTxt rfl) (by rfl) T.sorted (by decide +kernel) (pa_cons (pe_slice sl_T (pv 1) (po_some (pv 6)) (po_some (pv 7))) pa_nil)))
        (pss_cons (ps_setLc (i := 9) (own := [("_law_k", 15)]) (g := gName 15) (tt := tYes) rfl nd rfl rfl (sw_true rfl rfl rfl (by decide +kernel)) (pi_range1 (by rfl) T.range (pa_cons (pe_callB call_len_seq (by rfl) T.len boot_len (pa_cons (pv 8) pa_nil)) pa_nil))
          (blkOk_by (N := nRight) (sc := defScope sRight) (by decide +kernel)) (fun _ _ _ _ _ => pg_name (i := 15) nd rfl (Or.inl rfl)) (fun _ _ _ _ _ => pts_nil)
          (fun _ _ _ _ _ => pe_M (ok_least T) (pv 4) T.clT hr4 (pa_cons (pv 6) (pa_cons (pv 7) (pa_cons (pe_op op_add (pv 15) pe_int) pa_nil)))))
        (pss_cons (ps_if (pt_cmpR (op_neD hr.units) (pv 9) (pe_lc (own := [("_law_sign", 16)]) (g := gName 16) (tt := tYes) rfl nd (pi_list (pv 8)) (blkOk_by (N := nRight) (sc := defScope sRight) (by decide +kernel))
            (fun _ _ _ _ _ => pg_name (i := 16) nd rfl (Or.inl rfl)) (fun _ _ _ _ _ => pts_nil) (fun _ _ _ _ _ => pe_tup (pa_cons (pv 16) (pa_cons (pe_dget (hu_of hr) (pv 5) (pv 16) (fun _ _ => rfl)) pa_nil)))) (nomark _))
          (pss_one (ps_ret pe_bl)) pss_nil)
        (pss_cons (ps_asg (pe_tup (pa_cons (pe_D (ok_pick T) hr2 (by rfl) (pa_cons (pv 0) (pa_cons pe_str pa_nil))) (pa_cons (pe_D (ok_pick T) hr2 (by rfl) (pa_cons (pv 0) (pa_cons pe_str pa_nil))) pa_nil)))
          (pg_tup rfl (pgs_cons (pg_name (i := 10) nd rfl (Or.inr rfl)) (pgs_cons (pg_name (i := 11) nd rfl (Or.inr rfl)) pgs_nil))))
        (pss_cons (ps_set (i := 12) nd rfl (Or.inl rfl) (pe_callB call_len_seq (by rfl) T.len boot_len (pa_cons (pe_lc (own := [("_law_sign", 16)]) (g := gName 16) rfl nd (pi_list (pv 8)) (blkOk_by (N := nRight) (sc := defScope sRight) (by decide +kernel))
            (fun _ _ _ _ _ => pg_name (i := 16) nd rfl (Or.inl rfl)) (fun _ _ _ _ _ => pts_one (pt_chain op_le_str op_le_str (pv 10) (pv 16) (pv 11))) (fun _ _ _ _ _ => pv 16)) pa_nil)))
        (pss_cons (ps_if (pt_cmpR op_ne (pe_M (ok_between T) (pv 4) T.clT hr28 (pa_cons (pv 6) (pa_cons (pv 7) (pa_cons (pv 10) (pa_cons (pv 11) pa_nil))))) (pv 12) (nomark _)) (pss_one (ps_ret pe_bl)) pss_nil)
        (pss_cons (ps_if (pt_cmpR op_ne (pe_M (ok_between T) (pv 4) T.clT hr28 (pa_cons (pv 6) (pa_cons (pv 7) (pa_cons pe_str (pa_cons pe_str pa_nil))))) (pe_callB call_len_seq (by rfl) T.len boot_len (pa_cons (pv 8) pa_nil)) (nomark _)) (pss_one (ps_ret pe_bl)) pss_nil)
        (pss_cons (ps_par (i := 13) (j := 14) rfl nd rfl rfl (by decide) rfl rfl (pa_cons (pe_callB (call_maxL rfl) (by rfl) T.max (by decide +kernel) (pa_cons (pv 10) (pa_cons (pv 11) pa_nil))) (pa_cons (pe_callB (call_minL rfl) (by rfl) T.min (by decide +kernel) (pa_cons (pv 10) (pa_cons (pv 11) pa_nil))) pa_nil)) rfl)
        (pss_one (ps_if (PW.pt (pw_and (pt_cmpR op_ne (pv 13) (pv 14) (nomark _)) (pw_and1 (pt_cmpR op_ne (pe_M (ok_between T) (pv 4) T.clT hr28 (pa_cons (pv 6) (pa_cons (pv 7) (pa_cons (pv 13) (pa_cons (pv 14) pa_nil))))) pe_int (nomark _))))) (pss_one (ps_ret pe_bl)) pss_nil)))))))))))))
    (pss_one (ps_ret pe_bl))))), ?_⟩
  obtain ⟨xb, xe, xa, x1, x2⟩ := txt_lit (z := "abcfhkmqxyz") (by decide +kernel) (by decide +kernel)
  -- the letters
  refine ⟨_, rfl, _, rfl, le1000 (n := 4) (by decide), fun b hb => ?_⟩
  have hbp := Ne.symm (hw.ne_new hb)
  have sb := same_new (o := .lst [.str "q", .str "m", .str "amz", .str "ghijklmnopqrst"]) hb
  refine ⟨_, _, rfl, p, rfl, hw.same sb, .inr ⟨b, _, rfl, hbp, upd_same, (by show 0 < 4; decide), (by show 4 ≤ 1000; decide), fun v H1 hv k1 w1 => ?_⟩⟩
  obtain ⟨m, rfl, ma, m1, m2⟩ : ∃ l, v = tv l ∧ Alpha l ∧ 1 ≤ l.length ∧ l.length ≤ 26 := by
    rcases List.mem_cons.mp hv with rfl | hv
    · exact txt_lit (by decide +kernel) (by decide +kernel)
    rcases List.mem_cons.mp hv with rfl | hv
    · exact txt_lit (by decide +kernel) (by decide +kernel)
    rcases List.mem_cons.mp hv with rfl | hv
    · exact txt_lit (by decide +kernel) (by decide +kernel)
    rw [List.mem_singleton] at hv
    subst hv
    exact txt_lit (by decide +kernel) (by decide +kernel)
  have k1 : Keep p H H1 := (Same.keep sb).trans k1
  have lm : (l ++ m).length ≤ 51 := by
    rw [List.length_append]
    omega
  refine ⟨l, m, rfl, rfl, by omega, l ++ m, rfl, by omega, fun sa hsa => ?_⟩
  have ss := same_new (o := SetTx w sa (l ++ m)) hsa
  refine ⟨sa, l ++ m, rfl, upd_same, by omega, fun cs ca hca rise mem => ?_⟩
  have ss2 := same_new (o := .lst (cs.map lv)) hca
  have w2 := (w1.same ss).same ss2
  have k2 := keep_same k1 (ss.trans ss2)
  have ca2 : (upd (upd H1 sa (SetTx w sa (l ++ m))) ca (.lst (cs.map lv))) ca = _ := upd_same
  have hcap := Ne.symm ((w1.same ss).ne_new hca)
  have csA : Alpha cs := fun c hc => by
    rcases List.mem_append.mp ((mem c).mp hc) with h | h
    · exact la c h
    · exact ma c h
  have cs26 := rise_few rise csA
  have cs1 : 1 ≤ cs.length := by
    cases m with
    | nil => exact absurd m1 (Nat.not_succ_le_zero _)
    | cons c m => exact List.length_pos_of_mem ((mem c).mpr (List.mem_append.mpr (.inr (List.mem_cons_self ..))))
  refine ⟨_, rfl, _, rfl, _, _, rfl, p, ca, cs, rfl, w2, rfl, hcap, ca2, cs1, by omega, cs26, fun H3 v s k3 w3 sv es => ?_⟩
  have k3 := k2.trans k3
  have fs : Fine s := by
    refine ⟨?_, ?_, ?_⟩
    · rw [es]
      exact csA
    · rw [es]
      exact Rise.nodup rise
    · rw [es]
      exact cs26
  have rs : Rise s.ls := by
    rw [es]
    exact rise
  have ls : ∀ c ∈ l, c ∈ s.ls := fun c hc => by
    rw [es]
    exact (mem c).mpr (List.mem_append.mpr (.inl hc))
  have h25 : s.ht ≤ 25 := by
    have h1 := Sh.ht_lt s
    have h2 := fs.2.2
    omega
  -- the tree
  refine ⟨_, rfl, _, rfl, fun tr dxr ntr ndx nne => ?_⟩
  have hp0 : Held [p] H3 := fun a ha hn => by
    rw [List.mem_singleton] at ha
    subst ha
    obtain ⟨_, _, _, w0⟩ := w3
    rw [w0] at hn
    cases hn
  have smk : Same H3 (upd (upd H3 dxr (.own tr)) tr (.ins (aT K) dxr [])) := (same_new ndx).trans (same_new (by rw [upd_ne (Ne.symm nne)]; exact ntr))
  have svc : ShapeV (cutO [p] H3) v s := shape_well w3 sv
  refine ⟨_, _, _, rfl, tr, dxr, s, l, [p], rfl, upd_same, rfl, Held.upd' (Held.upd' hp0), hp0.new ntr, svc.same (cutS smk), fs, la, by omega, ls, fun H4 k4 tr4 => ⟨rfl, ?_⟩⟩
  have e4 : Same H3 H4 := make_same ntr ndx k4
  have w4 := w3.same e4
  refine ⟨_, rfl, fun d hd => ?_⟩
  have sd := same_new (o := .dK []) hd
  have hdp := Ne.symm (w4.ne_new hd)
  refine ⟨_, _, _, rfl, s, 0, d, [], (sv.same e4).same sd, h25, fs, rfl, rfl, upd_same, (by
    have := fs.2.2
    show 0 + _ ≤ 60
    omega), fun H5 kvs k5 d5 _ dv _ => ?_⟩
  have e5 : Same H4 H5 := fun a o h => k5 a o (ne_of_none h hd) (sd _ _ h)
  refine ⟨le1000 (n := 2) (by decide), fun tp htp => ?_⟩
  have st := same_new (o := .tup [.ref tr, .ref d]) htp
  refine ⟨tp, _, rfl, SqT.of upd_same, rfl, _, _, rfl, _, _, rfl, rfl, ?_⟩
  have T0 : TreeAt K (cutO [p] (upd H5 tp (.tup [.ref tr, .ref d]))) tr s l := tr4.same (cutS (e5.trans st))
  have d0 : (upd H5 tp (.tup [.ref tr, .ref d])) d = some (.dK kvs) := st _ _ d5
  have wb : WellAt (upd H5 tp (.tup [.ref tr, .ref d])) p := (w4.same e5).same st
  have kb : Keep p H (upd H5 tp (.tup [.ref tr, .ref d])) := keep_same k3 ((e4.trans e5).trans st)
  generalize (upd H5 tp (.tup [.ref tr, .ref d])) = Hb at *
  have tree : ∀ {Hx : Hp}, Keep p Hb Hx → TreeAt K Hx tr s l := fun e => (T0.same (cut_well (List.mem_singleton.mpr rfl) e)).same cut_sub
  -- the loops
  refine ⟨_, rfl, tx l, rfl, size_tx (by omega), _, _, rfl, rfl, _, rfl, by omega, (by rw [tx_len]; omega), ?_⟩
  refine for_range (lo := 0) (fun i σ H' => Keep p Hb H' ∧ WellAt H' p ∧ ∃ x6 x7 x8 x9 x10 x11 x12 x13 x14, σ = [some (.ref p), some (tv l), some (.ref ca), some v, some (.ref tr), some (.ref d), x6, x7, x8, x9, x10, x11, x12, x13, x14, none, none]) ?_ ?_ ?_
  · exact ⟨Keep.rfl', wb, none, none, none, none, none, none, none, none, none, rfl⟩
  · rintro i σ H6 hi ⟨k6, w6, x6, x7, x8, x9, x10, x11, x12, x13, x14, rfl⟩
    rw [tx_len] at hi
    have hi : i ≤ l.length := by omega
    refine ⟨_, rfl, _, rfl, tx l, rfl, size_tx (by omega), _, _, rfl, rfl, _, _, rfl, (by rw [tx_len]; omega), ?_⟩
    refine for_range (lo := 0 + (i : Nat)) (fun j σ H' => Keep p Hb H' ∧ WellAt H' p ∧ ∃ x7 x8 x9 x10 x11 x12 x13 x14, σ = [some (.ref p), some (tv l), some (.ref ca), some v, some (.ref tr), some (.ref d), some (.int (0 + (i : Nat))), x7, x8, x9, x10, x11, x12, x13, x14, none, none]) ?_ ?_ ?_
    · exact ⟨k6, w6, _, _, _, _, _, _, _, _, rfl⟩
    · rintro j σ H7 hj ⟨k7, w7, x7, x8, x9, x10, x11, x12, x13, x14, rfl⟩
      rw [tx_len] at hj
      have hj : i + j ≤ l.length := by omega
      have ef : (0 : Int) + (i : Nat) = (i : Nat) := by omega
      have el : (0 : Int) + (i : Nat) + (j : Nat) = ((i + j : Nat) : Int) := by omega
      obtain ⟨w, hwd⟩ : ∃ w, w = cut l i (i + j) := ⟨_, rfl⟩
      have wsub : ∀ c ∈ w, c ∈ l := fun c hc => by
        rw [hwd] at hc
        exact cut_mem hc
      have wA : Alpha (srt w) := fun c hc => la c (wsub c ((srt_perm w).mem_iff.mp hc))
      have wl : w.length = j := by
        rw [hwd, cut_len (by omega) hj]
        omega
      have esl : (l.drop (HT.sIx l.length 0 (some (0 + (i : Nat) : Int)))).take (HT.sIx l.length l.length (some ((0 : Int) + (i : Nat) + (j : Nat))) - HT.sIx l.length 0 (some (0 + (i : Nat) : Int))) = w := by
        rw [ef, show ((i : Nat) : Int) + (j : Nat) = ((i + j : Nat) : Int) by omega, cut_slice (by omega) hj, hwd]
      -- the row
      refine ⟨_, rfl, _, rfl, _, rfl, _, rfl, _, rfl, l, rfl, by omega, w, congrArg (fun z => [tv z]) esl, by omega, fun ra hra => ?_⟩
      have sra := same_new (o := .lst ((srt w).map lv)) hra
      have w8 := w7.same sra
      have hrap := Ne.symm (w7.ne_new hra)
      have k8 := keep_same k7 sra
      have r8 : (upd H7 ra (.lst ((srt w).map lv))) ra = _ := upd_same
      generalize (upd H7 ra (.lst ((srt w).map lv))) = H8 at *
      -- told
      refine ⟨_, rfl, ra, _, rfl, .inl (SqL.of r8), _, rfl, by omega, (by rw [List.length_map, srt_len, wl]; omega), fun D hD => ?_⟩
      refine lc_pl walk_range (fun n H' => Same H8 H' ∧ ∃ vs, H' D = some (.lst vs) ∧ PairsAt H' s vs ((srt w).take n)) ⟨same_new hD, [], upd_same, trivial⟩ (fun _ _ _ _ => True.intro) ?_ ?_
      · rintro n x Ha Hz hn ⟨s1, vs, d1, p1⟩ ⟨rfl, rfl⟩
        have hn : n < (srt w).length := by
          rw [List.length_map] at hn
          omega
        obtain ⟨dx, fs', ht⟩ := id (tree (keep_same k8 s1))
        refine ⟨rfl, ?_⟩
        refine ⟨_, rfl, tr, dx, fs', rfl, ht.at_, ht.m3, _, rfl, _, rfl, _, rfl, _, _, rfl, rfl, _, _, _, _, rfl, tr, s, l, i, i + j, n, (srt w)[n], rfl, tree (keep_same k8 s1), rs, fs, ls, by omega, congrArg V.int ef, congrArg V.int el, by omega, hj,
          congrArg V.int (by omega), ?_, fun H' tp s2 n2 t2 => ?_⟩
        · rw [← hwd]
          exact List.getElem?_eq_getElem hn
        · have nDt : D ≠ tp := ne_of_none d1 n2
          refine ⟨_, s2 _ _ d1, ?_, same_mut (s1.trans s2) hD, _, upd_same, ?_⟩
          · have := p1.len
            rw [List.length_take] at this
            have h3 := srt_len w
            exact small1000 (by omega)
          · rw [take_more (List.getElem?_eq_getElem hn)]
            have hdt : (upd H' D (.lst (vs ++ [.ref tp]))) tp = some (.tup [lv (srt w)[n], .int (dof s (srt w)[n] : Nat)]) := (upd_ne (Ne.symm nDt)).trans t2
            refine PairsAt.more hdt ?_
            have h5 : Tups (H') (upd H' D (.lst (vs ++ [.ref tp]))) := (keep_upd (p := D) Keep.rfl').tups fun xs e => by
              rw [s2 _ _ d1] at e
              cases e
            exact (p1.same s2).tups h5
      rintro H9 ⟨s9, vs, d9, p9⟩
      have p9 : PairsAt H9 s vs (srt w) := by
        rw [List.take_of_length_le (by rw [List.length_map]; omega)] at p9
        exact p9
      have k9 := keep_same k8 s9
      have w9 := w8.same s9
      have r9 := s9 _ _ r8
      -- told != the pairs
      refine ⟨_, rfl, _, rfl, ra, rfl, ⟨_, SqL.of r9⟩, fun D2 hD2 => ?_⟩
      refine lc_pl (walk_list (K := K) (a := ra) (xs := (srt w).map lv)) (fun n H' => Same H9 H' ∧ ∃ us, H' D2 = some (.lst us) ∧ PairsAt H' s us ((srt w).take n)) ⟨same_new hD2, [], upd_same, trivial⟩ (fun _ _ _ pv => SqL.of (pv.1 _ _ r9)) ?_ ?_
      · rintro n x Ha Hz hn ⟨s1, us, d1, p1⟩ ⟨rfl, hx⟩
        have hn : n < (srt w).length := by
          rw [List.length_map] at hn
          exact hn
        have hx : x = lv (srt w)[n] := by
          rw [List.getElem?_map, List.getElem?_eq_getElem hn] at hx
          exact (Option.some.inj hx).symm
        subst hx
        have hcs : (srt w)[n] ∈ s.ls := ls _ (wsub _ ((srt_perm w).mem_iff.mp (List.getElem_mem hn)))
        have dd := s1 _ _ ((k9 _ _ hdp d0))
        refine ⟨rfl, ?_⟩
        refine ⟨_, rfl, _, rfl, _, rfl, d, .int ((dof s (srt w)[n] + 0 : Nat) : Int), rfl, ?_, le1000 (n := 2) (by decide), fun tp n2 => ?_⟩
        · have g := DGet.k (k := Sum.inr (lt (srt w)[n])) dd
          rw [dv _ hcs] at g
          exact g
        · have nDt : D2 ≠ tp := ne_of_none d1 n2
          have s2 := same_new (o := .tup [lv (srt w)[n], .int (dof s (srt w)[n] : Nat)]) n2
          refine ⟨_, s2 _ _ d1, ?_, same_mut (s1.trans s2) hD2, _, upd_same, ?_⟩
          · have := p1.len
            rw [List.length_take] at this
            have h3 := srt_len w
            exact small1000 (by omega)
          · rw [take_more (List.getElem?_eq_getElem hn)]
            have hdt : (upd (upd Hz tp (.tup [lv (srt w)[n], .int (dof s (srt w)[n] : Nat)])) D2 (.lst (us ++ [.ref tp]))) tp = some (.tup [lv (srt w)[n], .int (dof s (srt w)[n] : Nat)]) := (upd_ne (Ne.symm nDt)).trans upd_same
            refine PairsAt.more hdt ?_
            have h5 : Tups (upd Hz tp (.tup [lv (srt w)[n], .int (dof s (srt w)[n] : Nat)])) (upd (upd Hz tp (.tup [lv (srt w)[n], .int (dof s (srt w)[n] : Nat)])) D2 (.lst (us ++ [.ref tp]))) := (keep_upd (p := D2) Keep.rfl').tups fun xs e => by
              rw [s2 _ _ d1] at e
              cases e
            exact (p1.same s2).tups h5
      rintro H10 ⟨s10, us, d10, p10⟩
      have p10 : PairsAt H10 s us (srt w) := by
        rw [List.take_of_length_le (by rw [List.length_map]; exact Nat.le_refl _)] at p10
        exact p10
      refine ⟨_, _, .lst (SqL.of (s10 _ _ d9)) (p9.same s10).dp, .lst (SqL.of d10) p10.dp, pdat_shaped wA, pdat_shaped wA, false, ?_, iteF ?_⟩
      · rw [SeqAt.eqv_refl _ (SeqAt.canLay_of_shaped (pdat_shaped wA))]
        rfl
      have k10 := keep_same k9 s10
      have w10 := w9.same s10
      have r10 := s10 _ _ r9
      -- low, high
      refine ⟨_, rfl, _, _, rfl, p, rfl, w10, .inl ⟨xb, xe, x1, by omega, fun lo H11 hlo k11 w11 => ?_⟩⟩
      refine ⟨_, rfl, _, _, rfl, p, rfl, w11, .inl ⟨xb, xe, x1, by omega, fun hg H12 hhg k12 w12 => ?_⟩⟩
      refine ⟨le1000 (n := 2) (by decide), fun tp htp => ?_⟩
      have stp := same_new (o := .tup [lv lo, lv hg]) htp
      refine ⟨tp, _, rfl, SqT.of upd_same, rfl, _, _, rfl, _, _, rfl, rfl, ?_⟩
      have k13 := keep_same ((k10.trans k11).trans k12) stp
      have w13 := w12.same stp
      have r13 := stp _ _ (k12 _ _ hrap (k11 _ _ hrap r10))
      generalize (upd H12 tp (.tup [lv lo, lv hg])) = H13 at *
      have ⟨lo1, lo2⟩ := xa lo hlo
      have ⟨hg1, hg2⟩ := xa hg hhg
      -- due
      refine ⟨_, rfl, ra, rfl, ⟨_, SqL.of r13⟩, fun D3 hD3 => ?_⟩
      refine lc_it (walk_list (K := K) (a := ra) (xs := (srt w).map lv)) (fun n H' => Same H13 H' ∧ H' D3 = some (.lst ((((srt w).take n).filter fun c => decide (lo ≤ c) && decide (c ≤ hg)).map lv))) ⟨same_new hD3, upd_same⟩ (fun _ _ _ pv => SqL.of (pv.1 _ _ r13)) ?_ ?_
      · rintro n x Ha Hz hn ⟨s1, d1⟩ ⟨rfl, hx⟩
        have hn : n < (srt w).length := by
          rw [List.length_map] at hn
          exact hn
        have hx : x = lv (srt w)[n] := by
          rw [List.getElem?_map, List.getElem?_eq_getElem hn] at hx
          exact (Option.some.inj hx).symm
        subst hx
        have ft := filt_take (f := fun c => decide (lo ≤ c) && decide (c ≤ hg)) (List.getElem?_eq_getElem hn)
        refine ⟨rfl, ?_⟩
        refine ⟨_, rfl, _, rfl, lt lo, lt (srt w)[n], rfl, rfl, ?_⟩
        by_cases h1 : lo ≤ (srt w)[n]
        · refine ⟨true, ?_, iteT ?_⟩
          · rw [lt_lv, decide_eq_false (by omega)]
            rfl
          refine ⟨_, rfl, lt (srt w)[n], lt hg, rfl, rfl, ?_⟩
          by_cases h2 : (srt w)[n] ≤ hg
          · refine ⟨true, ?_, iteT ?_⟩
            · rw [lt_lv, decide_eq_false (by omega)]
              rfl
            refine ⟨_, rfl, _, d1, ?_, same_mut s1 hD3, ?_⟩
            · rw [List.length_map]
              refine small1000 (Nat.le_trans (List.length_filter_le _ _) ?_)
              have h3 := srt_len w
              rw [List.length_take]
              omega
            · rw [upd_same, ft, decide_eq_true h1, decide_eq_true h2, List.map_append]
              rfl
          · refine ⟨false, ?_, iteF ⟨s1, ?_⟩⟩
            · rw [lt_lv, decide_eq_true (by omega)]
              rfl
            rw [ft, decide_eq_true h1, decide_eq_false h2, if_neg (by decide), List.append_nil]
            exact d1
        · refine ⟨false, ?_, iteF ⟨false, rfl, iteF ⟨s1, ?_⟩⟩⟩
          · rw [lt_lv, decide_eq_true (by omega)]
            rfl
          rw [ft, decide_eq_false h1, Bool.false_and, if_neg (by decide), List.append_nil]
          exact d1
      rintro H14 ⟨s14, d14⟩
      have hdue : ((((srt w).take ((srt w).map lv).length).filter fun c => decide (lo ≤ c) && decide (c ≤ hg)).map lv).length = btw lo hg (cut l i (i + j)) := by
        rw [List.length_map, List.take_of_length_le (by rw [List.length_map]; exact Nat.le_refl _), ← hwd]
        exact btw_perm (srt_perm w)
      have k14 := keep_same k13 s14
      have w14 := w13.same s14
      have r14 := s14 _ _ r13
      refine ⟨D3, _, rfl, .inl (SqL.of d14), ?_⟩
      -- between
      obtain ⟨dx, fs', ht⟩ := id (tree k14)
      refine ⟨_, rfl, tr, dx, fs', rfl, ht.at_, ht.m4, _, rfl, _, rfl, _, rfl, _, rfl, _, _, _, _, _, rfl, tr, s, l, i, i + j, lo, hg, rfl, tree k14, rs, fs, ls, by omega, congrArg V.int ef, congrArg V.int el, by omega, hj, rfl, rfl, lo1, lo2, hg1, hg2, fun H15 s15 => ?_⟩
      refine ⟨_, rfl, rfl, _, rfl, iteNS (congrArg (fun n : Nat => V.int n) hdue.symm) ?_⟩
      have k15 := keep_same k14 s15
      have r15 := s15 _ _ r14
      obtain ⟨dx, fs', ht⟩ := id (tree k15)
      refine ⟨_, rfl, tr, dx, fs', rfl, ht.at_, ht.m4, _, rfl, _, rfl, _, _, _, _, _, rfl, tr, s, l, i, i + j, 97, 122, rfl, tree k15, rs, fs, ls, by omega, congrArg V.int ef, congrArg V.int el, by omega, hj, str_a, str_z, by decide, by decide, by decide, by decide, fun H16 s16 => ?_⟩
      have r16 := s16 _ _ r15
      refine ⟨_, rfl, ra, _, rfl, .inl (SqL.of r16), rfl, _, rfl, iteNS (congrArg (fun n : Nat => V.int n) ?_) ?_⟩
      · rw [List.length_map, srt_len, hwd]
        exact btw_all fun c hc => la c (cut_mem hc)
      have k16 := keep_same k15 s16
      refine ⟨_, rfl, _, rfl, lo, hg, rfl, _, rfl, _, rfl, lo, hg, rfl, _, _, rfl, ?_⟩
      have fin : ∀ {Hx : Hp}, Same H16 Hx → Keep p Hb Hx ∧ WellAt Hx p := fun e => ⟨keep_same k16 e, ((w14.same s15).same s16).same e⟩
      refine ⟨_, rfl, _, rfl, rfl, _, rfl, ite2 (fun hne => ?_) (fun hne => ?_)⟩
      · obtain ⟨dx, fs', ht⟩ := id (tree k16)
        have hne : ¬ (if lo < hg then hg else lo) = (if hg < lo then hg else lo) := fun e => by
          rw [e, decide_eq_true rfl] at hne
          cases hne
        refine ⟨_, rfl, tr, dx, fs', rfl, ht.at_, ht.m4, _, rfl, _, rfl, _, rfl, _, rfl, _, _, _, _, _, rfl, tr, s, l, i, i + j, _, _, rfl, tree k16, rs, fs, ls, by omega, congrArg V.int ef, congrArg V.int el, by omega, hj, rfl, rfl, ?_, ?_, ?_, ?_, fun H17 s17 => ?_⟩
        · split <;> omega
        · split <;> omega
        · split <;> omega
        · split <;> omega
        refine ⟨rfl, _, rfl, iteNS (congrArg (fun n : Nat => V.int n) (btw_none fun c hc => ?_)) ?_⟩
        · by_cases h1 : lo < hg
          · rw [if_pos h1, if_neg (by omega)]
            omega
          · rw [if_neg h1] at hne ⊢
            by_cases h2 : hg < lo
            · rw [if_pos h2]
              omega
            · rw [if_neg h2] at hne
              exact absurd rfl hne
        · obtain ⟨f1, f2⟩ := fin s17
          exact ⟨f1, f2, _, _, _, _, _, _, _, _, rfl⟩
      · obtain ⟨f1, f2⟩ := fin (fun _ _ h => h)
        exact iteF ⟨f1, f2, _, _, _, _, _, _, _, _, rfl⟩
    · rintro σ H' ⟨k7, w7, x7, x8, x9, x10, x11, x12, x13, x14, rfl⟩
      exact ⟨k7, w7, _, _, _, _, _, _, _, _, _, rfl⟩
  · rintro σ H' ⟨k7, w7, x6, x7, x8, x9, x10, x11, x12, x13, x14, rfl⟩
    exact k H' (kb.trans k7) w7
end
end Tix
set_option Elab.async false
set_option linter.all false
set_option maxRecDepth 100000
set_option maxHeartbeats 4000000
/-! _law_great_right. -/
namespace Tix
open PySem PySem.Spec PyProof.Rows L2
/-- a pair of a tree and its text -/
def GT (K : PySem.W.Frag) (H : Hp) (v : V) : Prop := ∃ tp tr s o, v = .ref tp ∧ H tp = some (.tup [.ref tr, tv o]) ∧ TreeAt K H tr s o ∧ Rise s.ls ∧ Fine s ∧ (∀ c ∈ o, c ∈ s.ls) ∧ Alpha o ∧ o.length ≤ 300
theorem GT.same {K : PySem.W.Frag} {H H' : Hp} (e : Same H H') {v : V} : GT K H v → GT K H' v
  | ⟨tp, tr, s, o, h1, h2, h3, h4⟩ => ⟨tp, tr, s, o, h1, e _ _ h2, h3.same e, h4⟩
theorem shape_two {H : Hp} {p q : Addr} (w : WellAt H p) {xs : List V} (hq : H q = some (.lst xs)) {v : V} {s : Sh} (sv : ShapeV H v s) : ShapeV (cutO [p, q] H) v s := by
  refine sv.tups fun b ys hb => cut_get (fun hm => ?_) hb
  obtain ⟨_, _, _, w0⟩ := w
  rcases List.mem_cons.mp hm with rfl | hm
  · rw [w0] at hb
    cases hb
  · rw [List.mem_singleton] at hm
    subst hm
    rw [hq] at hb
    cases hb
theorem held_two {H : Hp} {p q : Addr} (w : WellAt H p) {xs : List V} (hq : H q = some (.lst xs)) : Held [p, q] H := fun a ha hn => by
  obtain ⟨_, _, _, w0⟩ := w
  rcases List.mem_cons.mp ha with rfl | ha
  · rw [w0] at hn
    cases hn
  · rw [List.mem_singleton] at ha
    subst ha
    rw [hq] at hn
    cases hn
section
variable {P : Program} {w : World} {K : PySem.W.Frag} {mg : Str → Option Value} {base : Heap}
def spGreat : Sp := sp2 fun x y H Q => ∃ (p : Addr) (l : List Nat), x = .ref p ∧ WellAt H p ∧ y = tv l ∧ Alpha l ∧ l.length ≤ 300 ∧ ∀ H', Keep p H H' → WellAt H' p → Q (.bl true) H'
abbrev nGreat : List Str := ["_law_well_here", "_law_text_here", "_law_letters", "_law_trees", "_law_own", "_law_turn", "_law_tree", "_law_first", "_law_last", "_law_row", "_law_low", "_law_high", "_law_k", "_law_sign"]
theorem scGreat : FnScope nGreat ["_law_well_here", "_law_text_here"] (defScope sGreat) := ⟨rfl, rfl, rfl, by decide +kernel, rfl, by decide +kernel, by decide +kernel⟩
theorem ok_great (T : Txt K mg) : DOk P w K mg base "_law_great_right" ["_law_well_here", "_law_text_here"] 57 spGreat := by
  refine DOk.of (q := "_law_great_right") (st := sGreat) (k := 56) T 25 18 rfl rfl scGreat (fun _ _ _ _ _ _ us hl => match us, hl with | [_, _], _ => rfl) len2 fun cdv A outer s H vs Q E hr h => ?_
  obtain ⟨_, _, rfl, p, l, rfl, hw, rfl, la, ll, k⟩ := h
  have nd := scGreat.nd
  have hr1 : Room 1 (A.deeper (envOfC "_law_great_right" (defScope sGreat) s.heap.objs.size (He.fAd K ("_law_great_right", none)) cdv)) := hr.mono (by omega)
  have hr2 : Room 2 (A.deeper (envOfC "_law_great_right" (defScope sGreat) s.heap.objs.size (He.fAd K ("_law_great_right", none)) cdv)) := hr.mono (by omega)
  have hr4 : Room 4 (A.deeper (envOfC "_law_great_right" (defScope sGreat) s.heap.objs.size (He.fAd K ("_law_great_right", none)) cdv)) := hr.mono (by omega)
  have hr28 : Room 28 (A.deeper (envOfC "_law_great_right" (defScope sGreat) s.heap.objs.size (He.fAd K ("_law_great_right", none)) cdv)) := hr.mono (by omega)
  refine ⟨_, pss_cons (ps_par (i := 2) (j := 3) rfl nd rfl rfl (by decide) rfl rfl (pa_cons (pe_callB (cr_sortSet rfl) (by rfl) T.sorted (by decide +kernel) (pa_cons (pe_callTy (cr_setTxt rfl) (by rfl) T.set (by decide +kernel) (pa_cons (pe_op op_addT (pv 1) pe_str) pa_nil)) pa_nil)) (pa_cons (pe_lst pa_nil) pa_nil)) rfl)
    (pss_cons (ps_for PassesOwn.never rfl (pi_tup (pe_tup (pa_cons (pv 1) (pa_cons (pe_revT (pv 1)) (pa_cons (pe_slice sl_T (pv 1) po_none (po_some pe_int)) pa_nil))))) (pg_name (i := 4) nd rfl (Or.inl rfl))
      (pss_one (ps_expr (pe_bm PySem.F.plainAttrs_list PySem.F.slot_list_append PySem.F.type_list_append mt_append (pv 3) (pa_cons (pe_tup (pa_cons (pe_I (ok_tInit T) hr (by rfl) (pa_cons (pv 4) (pa_cons (pe_D (ok_shape T 25) hr28 (by rfl) (pa_cons (pv 0) (pa_cons (pv 2) pa_nil))) pa_nil))) (pa_cons (pv 4) pa_nil))) pa_nil)))))
    (pss_cons (ps_for PassesOwn.never rfl (pi_range1 (by rfl) T.range (pa_cons pe_int pa_nil)) (pg_name (i := 5) nd rfl (Or.inl rfl))
      (pss_cons (ps_asg (pe_ix ix_list (pv 3) (pe_op op_mod (pe_callTy call_int1 (by rfl) T.int boot_intT (pa_cons (pv 5) pa_nil)) pe_int) (fun _ _ => rfl)) (pg_tup rfl (pgs_cons (pg_name (i := 6) nd rfl (Or.inl rfl)) (pgs_cons (pg_name (i := 4) nd rfl (Or.inl rfl)) pgs_nil))))
      (pss_cons (ps_set (i := 7) nd rfl (Or.inl rfl) (pe_D (ok_draw T) hr1 (by rfl) (pa_cons (pv 0) (pa_cons (pe_op op_add (pe_callB call_len_str (by rfl) T.len boot_len (pa_cons (pv 4) pa_nil)) pe_int) pa_nil))))
      (pss_cons (ps_set (i := 8) nd rfl (Or.inl rfl) (pe_op op_add (pv 7) (pe_D (ok_draw T) hr1 (by rfl) (pa_cons (pv 0) (pa_cons (pe_op op_add (pe_op op_sub (pe_callB call_len_str (by rfl) T.len boot_len (pa_cons (pv 4) pa_nil)) (pv 7)) pe_int) pa_nil)))))
      (pss_cons (ps_set (i := 9) nd rfl (Or.inl rfl) (pe_callB (cr_sortTxt rfl) (by rfl) T.sorted (by decide +kernel) (pa_cons (pe_slice sl_T (pv 4) (po_some (pv 7)) (po_some (pv 8))) pa_nil)))
      (pss_cons (ps_asg (pe_tup (pa_cons (pe_D (ok_pick T) hr2 (by rfl) (pa_cons (pv 0) (pa_cons pe_str pa_nil))) (pa_cons (pe_D (ok_pick T) hr2 (by rfl) (pa_cons (pv 0) (pa_cons pe_str pa_nil))) pa_nil)))
        (pg_tup rfl (pgs_cons (pg_name (i := 10) nd rfl (Or.inr rfl)) (pgs_cons (pg_name (i := 11) nd rfl (Or.inr rfl)) pgs_nil))))
      (pss_cons (ps_if (pt_cmpR op_ne (pe_M (ok_between T) (pv 6) T.clT hr28 (pa_cons (pv 7) (pa_cons (pv 8) (pa_cons (pv 10) (pa_cons (pv 11) pa_nil)))))
          (pe_callB call_len_seq (by rfl) T.len boot_len (pa_cons (pe_lc (own := [("_law_sign", 13)]) (g := gName 13) rfl nd (pi_list (pv 9)) (blkOk_by (N := nGreat) (sc := defScope sGreat) (by decide +kernel))
            (fun _ _ _ _ _ => pg_name (i := 13) nd rfl (Or.inl rfl)) (fun _ _ _ _ _ => pts_one (pt_chain op_le_str op_le_str (pv 10) (pv 13) (pv 11))) (fun _ _ _ _ _ => pv 13)) pa_nil)) (nomark _)) (pss_one (ps_ret pe_bl)) pss_nil)
      (pss_cons (ps_set (i := 12) nd rfl (Or.inl rfl) (pe_op op_add pe_int (pe_D (ok_draw T) hr1 (by rfl) (pa_cons (pv 0) (pa_cons (pe_op op_add (pe_callB call_len_seq (by rfl) T.len boot_len (pa_cons (pv 9) pa_nil)) pe_int) pa_nil)))))
      (pss_one (ps_if (PW.pt (pw_and (pt_cmpR op_le (pv 12) (pe_callB call_len_seq (by rfl) T.len boot_len (pa_cons (pv 9) pa_nil)) (nomark _))
        (pw_and1 (pt_cmpR op_ne (pe_ix ix_tup (pe_M (ok_least T) (pv 6) T.clT hr4 (pa_cons (pv 7) (pa_cons (pv 8) (pa_cons (pv 12) pa_nil)))) pe_int (fun _ _ => rfl)) (pe_ix ix_list (pv 9) (pe_op op_sub (pv 12) pe_int) (fun _ _ => rfl)) (nomark _))))) (pss_one (ps_ret pe_bl)) pss_nil))))))))))
    (pss_one (ps_ret pe_bl)))), ?_⟩
  obtain ⟨yb, ye, ya, y1, y2⟩ := txt_lit (z := "abcfk") (by decide +kernel) (by decide +kernel)
  obtain ⟨zb, ze, za, z1, z2⟩ := txt_lit (z := "bdkxz") (by decide +kernel) (by decide +kernel)
  obtain ⟨m, me, ma, m1, m2⟩ := txt_lit (z := "kz") (by decide +kernel) (by decide +kernel)
  have lm : (l ++ m).length ≤ 326 := by
    rw [List.length_append]
    omega
  refine ⟨_, rfl, l, m, rfl, me, by omega, l ++ m, rfl, by omega, fun sa hsa => ?_⟩
  have ss := same_new (o := SetTx w sa (l ++ m)) hsa
  refine ⟨sa, l ++ m, rfl, upd_same, by omega, fun cs ca hca rise mem => ?_⟩
  have ss2 := same_new (o := .lst (cs.map lv)) hca
  have w2 := (hw.same ss).same ss2
  have k2 : Keep p H (upd (upd H sa (SetTx w sa (l ++ m))) ca (.lst (cs.map lv))) := Same.keep (ss.trans ss2)
  have ca2 : (upd (upd H sa (SetTx w sa (l ++ m))) ca (.lst (cs.map lv))) ca = _ := upd_same
  have hcap := Ne.symm ((hw.same ss).ne_new hca)
  have csA : Alpha cs := fun c hc => by
    rcases List.mem_append.mp ((mem c).mp hc) with h | h
    · exact la c h
    · exact ma c h
  have cs26 := rise_few rise csA
  have cs1 : 1 ≤ cs.length := by
    cases m with
    | nil => exact absurd m1 (Nat.not_succ_le_zero _)
    | cons c m => exact List.length_pos_of_mem ((mem c).mpr (List.mem_append.mpr (.inr (List.mem_cons_self ..))))
  refine ⟨Nat.zero_le _, fun L hL => ⟨_, _, rfl, ?_⟩⟩
  have hLp := Ne.symm (w2.ne_new hL)
  have hcL : ca ≠ L := ne_of_none ca2 hL
  have sL := same_new (o := .lst []) hL
  -- the three texts
  refine ⟨_, rfl, _, rfl, l, rfl, by omega, fun l2 l2s l2l => ?_⟩
  refine ⟨_, rfl, _, rfl, l, rfl, by omega, ?_⟩
  obtain ⟨l3, hl3⟩ : ∃ l3, l3 = (l.drop (HT.sIx l.length 0 none)).take (HT.sIx l.length l.length (some 9) - HT.sIx l.length 0 none) := ⟨_, rfl⟩
  have l3s : (∀ c ∈ l3, c ∈ l) ∧ l3.length ≤ l.length := by
    rw [hl3]
    exact slice_sub
  refine ⟨le1000 (n := 3) (by decide), fun pt hpt => ⟨pt, rfl, ⟨_, SqT.of upd_same⟩, ?_⟩⟩
  have hptp := Ne.symm ((w2.same sL).ne_new hpt)
  have spt := same_new (o := .tup [tv l, tv l2, tv ((l.drop (HT.sIx l.length 0 none)).take (HT.sIx l.length l.length (some 9) - HT.sIx l.length 0 none))]) hpt
  have hL3 := spt _ _ ((upd_same : (upd (upd (upd H sa (SetTx w sa (l ++ m))) ca (.lst (cs.map lv))) L (.lst [])) L = some (.lst [])))
  have hptL : L ≠ pt := ne_of_none ((upd_same : (upd (upd (upd H sa (SetTx w sa (l ++ m))) ca (.lst (cs.map lv))) L (.lst [])) L = some (.lst []))) hpt
  have upt : (upd (upd (upd (upd H sa (SetTx w sa (l ++ m))) ca (.lst (cs.map lv))) L (.lst [])) pt (.tup [tv l, tv l2, tv ((l.drop (HT.sIx l.length 0 none)).take (HT.sIx l.length l.length (some 9) - HT.sIx l.length 0 none))])) pt = some (.tup [tv l, tv l2, tv l3]) := by
    rw [hl3]
    exact upd_same
  have k3 : Keep p (upd (upd H sa (SetTx w sa (l ++ m))) ca (.lst (cs.map lv))) (upd (upd (upd (upd H sa (SetTx w sa (l ++ m))) ca (.lst (cs.map lv))) L (.lst [])) pt (.tup [tv l, tv l2, tv ((l.drop (HT.sIx l.length 0 none)).take (HT.sIx l.length l.length (some 9) - HT.sIx l.length 0 none))])) := Same.keep (sL.trans spt)
  have w3 := (w2.same sL).same spt
  refine for_it (walk_tup (K := K) (a := pt) (xs := [tv l, tv l2, tv l3])) (fun i σ H' => Keep p (upd (upd H sa (SetTx w sa (l ++ m))) ca (.lst (cs.map lv))) H' ∧ WellAt H' p ∧ H' pt = some (.tup [tv l, tv l2, tv l3]) ∧ (∃ gs : List V, gs.length = i ∧ H' L = some (.lst gs) ∧ ∀ g ∈ gs, GT K (cutO [p, L] H') g) ∧
    ∃ x4, σ = [some (.ref p), some (tv l), some (.ref ca), some (.ref L), x4, none, none, none, none, none, none, none, none, none]) ?_ ?_ ?_ ?_
  · exact ⟨k3, w3, upt, ⟨[], rfl, hL3, fun _ h => nomatch h⟩, none, rfl⟩
  · exact fun i σ H' _ pv => SqT.of pv.2.2.1
  · rintro i x σ Ha Hz hi ⟨kz, wz, uz, ⟨gs, gl, gL, gg⟩, x4, rfl⟩ ⟨rfl, hx⟩
    obtain ⟨o, rfl, ol, oc⟩ : ∃ o, x = tv o ∧ o.length ≤ 300 ∧ ∀ c ∈ o, c ∈ l := by
      have hi : i < 3 := hi
      rcases (by omega : i = 0 ∨ i = 1 ∨ i = 2) with rfl | rfl | rfl
      · exact ⟨l, (Option.some.inj hx).symm, ll, fun _ h => h⟩
      · exact ⟨l2, (Option.some.inj hx).symm, by omega, l2s⟩
      · exact ⟨l3, (Option.some.inj hx).symm, by omega, l3s.1⟩
    have oA : Alpha o := la.of oc
    refine ⟨_, rfl, .inl ⟨rfl, _, SqL.of gL⟩, ?_⟩
    refine ⟨_, rfl, _, rfl, _, rfl, _, _, rfl, p, ca, cs, rfl, wz, rfl, hcap, kz _ _ hcap ca2, cs1, by omega, cs26, fun H5 v s k5 w5 sv es tr dxr ntr ndx nne => ?_⟩
    have gL5 := k5 _ _ hLp gL
    have fs : Fine s := by
      refine ⟨?_, ?_, ?_⟩
      · rw [es]
        exact csA
      · rw [es]
        exact Rise.nodup rise
      · rw [es]
        exact cs26
    have rs : Rise s.ls := by
      rw [es]
      exact rise
    have os : ∀ c ∈ o, c ∈ s.ls := fun c hc => by
      rw [es]
      exact (mem c).mpr (List.mem_append.mpr (.inl (oc c hc)))
    have smk : Same H5 (upd (upd H5 dxr (.own tr)) tr (.ins (aT K) dxr [])) := (same_new ndx).trans (same_new (by rw [upd_ne (Ne.symm nne)]; exact ntr))
    have hp0 := held_two w5 gL5
    refine ⟨_, _, _, rfl, tr, dxr, s, o, [p, L], rfl, upd_same, rfl, Held.upd' (Held.upd' hp0), hp0.new ntr, (shape_two w5 gL5 sv).same (cutS smk), fs, oA, by omega, os, fun H6 k6 tr6 => ⟨rfl, ?_⟩⟩
    have e6 : Same H5 H6 := make_same ntr ndx k6
    refine ⟨_, rfl, le1000 (n := 2) (by decide), fun tp htp => ?_⟩
    have st := same_new (o := .tup [.ref tr, tv o]) htp
    have e7 := e6.trans st
    have gL7 := e7 _ _ gL5
    have w7 := w5.same e7
    have k7 := keep_same k5 e7
    refine ⟨L, _, _, rfl, rfl, gL7, ?_, ?_⟩
    · have hi : i < 3 := hi
      exact small1000 (by omega)
    have kL : Keep L (upd H6 tp (.tup [.ref tr, tv o])) (upd (upd H6 tp (.tup [.ref tr, tv o])) L (.lst (gs ++ [.ref tp]))) := keep_upd Keep.rfl'
    have cL := cut_well (q := [p, L]) (List.mem_cons_of_mem _ (List.mem_singleton.mpr rfl)) kL
    have tpq : tp ∉ [p, L] := (held_two (w5.same e6) (e6 _ _ gL5)).new htp
    have nLt : L ≠ tp := ne_of_none (e6 _ _ gL5) htp
    refine ⟨keep_mut (kz.trans k7) hL, w7.upd_ (Ne.symm hLp), ?_, ⟨gs ++ [.ref tp], ?_, upd_same, ?_⟩, _, rfl⟩
    · rw [upd_ne (Ne.symm hptL)]
      exact k7 _ _ hptp uz
    · rw [List.length_append, gl]
      rfl
    · intro g hg
      rcases List.mem_append.mp hg with hg | hg
      · exact (gg g hg).same (((cut_well (q := [p, L]) (List.mem_cons_self ..) k5).trans (cutS e7)).trans cL)
      · rw [List.mem_singleton.mp hg]
        exact ⟨tp, tr, s, o, rfl, cL _ _ (cut_get tpq upd_same), tr6.same ((cutS st).trans cL), rs, fs, os, oA, ol⟩
  rintro σ Hl ⟨kl, wl, _, ⟨gs, gl, gL, gg⟩, x4, rfl⟩
  have gl : gs.length = 3 := gl
  refine ⟨_, rfl, by decide, by decide, ?_⟩
  refine for_range (lo := 0) (n := 9) (fun i σ H' => Keep p Hl H' ∧ WellAt H' p ∧ ∃ x4 x5 x6 x7 x8 x9 x10 x11 x12, σ = [some (.ref p), some (tv l), some (.ref ca), some (.ref L), x4, x5, x6, x7, x8, x9, x10, x11, x12, none]) ?_ ?_ ?_
  · exact ⟨Keep.rfl', wl, _, _, _, _, _, _, _, _, _, rfl⟩
  · rintro i σ H3 hi ⟨k3, w3, x4, x5, x6, x7, x8, x9, x10, x11, x12, rfl⟩
    have hi3 : i % 3 < gs.length := by omega
    obtain ⟨tp, tr, s, o, hg, ht, tt, rs, fs, os, oA, ol⟩ := gg gs[i % 3] (List.getElem_mem hi3)
    have tree : ∀ {Hx : Hp}, Keep p Hl Hx → TreeAt K Hx tr s o := fun e => (tt.same (cut_well (q := [p, L]) (List.mem_cons_self ..) e)).same cut_sub
    have ht3 : H3 tp = some (.tup [.ref tr, tv o]) := cut_sub _ _ (cut_well (q := [p, L]) (List.mem_cons_self ..) k3 _ _ ht)
    have em : ((0 : Int) + (i : Nat)) % 3 = ((i % 3 : Nat) : Int) := by omega
    refine ⟨_, rfl, _, rfl, .inl ⟨_, rfl, _, _, rfl, rfl, (by show (0 : Int) < 3; decide), ?_⟩⟩
    refine ⟨L, gs, _, gs[i % 3], rfl, rfl, SqL.of (k3 _ _ hLp gL), ?_, ?_⟩
    · show atI gs (((0 : Int) + (i : Nat)) % 3) = _
      rw [em]
      exact atI_nat (List.getElem?_eq_getElem hi3)
    refine ⟨tp, _, hg, SqT.of ht3, rfl, _, _, rfl, _, _, rfl, rfl, ?_⟩
    -- first, last
    refine ⟨_, rfl, _, rfl, tx o, rfl, size_tx (by omega), _, _, rfl, rfl, _, _, rfl, p, o.length + 1, rfl, w3, congrArg V.int (by rw [tx_len]; omega), by omega, by omega, fun f H4 hf k4 w4 => ?_⟩
    refine ⟨_, rfl, _, rfl, _, rfl, tx o, rfl, size_tx (by omega), _, rfl, _, _, rfl, rfl, _, _, rfl, rfl, _, _, rfl, p, o.length - f + 1, rfl, w4, congrArg V.int (by rw [tx_len]; omega), by omega, by omega, fun n H5 hn k5 w5 => ?_⟩
    refine ⟨_, _, rfl, rfl, ?_⟩
    have hfn : f + n ≤ o.length := by omega
    have el : ((f : Nat) : Int) + (n : Nat) = ((f + n : Nat) : Int) := by omega
    obtain ⟨w, hwd⟩ : ∃ w, w = cut o f (f + n) := ⟨_, rfl⟩
    have wsub : ∀ c ∈ w, c ∈ o := fun c hc => by
      rw [hwd] at hc
      exact cut_mem hc
    have wl : w.length = n := by
      rw [hwd, cut_len (by omega) hfn]
      omega
    have sl := srt_len w
    have esl : (o.drop (HT.sIx o.length 0 (some ((f : Nat) : Int)))).take (HT.sIx o.length o.length (some (((f : Nat) : Int) + (n : Nat))) - HT.sIx o.length 0 (some ((f : Nat) : Int))) = w := by
      rw [el, cut_slice (by omega) hfn, hwd]
    have k5 := (k3.trans k4).trans k5
    refine ⟨_, rfl, _, rfl, _, rfl, _, rfl, _, rfl, o, rfl, by omega, w, congrArg (fun z => [tv z]) esl, by omega, fun ra hra => ?_⟩
    have sra := same_new (o := .lst ((srt w).map lv)) hra
    have w8 := w5.same sra
    have hrap := Ne.symm (w5.ne_new hra)
    have k8 := keep_same k5 sra
    have r8 : (upd H5 ra (.lst ((srt w).map lv))) ra = _ := upd_same
    generalize (upd H5 ra (.lst ((srt w).map lv))) = H8 at *
    -- low, high
    refine ⟨_, rfl, _, _, rfl, p, rfl, w8, .inl ⟨yb, ye, y1, by omega, fun lo H11 hlo k11 w11 => ?_⟩⟩
    refine ⟨_, rfl, _, _, rfl, p, rfl, w11, .inl ⟨zb, ze, z1, by omega, fun hg H12 hhg k12 w12 => ?_⟩⟩
    refine ⟨le1000 (n := 2) (by decide), fun tp2 htp2 => ?_⟩
    have stp := same_new (o := .tup [lv lo, lv hg]) htp2
    refine ⟨tp2, _, rfl, SqT.of upd_same, rfl, _, _, rfl, _, _, rfl, rfl, ?_⟩
    have k13 := keep_same ((k8.trans k11).trans k12) stp
    have w13 := w12.same stp
    have r13 := stp _ _ (k12 _ _ hrap (k11 _ _ hrap r8))
    generalize (upd H12 tp2 (.tup [lv lo, lv hg])) = H13 at *
    have ⟨lo1, lo2⟩ := ya lo hlo
    have ⟨hg1, hg2⟩ := za hg hhg
    obtain ⟨dx, fs', hT⟩ := id (tree k13)
    refine ⟨_, rfl, tr, dx, fs', rfl, hT.at_, hT.m4, _, rfl, _, rfl, _, rfl, _, rfl, _, _, _, _, _, rfl, tr, s, o, f, f + n, lo, hg, rfl, tree k13, rs, fs, os, by omega, rfl, congrArg V.int el, by omega, hfn, rfl, rfl, lo1, lo2, hg1, hg2, fun H14 s14 => ?_⟩
    have r14 := s14 _ _ r13
    refine ⟨_, rfl, ra, rfl, ⟨_, SqL.of r14⟩, fun D3 hD3 => ?_⟩
    refine lc_it (walk_list (K := K) (a := ra) (xs := (srt w).map lv)) (fun n H' => Same H14 H' ∧ H' D3 = some (.lst ((((srt w).take n).filter fun c => decide (lo ≤ c) && decide (c ≤ hg)).map lv))) ⟨same_new hD3, upd_same⟩ (fun _ _ _ pv => SqL.of (pv.1 _ _ r14)) ?_ ?_
    · rintro n x Ha Hz hn ⟨s1, d1⟩ ⟨rfl, hx⟩
      have hn : n < (srt w).length := by
        rw [List.length_map] at hn
        exact hn
      have hx : x = lv (srt w)[n] := by
        rw [List.getElem?_map, List.getElem?_eq_getElem hn] at hx
        exact (Option.some.inj hx).symm
      subst hx
      have ft := filt_take (f := fun c => decide (lo ≤ c) && decide (c ≤ hg)) (List.getElem?_eq_getElem hn)
      refine ⟨rfl, ?_⟩
      refine ⟨_, rfl, _, rfl, lt lo, lt (srt w)[n], rfl, rfl, ?_⟩
      by_cases h1 : lo ≤ (srt w)[n]
      · refine ⟨true, ?_, iteT ?_⟩
        · rw [lt_lv, decide_eq_false (by omega)]
          rfl
        refine ⟨_, rfl, lt (srt w)[n], lt hg, rfl, rfl, ?_⟩
        by_cases h2 : (srt w)[n] ≤ hg
        · refine ⟨true, ?_, iteT ?_⟩
          · rw [lt_lv, decide_eq_false (by omega)]
            rfl
          refine ⟨_, rfl, _, d1, ?_, same_mut s1 hD3, ?_⟩
          · rw [List.length_map]
            refine small1000 (Nat.le_trans (List.length_filter_le _ _) ?_)
            rw [List.length_take]
            omega
          · rw [upd_same, ft, decide_eq_true h1, decide_eq_true h2, List.map_append]
            rfl
        · refine ⟨false, ?_, iteF ⟨s1, ?_⟩⟩
          · rw [lt_lv, decide_eq_true (by omega)]
            rfl
          rw [ft, decide_eq_true h1, decide_eq_false h2, if_neg (by decide), List.append_nil]
          exact d1
      · refine ⟨false, ?_, iteF ⟨false, rfl, iteF ⟨s1, ?_⟩⟩⟩
        · rw [lt_lv, decide_eq_true (by omega)]
          rfl
        rw [ft, decide_eq_false h1, Bool.false_and, if_neg (by decide), List.append_nil]
        exact d1
    rintro H15 ⟨s15, d15⟩
    have hdue : ((((srt w).take ((srt w).map lv).length).filter fun c => decide (lo ≤ c) && decide (c ≤ hg)).map lv).length = btw lo hg (cut o f (f + n)) := by
      rw [List.length_map, List.take_of_length_le (by rw [List.length_map]; exact Nat.le_refl _), ← hwd]
      exact btw_perm (srt_perm w)
    refine ⟨D3, _, rfl, .inl (SqL.of d15), rfl, _, rfl, iteNS (congrArg (fun n : Nat => V.int n) hdue.symm) ?_⟩
    have e15 := s14.trans s15
    have k15 := keep_same k13 e15
    have w15 := w13.same e15
    have r15 := s15 _ _ r14
    -- k
    refine ⟨_, rfl, _, rfl, ra, _, rfl, .inl (SqL.of r15), _, _, rfl, rfl, _, _, rfl, p, w.length + 1, rfl, w15, congrArg V.int (by rw [List.length_map]; omega), by omega, by omega, fun kk H16 hkk k16 w16 => ?_⟩
    refine ⟨_, _, rfl, rfl, ?_⟩
    have k17 := k15.trans k16
    have r16 := k16 _ _ hrap r15
    refine ⟨_, rfl, _, rfl, ra, _, rfl, .inl (SqL.of r16), _, _, rfl, rfl, _, rfl, ite2 (fun e => ?_) (fun e => ?_)⟩
    · have e := of_decide_eq_true e
      rw [List.length_map] at e
      have hk : kk < (srt w).length := by omega
      obtain ⟨dx, fs', hT⟩ := id (tree k17)
      refine ⟨_, rfl, tr, dx, fs', rfl, hT.at_, hT.m3, _, rfl, _, rfl, _, rfl, _, _, _, _, rfl, tr, s, o, f, f + n, kk, (srt w)[kk], rfl, tree k17, rs, fs, os, by omega, rfl, congrArg V.int el, by omega, hfn, congrArg V.int (by omega), ?_, fun H18 tq s18 n18 t18 => ?_⟩
      · rw [← hwd]
        exact List.getElem?_eq_getElem hk
      · refine ⟨tq, _, _, _, rfl, rfl, SqT.of t18, atI_nat (j := 0) rfl, ?_⟩
        have r18 := s18 _ _ r16
        refine ⟨_, rfl, _, rfl, _, _, rfl, rfl, ra, _, _, lv (srt w)[kk], rfl, rfl, SqL.of r18, ?_, rfl, _, rfl, iteNS rfl ?_⟩
        · show atI ((srt w).map lv) ((1 : Int) + (kk : Nat) - 1) = _
          rw [show (1 : Int) + (kk : Nat) - 1 = (kk : Nat) by omega]
          refine atI_nat ?_
          rw [List.getElem?_map, List.getElem?_eq_getElem hk]
          rfl
        · exact ⟨keep_same k17 s18, w16.same s18, _, _, _, _, _, _, _, _, _, rfl⟩
    · exact iteF ⟨k17, w16, _, _, _, _, _, _, _, _, _, rfl⟩
  · rintro σ H' ⟨k7, w7, x4, x5, x6, x7, x8, x9, x10, x11, x12, rfl⟩
    refine k H' ?_ w7
    exact (k2.trans kl).trans k7
end
end Tix
set_option Elab.async false
set_option linter.all false
set_option maxRecDepth 100000
set_option maxHeartbeats 4000000
/-! law. -/
namespace Tix
open PySem PySem.Spec PyProof.Rows L2
abbrev s0 : Sh := .node (.leaf 97) (.node (.node (.leaf 98) (.leaf 99)) (.node (.leaf 101) (.leaf 103)))
abbrev t0 : List Nat := [99, 97, 98, 98, 97, 103, 101]
theorem str_cab : V.str "cabbage" = tv t0 := by rfl
theorem str_b : V.str "b" = lv 98 := by rfl
theorem str_d : V.str "d" = lv 100 := by rfl
theorem fine0 : Fine s0 := by
  refine ⟨?_, ?_, ?_⟩
  · unfold Alpha
    decide +kernel
  · decide +kernel
  · decide +kernel
theorem rise0 : Rise s0.ls := by decide +kernel
theorem sub0 : ∀ c ∈ t0, c ∈ s0.ls := by decide +kernel
theorem alpha0 : Alpha t0 := by
  unfold Alpha
  decide +kernel
theorem kth1 : kth (cut t0 0 7) 2 = some 98 := by decide +kernel
theorem kth2 : kth (cut t0 2 4) 1 = some 98 := by decide +kernel
theorem btw1 : btw 98 100 (cut t0 1 6) = 2 := by decide +kernel
theorem btw2 : btw 97 122 (cut t0 3 3) = 0 := by decide +kernel
theorem dof0 : dof s0 98 = 3 := by decide +kernel
theorem b3_shaped : SeqAt.shaped (.tuple [.str (lt 98), .int 3]) = true := by decide +kernel
section
variable {P : Program} {w : World} {K : PySem.W.Frag} {mg : Str → Option Value} {base : Heap}
def spLaw (K : PySem.W.Frag) : Sp := fun vs H Q _ => ∃ (a : Addr) (ns : List Int), vs = [.ref a] ∧ SqL K H a (ns.map V.int) ∧ ns.length ≤ 63 ∧ ∀ H', Q (.bl true) H'
abbrev nLaw : List Str := ["_law_script", "_law_k", "_law_well_here", "_law_turn", "_law_tree"]
theorem scLaw : FnScope nLaw ["_law_script"] (defScope sLaw) := ⟨rfl, rfl, rfl, by decide +kernel, rfl, by decide +kernel, by decide +kernel⟩
theorem law_body (T : Txt K mg) {f : Addr} : BodyOk P w K mg base nLaw "law" sLaw f 57 (spLaw K) := by
  rintro cdv A outer s H vs Q E hr ⟨a, ns, rfl, hs, hn, k⟩
  have nd := scLaw.nd
  refine ⟨_, pss_cons (ps_for PassesOwn.never rfl (pi_range1 (by rfl) T.range (pa_cons (pe_callB (call_max2 rfl) (by rfl) T.max (by decide +kernel) (pa_cons pe_int (pa_cons (pe_callB (call_min2 rfl) (by rfl) T.min (by decide +kernel) (pa_cons pe_int (pa_cons (pe_callB call_len_seq (by rfl) T.len boot_len (pa_cons (pv 0) pa_nil)) pa_nil))) pa_nil))) pa_nil)) (pg_name (i := 1) nd rfl (Or.inl rfl))
      (pss_cons (ps_set (i := 2) nd rfl (Or.inl rfl) (pe_D (ok_well T) (hr.mono (by decide)) (by rfl) (pa_cons (pv 0) (pa_cons (pv 1) pa_nil))))
      (pss_one (ps_for PassesOwn.never rfl (pi_range1 (by rfl) T.range (pa_cons pe_int pa_nil)) (pg_name (i := 3) nd rfl (Or.inl rfl))
        (pss_one (ps_if (PW.pt (pw_or (pt_not (pt_val (pe_D (ok_right T) hr (by rfl) (pa_cons (pv 2) (pa_cons (pe_D (ok_text T) (hr.mono (by decide)) (by rfl) (pa_cons (pv 2) (pa_cons pe_int pa_nil))) pa_nil)))))
          (pw_or1 (pt_not (pt_val (pe_D (ok_great T) hr (by rfl) (pa_cons (pv 2) (pa_cons (pe_D (ok_text T) (hr.mono (by decide)) (by rfl) (pa_cons (pv 2) (pa_cons pe_int pa_nil))) pa_nil)))))))) (pss_one (ps_ret pe_bl)) pss_nil))))))
    (pss_cons (ps_set (i := 4) nd rfl (Or.inl rfl) (pe_I (ok_tInit T) (hr.mono (by decide)) (by rfl) (pa_cons pe_str (pa_cons (pe_tup (pa_cons pe_str (pa_cons (pe_tup (pa_cons (pe_tup (pa_cons pe_str (pa_cons pe_str pa_nil))) (pa_cons (pe_tup (pa_cons pe_str (pa_cons pe_str pa_nil))) pa_nil))) pa_nil))) pa_nil))))
    (pss_cons (ps_if (PW.pt (pw_or (pt_cmpR (op_neD hr.units) (pe_M (ok_least T) (pv 4) T.clT (hr.mono (by decide)) (pa_cons pe_int (pa_cons pe_int (pa_cons pe_int pa_nil)))) (pe_tup (pa_cons pe_str (pa_cons pe_int pa_nil))) (nomark _))
        (pw_or1 (pt_cmpR (op_neD hr.units) (pe_M (ok_least T) (pv 4) T.clT (hr.mono (by decide)) (pa_cons pe_int (pa_cons pe_int (pa_cons pe_int pa_nil)))) (pe_tup (pa_cons pe_str (pa_cons pe_int pa_nil))) (nomark _))))) (pss_one (ps_ret pe_bl)) pss_nil)
    (pss_one (ps_ret (pe_and (pe_cmpR op_eq (pe_M (ok_between T) (pv 4) T.clT (hr.mono (by decide)) (pa_cons pe_int (pa_cons pe_int (pa_cons pe_str (pa_cons pe_str pa_nil))))) pe_int (nomark _))
      (pe_one (pe_cmpR op_eq (pe_M (ok_between T) (pv 4) T.clT (hr.mono (by decide)) (pa_cons pe_int (pa_cons pe_int (pa_cons pe_str (pa_cons pe_str pa_nil))))) pe_int (nomark _)))))))), ?_⟩
  refine ⟨_, rfl, a, _, rfl, .inl hs, _, _, rfl, _, _, rfl, _, rfl, (by rw [List.length_map]; split <;> split <;> omega), (by rw [List.length_map]; split <;> split <;> omega), ?_⟩
  refine for_range (lo := 0) (fun i σ H' => Same H H' ∧ ∃ x1 x2 x3, σ = [some (.ref a), x1, x2, x3, none]) ⟨fun _ _ h => h, none, none, none, rfl⟩ ?_ ?_
  · rintro i σ Hc hi ⟨sc, x1, x2, x3, rfl⟩
    refine ⟨_, rfl, _, rfl, _, _, rfl, a, ns, i, rfl, sc.seq hs, by omega, congrArg V.int (by omega), fun H1 p s1 n1 w1 => ?_⟩
    refine ⟨_, rfl, by decide, by decide, ?_⟩
    refine for_range (lo := 0) (n := 2) (fun j σ H' => Keep p H1 H' ∧ WellAt H' p ∧ ∃ x3, σ = [some (.ref a), some (.int (0 + (i : Nat))), some (.ref p), x3, none]) ⟨Keep.rfl', w1, x3, rfl⟩ ?_ ?_
    · rintro j σ H2 hj ⟨k2, w2, x3, rfl⟩
      refine ⟨_, rfl, _, rfl, _, _, rfl, p, 25, rfl, w2, rfl, by decide, fun l H3 la ll k3 w3 => ?_⟩
      refine ⟨_, _, rfl, p, l, rfl, w3, rfl, la, ll, fun H4 k4 w4 => ⟨true, rfl, iteF ?_⟩⟩
      refine ⟨_, rfl, _, rfl, _, _, rfl, p, 300, rfl, w4, rfl, by decide, fun l H5 la ll k5 w5 => ?_⟩
      refine ⟨_, _, rfl, p, l, rfl, w5, rfl, la, ll, fun H6 k6 w6 => ⟨true, rfl, iteF ?_⟩⟩
      exact ⟨(((k2.trans k3).trans k4).trans k5).trans k6, w6, _, rfl⟩
    · rintro σ H2 ⟨k2, w2, x3, rfl⟩
      exact ⟨fun b o hb => k2 b o (ne_of_none (sc.trans (fun _ _ h => h) |> fun e => e b o hb) n1) (s1 _ _ (sc _ _ hb)), _, _, _, rfl⟩
  rintro σ H1 ⟨e1, x1, x2, x3, rfl⟩
  refine ⟨le1000 (n := 2) (by decide), fun t1 h1 => ?_⟩
  refine ⟨le1000 (n := 2) (by decide), fun t2 h2 => ?_⟩
  refine ⟨le1000 (n := 2) (by decide), fun t3 h3 => ?_⟩
  refine ⟨le1000 (n := 2) (by decide), fun t4 h4 => ?_⟩
  intro tr dxr ntr ndx nne
  have smk := (same_new (o := .own tr) ndx).trans (same_new (o := .ins (aT K) dxr []) (by rw [upd_ne (Ne.symm nne)]; exact ntr))
  have g4 := smk _ _ (upd_same : (upd (upd (upd (upd H1 t1 (.tup [.str "b", .str "c"])) t2 (.tup [.str "e", .str "g"])) t3 (.tup [.ref t1, .ref t2])) t4 (.tup [.str "a", .ref t3])) t4 = _)
  have g3 := smk _ _ (same_new (o := .tup [.str "a", .ref t3]) h4 _ _ (upd_same : (upd (upd (upd H1 t1 (.tup [.str "b", .str "c"])) t2 (.tup [.str "e", .str "g"])) t3 (.tup [.ref t1, .ref t2])) t3 = _))
  have g2 := smk _ _ (same_new (o := .tup [.str "a", .ref t3]) h4 _ _ (same_new (o := .tup [.ref t1, .ref t2]) h3 _ _ (upd_same : (upd (upd H1 t1 (.tup [.str "b", .str "c"])) t2 (.tup [.str "e", .str "g"])) t2 = _)))
  have g1 := smk _ _ (same_new (o := .tup [.str "a", .ref t3]) h4 _ _ (same_new (o := .tup [.ref t1, .ref t2]) h3 _ _ (same_new (o := .tup [.str "e", .str "g"]) h2 _ _ (upd_same : (upd H1 t1 (.tup [.str "b", .str "c"])) t1 = _))))
  have nq : ∀ b : Addr, b ∉ ([] : List Addr) := fun b h => nomatch h
  refine ⟨_, _, _, rfl, tr, dxr, s0, t0, [], rfl, upd_same, str_cab, (fun _ h => nomatch h), nq _, ?_, fine0, alpha0, by decide, sub0, fun H6 k6 tr6 => ⟨rfl, ?_⟩⟩
  · exact ⟨t4, _, _, rfl, cut_get (nq _) g4, rfl, t3, _, _, rfl, cut_get (nq _) g3, ⟨t1, _, _, rfl, cut_get (nq _) g1, rfl, rfl⟩, ⟨t2, _, _, rfl, cut_get (nq _) g2, rfl, rfl⟩⟩
  have tt : TreeAt K H6 tr s0 t0 := tr6.same cut_sub
  clear tr6 g1 g2 g3 g4
  obtain ⟨dx, fs, ht⟩ := id tt
  refine ⟨_, rfl, tr, dx, fs, rfl, ht.at_, ht.m3, _, _, _, _, rfl, tr, s0, t0, 0, 7, 2, 98, rfl, tt, rise0, fine0, sub0, by decide, rfl, rfl, by decide, by decide, rfl, kth1, fun H7 q s7 n7 q7 => ?_⟩
  rw [dof0] at q7
  refine ⟨le1000 (n := 2) (by decide), fun u1 hu1 => ?_⟩
  have e8 := same_new (o := .tup [.str "b", .int 3]) hu1
  refine ⟨.tuple [.str (lt 98), .int 3], .tuple [.str (lt 98), .int 3], .tup (SqT.of (e8 _ _ q7)) (.cons (.str _) (.cons (.int _) .nil)), .tup (SqT.of upd_same) (.cons (.str _) (.cons (.int _) .nil)), b3_shaped, b3_shaped, false, congrArg V.bl (by decide +kernel), iteF ?_⟩
  have e9 := s7.trans e8
  have tt := tt.same e9
  obtain ⟨dx, fs, ht⟩ := id tt
  refine ⟨_, rfl, tr, dx, fs, rfl, ht.at_, ht.m3, _, _, _, _, rfl, tr, s0, t0, 2, 4, 1, 98, rfl, tt, rise0, fine0, sub0, by decide, rfl, rfl, by decide, by decide, rfl, kth2, fun H8 q2 s8 n8 q8 => ?_⟩
  rw [dof0] at q8
  refine ⟨le1000 (n := 2) (by decide), fun u2 hu2 => ?_⟩
  have e10 := same_new (o := .tup [.str "b", .int 3]) hu2
  refine ⟨.tuple [.str (lt 98), .int 3], .tuple [.str (lt 98), .int 3], .tup (SqT.of (e10 _ _ q8)) (.cons (.str _) (.cons (.int _) .nil)), .tup (SqT.of upd_same) (.cons (.str _) (.cons (.int _) .nil)), b3_shaped, b3_shaped, false, congrArg V.bl (by decide +kernel), iteF ?_⟩
  have tt := tt.same (s8.trans e10)
  obtain ⟨dx, fs, ht⟩ := id tt
  refine ⟨_, rfl, tr, dx, fs, rfl, ht.at_, ht.m4, _, _, _, _, _, rfl, tr, s0, t0, 1, 6, 98, 100, rfl, tt, rise0, fine0, sub0, by decide, rfl, rfl, by decide, by decide, str_b, str_d, by decide, by decide, by decide, by decide, fun H9 s9 => ?_⟩
  refine ⟨rfl, true, ?_, iteT ?_⟩
  · rw [btw1]
    rfl
  have tt := tt.same s9
  obtain ⟨dx, fs, ht⟩ := id tt
  refine ⟨_, rfl, tr, dx, fs, rfl, ht.at_, ht.m4, _, _, _, _, _, rfl, tr, s0, t0, 3, 3, 97, 122, rfl, tt, rise0, fine0, sub0, by decide, rfl, rfl, by decide, by decide, str_a, str_z, by decide, by decide, by decide, by decide, fun H10 s10 => ?_⟩
  refine ⟨rfl, ?_⟩
  rw [btw2]
  exact k H10
end
end Tix
set_option Elab.async false
set_option linter.all false
set_option maxRecDepth 100000
set_option maxHeartbeats 0
namespace Tix
open PySem PySem.Spec PyProof.Rows L2
theorem facts {P : Program} {w : World} {K : PySem.W.Frag} {h : Heap} {mg : Str → Option Value} {f : Addr} (X : K.In h) (G : h.Ns mainGlobals mg) (hfa : mg ("law" : Str) = some (.ref f)) (c : He.SaysD fa fn K) :
    ∃ fd : FuncData, (∀ (s : Shared) (v : Value), BindsTo s fd ⟨[v], []⟩ [("_law_script", v)]) ∧ ∀ base : Heap, K.In base → base.Ns mainGlobals mg → FnOk P w K mg base CX0 100 f fd ["_law_script"] (spLaw K) := by
  obtain ⟨fd, F⟩ := c.def_ 26 rfl
  have e := hfa.symm.trans (He.glo_ok X G (c.fact 19 (f := .glo "law") rfl))
  cases e
  have b := FunD.bindsA (ps := ["_law_script"]) F fun _ _ _ _ _ _ us hl => match us, hl with | [_], _ => rfl
  refine ⟨fd, fun s v => b s [v] rfl, fun base _ _ => ?_⟩
  have T : Txt K mg := ⟨c, ⟨h, X, G⟩⟩
  refine (F.ok (k := 57) scLaw (fun vs H Q E q => ?_) fun cdv A outer s H vs Q E hr hsp => ?_).mono (by decide)
  · obtain ⟨a, ns, rfl, _⟩ := q
    rfl
  · obtain ⟨t, ht, q⟩ := law_body T cdv A outer s H vs Q E hr hsp
    exact ⟨t, ht.nox, q⟩
end Tix
open PySem PySem.W PySem.Calls PyProof.Rows
theorem PySem.Challenge.cw_turnindex_k54_whole_stretches_asked_of_t_holds : PySem.Challenge.rw_turnindex_k54_whole_stretches_asked_of_t.Holds := by
  w_on; o_law
  refine HandSHeadRun.head_any (r := Tix.R) (q := view Tix.R.prog [31]) (H := Tix.hk) (ob := Tix.ob) (M := 4000) (loose := Tix.loose) (d := HandSHeadRun.topDef Tix.R.prog 31) (kwd := []) Tix.ob_eq
    (by kernel_rfl) (fun s => by kernel_rfl) Tix.run (by kernel_rfl) (by kernel_rfl) (by kernel_rfl) (by rfl) (by first | assumption | decide +kernel) (by decide +kernel) ⟨rfl, rfl, rfl, rfl, rfl, by decide +kernel⟩ ?hw ?hc
  case hw => w_witness2
  case hc =>
    refine L2.walk_ofE (l := PySem.Challenge.rw_turnindex_k54_whole_stretches_asked_of_t) (n := 63) (k := 100) (x := "_law_script") (CX := L2.CX0) rfl (by decide) (by kernel_rfl) ⟨rfl, by decide, by decide⟩ ?F (fun _ _ _ _ z => z)
    intro w mg fa h Y G hmg0
    obtain ⟨K, KX, c⟩ := Y
    have hmg : mg ("law" : PySem.Str) = some (.ref fa) := by
      have e : (HandSHeadRun.topDef Tix.R.prog 31).name = ("law" : PySem.Str) := by kernel_rfl
      rw [← e]
      exact hmg0
    obtain ⟨fd, hb, hF⟩ := Tix.facts (P := (PySem.Challenge.rw_turnindex_k54_whole_stretches_asked_of_t).prog) (w := w) KX G hmg c
    exact ⟨K, fd, Tix.spLaw K, KX, hb, fun H a ns hl _ hS => ⟨a, ns, rfl, hS, hl, fun _ => rfl⟩, hF⟩
