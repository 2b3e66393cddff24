import PyProof.Rows.All
import Wide.All
import OpenK.AllK
import Wide.FinOn
import PySem.Challenge.RW_np0291_01
open PySem PySem.W PyProof.Rows
set_option Elab.async false
set_option maxRecDepth 100000
set_option compiler.extract_closed false
namespace Mine
set_option maxHeartbeats 8000000 in
set_option synthInstance.maxSize 1 in
open_top hd for PySem.Challenge.rw_np0291_01
end Mine
namespace Mine
open PySem.Builtin PySem.Builtin.Str

/-! ### texts as lists of code points -/
theorem str_ext {a b : Str} (h : a.cps.toList = b.cps.toList) : a = b := PySem.Str.ext' (Array.toList_inj.mp h)
theorem len_toList (x : Str) : x.cps.toList.length = x.length := Array.length_toList
theorem str_beq (a b : Str) : (a == b) = (a.cps.toList == b.cps.toList) := by
  rw [Bool.eq_iff_iff, beq_iff_eq, beq_iff_eq]
  exact ⟨fun h => by rw [h], str_ext⟩

theorem slice_ss (x : Str) {i j : Nat} (hi : i ≤ x.length) (hij : i ≤ j) : (Txt.slice x (some (i : Int)) (some (j : Int))).cps.toList = (x.cps.toList.drop i).take (j - i) := by
  show (StrLaws.sliceText x (some (i : Int)) (some (j : Int))).cps.toList = _
  by_cases hj : j ≤ x.length
  · rw [StrLaws.sliceText_nat x hij hj]
  · have e : StrLaws.sliceText x (some (i : Int)) (some (j : Int)) = StrLaws.sliceText x (some (i : Int)) (some ((x.length : Nat) : Int)) := by
      have e2 : strSliceIndices (some (i : Int)) (some (j : Int)) 1 x.length = strSliceIndices (some (i : Int)) (some (x.length : Int)) 1 x.length := by
        have h1 : ¬ ((j : Int) < 0) := by omega
        have h2 : ¬ ((x.length : Int) < 0) := by omega
        have e3 : min (j : Int) (x.length : Int) = min (x.length : Int) (x.length : Int) := by omega
        simp only [strSliceIndices, h1, h2, if_false, e3, show ((1 : Int) > 0) = True from by simp, if_true]
      unfold StrLaws.sliceText
      rw [e2]
    rw [e, StrLaws.sliceText_nat x hi (Nat.le_refl _)]
    show ((x.cps.toList.drop i).take (x.length - i)) = _
    have hl := len_toList x
    rw [List.take_of_length_le (by rw [List.length_drop]; omega), List.take_of_length_le (by rw [List.length_drop]; omega)]
theorem slice_sn (x : Str) {i : Nat} (hi : i ≤ x.length) : (Txt.slice x (some (i : Int)) none).cps.toList = x.cps.toList.drop i := by
  have e : Txt.slice x (some (i : Int)) none = Txt.slice x (some (i : Int)) (some ((x.length : Nat) : Int)) := by
    show StrLaws.sliceText x _ _ = StrLaws.sliceText x _ _
    unfold StrLaws.sliceText
    rw [StrLaws.sliceIdx_none_hi]
  rw [e, slice_ss x hi hi]
  have hl := len_toList x
  rw [List.take_of_length_le (by rw [List.length_drop]; omega)]
theorem slice_ns (x : Str) (j : Nat) : (Txt.slice x none (some (j : Int))).cps.toList = x.cps.toList.take j := by
  have e : Txt.slice x none (some (j : Int)) = Txt.slice x (some ((0 : Nat) : Int)) (some (j : Int)) := by
    show StrLaws.sliceText x _ _ = StrLaws.sliceText x _ _
    unfold StrLaws.sliceText
    rw [StrLaws.sliceIdx_none_lo]; rfl
  rw [e, slice_ss x (Nat.zero_le _) (Nat.zero_le _)]
  simp
theorem item_eq (x : Str) {i : Nat} (hi : i < x.length) : ∃ c, x.cps.toList[i]? = some c ∧ Txt.item x (i : Int) = ⟨#[c]⟩ := by
  obtain ⟨c, hc⟩ := StrLaws.some_at (x := x) (i := (i : Int)) (by omega) (by omega)
  refine ⟨c, by simpa using hc, ?_⟩
  have e := StrLaws.at_nonneg (x := x) (i := (i : Int)) (by omega) hc
  show (⟨#[(Txt.charAt x i).getD 0]⟩ : Str) = _
  unfold Txt.charAt
  rw [e]; rfl
theorem in_one (x : Str) (c : Nat) : (occurrences x ⟨#[c]⟩ 0 x.length 1).isEmpty = !decide (c ∈ x.cps.toList) := by
  have h := StrLaws.found_one x c
  rw [← h, Bool.not_not]
theorem at_lt {l : List Nat} {i c : Nat} (h : l[i]? = some c) : i < l.length := (List.getElem?_eq_some_iff.mp h).1

/-! ### the parts, on lists of code points -/
def charsEnd (l : List Nat) (at' : Nat) (y : List Nat) : Option Nat := if (l.drop at').take y.length = y then some (at' + y.length) else none
def lenEnd (n at' m : Nat) : Option Nat := if at' + m ≤ n then some (at' + m) else none
def posEnd (at' p : Nat) : Option Nat := if at' = p then some at' else none
def rposEnd (n at' p : Nat) : Option Nat := if n - at' = p then some at' else none
def tabEnd (n at' p : Nat) : Option Nat := if at' ≤ p ∧ p ≤ n then some p else none
def rtabEnd (n at' p : Nat) : Option Nat := if at' + p ≤ n then some (n - p) else none
def anyAt (l : List Nat) (at' : Nat) (s : List Nat) : Option Nat := match l[at']? with | some c => if c ∈ s then some (at' + 1) else none | none => none
def notanyAt (l : List Nat) (at' : Nat) (s : List Nat) : Option Nat := match l[at']? with | some c => if c ∈ s then none else some (at' + 1) | none => none
def runEnd (l : List Nat) (at' : Nat) (s : List Nat) (b : Bool) : Nat := at' + ((l.drop at').takeWhile (fun c => decide (c ∈ s) == b)).length
def spanEnd (l : List Nat) (at' : Nat) (s : List Nat) : Option Nat := if at' < runEnd l at' s true then some (runEnd l at' s true) else none
def breakEnd (l : List Nat) (at' : Nat) (s : List Nat) : Option Nat := if runEnd l at' s false < l.length then some (runEnd l at' s false) else none
def hits (l : List Nat) (s : List Nat) (e : Nat) : Bool := match l[e]? with | some c => decide (c ∈ s) | none => false
def breakxEnds (l : List Nat) (at' : Nat) (s : List Nat) : List Nat := (List.range' at' (l.length - at')).filter (hits l s)
def arbEnds (n at' : Nat) : List Nat := List.range' at' (n + 1 - at')
def stepLev (lev : Int) (c : Nat) : Int := if c = 40 then lev + 1 else if c = 41 then lev - 1 else lev
def balGo : Int → List Nat → Nat → Option Nat
  | _, [], _ => none
  | lev, c :: r, p => if stepLev lev c < 0 then none else if stepLev lev c = 0 then some (p + 1) else balGo (stepLev lev c) r (p + 1)
def balEnd (l : List Nat) (at' : Nat) : Option Nat := balGo 0 (l.drop at') at'
def balEndsGo (l : List Nat) : Nat → Nat → List Nat
  | 0, _ => []
  | k + 1, p => match balEnd l p with
    | none => []
    | some e => e :: balEndsGo l k e
def balEnds (l : List Nat) (at' : Nat) : List Nat := balEndsGo l (l.length + 1) at'
def isBalGo : Int → List Nat → Bool
  | lev, [] => lev == 0
  | lev, c :: r => if stepLev lev c < 0 then false else isBalGo (stepLev lev c) r

theorem run_stop {l : List Nat} {p : Nat} {s : List Nat} {b : Bool} (h : l.length ≤ p) : runEnd l p s b = p := by
  unfold runEnd
  rw [List.drop_eq_nil_of_le h]; rfl
theorem run_here {l : List Nat} {p c : Nat} {s : List Nat} {b : Bool} (hc : l[p]? = some c) : runEnd l p s b = if (decide (c ∈ s) == b) = true then runEnd l (p + 1) s b else p := by
  obtain ⟨hp, e⟩ := List.getElem?_eq_some_iff.mp hc
  unfold runEnd
  rw [List.drop_eq_getElem_cons hp, e, List.takeWhile_cons]
  split
  · simp; omega
  · rfl
theorem run_le {l : List Nat} {p : Nat} {s : List Nat} {b : Bool} (h : p ≤ l.length) : p ≤ runEnd l p s b ∧ runEnd l p s b ≤ l.length := by
  unfold runEnd
  have h1 : ((l.drop p).takeWhile (fun c => decide (c ∈ s) == b)).length ≤ (l.drop p).length := (List.takeWhile_sublist _).length_le
  rw [List.length_drop] at h1
  omega
end Mine
namespace Mine
open PySem.Builtin PySem.Builtin.Str

/-- a def that gives one value back and makes nothing that stays -/
@[reducible] def SpecV (w : World) (f : Addr) (vs : List Value) (D : Nat) (R : Tok → Value) : Prop :=
  ∀ (dp un : Nat) (gd : Option (List Code)) (cn : Str) (cs : Scope) (a : Addr) (ccd : Value) (cl : List (Str × Addr)) (outer : List Env) (A₀ : Around) (base h₀ : Heap) (L : Addr) (m : Str → Option Value) (news : List (Addr × Obj)) (s : Shared) (mean : ExcName → Option Value) (mg mb : Str → Option Value) (Q E : Value → Shared → Prop),
    Below A₀ base outer h₀ → Fr h₀ L s.heap m → (hd.heap_39 w.params).In h₀ → News h₀ L s.heap news → Top hd.view_39 (looseW hd.view_39 []) mean mg mb h₀ → cs.kind = .function →
    dp + D < recursionLimit → un + 8 * D < cLine →
    (∀ (t : Tok) (h' : Heap) (tk' : Nat), Fr h₀ L h' m → News h₀ L h' news → Q (R t) { s with heap := h', toks := tk' }) →
    wpAny (model Challenge.rw_np0291_01.row.prog w) (ktrTop dp un gd cn cs L a ccd cl outer) (call (.ref f) vs) Q E s

theorem useV {w : World} {f : Addr} {vs : List Value} {D : Nat} {R : Tok → Value} (S : SpecV w f vs D R)
    {dp un : Nat} {gd : Option (List Code)} {cn : Str} {cs : Scope} {a : Addr} {ccd : Value} {cl : List (Str × Addr)} {outer : List Env} {A₀ : Around} {base h₀ : Heap} {L : Addr} {m : Str → Option Value} {news : List (Addr × Obj)} {s : Shared} {mean : ExcName → Option Value} {mg mb : Str → Option Value} {Q E : Value → Shared → Prop}
    (B : Below A₀ base outer h₀ := by k_asm) (F : Fr h₀ L s.heap m := by k_asm) (X : (hd.heap_39 w.params).In h₀ := by k_asm) (N : News h₀ L s.heap news := by k_asm) (T : Top hd.view_39 (looseW hd.view_39 []) mean mg mb h₀ := by k_asm) (hk : cs.kind = .function := by first | exact rfl | assumption)
    (h1 : dp + D < recursionLimit := by ktr_room) (h2 : un + 8 * D < cLine := by ktr_units)
    (ret : ∀ (t : Tok) (h' : Heap) (tk' : Nat), Fr h₀ L h' m → News h₀ L h' news → Q (R t) { s with heap := h', toks := tk' }) :
    wpAny (model Challenge.rw_np0291_01.row.prog w) (ktrTop dp un gd cn cs L a ccd cl outer) (call (.ref f) vs) Q E s :=
  S dp un gd cn cs a ccd cl outer A₀ base h₀ L m news s mean mg mb Q E B F X N T hk h1 h2 ret

def ovn (o : Option Nat) (t : Tok) : Value := match o with | none => .none | some i => .int (i : Int) t
theorem ovn_int {o : Option Nat} {i : Int} {t : Tok} (n : Nat) (h : o = some n) (e : i = n) : Value.int i t = ovn o t := by subst h; subst e; rfl
theorem ovn_no {o : Option Nat} {t : Tok} (h : o = none) : Value.none = ovn o t := by subst h; rfl

theorem retV {h₀ h' : Heap} {L : Addr} {m : Str → Option Value} {news : List (Addr × Obj)} {s : Shared} {Q : Value → Shared → Prop} {R : Tok → Value} {v : Value} {tk' : Nat}
    (hret : ∀ (t : Tok) (h' : Heap) (tk' : Nat), Fr h₀ L h' m → News h₀ L h' news → Q (R t) { s with heap := h', toks := tk' }) (t : Tok) (F : Fr h₀ L h' m) (N : News h₀ L h' news) (e : v = R t) : Q v { s with heap := h', toks := tk' } := by
  subst e
  exact hret t h' tk' F N

set_option maxHeartbeats 4000000

theorem s_len_end (w : World) (x : Str) (tx : Tok) (p q : Nat) (ta tm : Tok) (h1 : x.length ≤ 1000) :
    SpecV w 28 [.str x tx, .int p ta, .int q tm] 1 (ovn (lenEnd x.length p q)) := by
  w_top off
  unfold SpecV
  k_fill
  intro dp un gd cn cs a ccd cl outer A₀ base h₀ L m news s mean mg mb Q E B F X N T hk hd hu hret
  refine wpAny_call ?_
  k_dflt cell_enter
  k_steps
  · exact retV hret _ (by assumption) (by assumption) (ovn_int (p + q) (by unfold lenEnd; rw [if_pos (by omega)]) (by omega))
  · exact retV hret 0 (by assumption) (by assumption) (ovn_no (by unfold lenEnd; rw [if_neg (by omega)]))

theorem s_pos_end (w : World) (p q : Nat) (ta tm : Tok) :
    SpecV w 35 [.int p ta, .int q tm] 1 (ovn (posEnd p q)) := by
  w_top off
  unfold SpecV
  k_fill
  intro dp un gd cn cs a ccd cl outer A₀ base h₀ L m news s mean mg mb Q E B F X N T hk hd hu hret
  refine wpAny_call ?_
  k_dflt cell_enter
  k_steps
  · exact retV hret _ (by assumption) (by assumption) (ovn_int p (by unfold posEnd; rw [if_pos (by omega)]) (by omega))
  · exact retV hret 0 (by assumption) (by assumption) (ovn_no (by unfold posEnd; rw [if_neg (by omega)]))
theorem s_rpos_end (w : World) (x : Str) (tx : Tok) (p q : Nat) (ta tm : Tok) (h1 : x.length ≤ 1000) (h2 : p ≤ x.length) :
    SpecV w 42 [.str x tx, .int p ta, .int q tm] 1 (ovn (rposEnd x.length p q)) := by
  w_top off
  unfold SpecV
  k_fill
  intro dp un gd cn cs a ccd cl outer A₀ base h₀ L m news s mean mg mb Q E B F X N T hk hd hu hret
  refine wpAny_call ?_
  k_dflt cell_enter
  k_steps
  · exact retV hret _ (by assumption) (by assumption) (ovn_int p (by unfold rposEnd; rw [if_pos (by omega)]) (by omega))
  · exact retV hret 0 (by assumption) (by assumption) (ovn_no (by unfold rposEnd; rw [if_neg (by omega)]))
theorem s_tab_end (w : World) (x : Str) (tx : Tok) (p q : Nat) (ta tm : Tok) (h1 : x.length ≤ 1000) :
    SpecV w 49 [.str x tx, .int p ta, .int q tm] 1 (ovn (tabEnd x.length p q)) := by
  w_top off
  unfold SpecV
  k_fill
  intro dp un gd cn cs a ccd cl outer A₀ base h₀ L m news s mean mg mb Q E B F X N T hk hd hu hret
  refine wpAny_call ?_
  k_dflt cell_enter
  k_steps
  · exact retV hret _ (by assumption) (by assumption) (ovn_int q (by unfold tabEnd; rw [if_pos (by omega)]) (by omega))
  · exact retV hret 0 (by assumption) (by assumption) (ovn_no (by unfold tabEnd; rw [if_neg (by omega)]))
  · exact retV hret 0 (by assumption) (by assumption) (ovn_no (by unfold tabEnd; rw [if_neg (by omega)]))
theorem s_rtab_end (w : World) (x : Str) (tx : Tok) (p q : Nat) (ta tm : Tok) (h1 : x.length ≤ 1000) :
    SpecV w 56 [.str x tx, .int p ta, .int q tm] 1 (ovn (rtabEnd x.length p q)) := by
  w_top off
  unfold SpecV
  k_fill
  intro dp un gd cn cs a ccd cl outer A₀ base h₀ L m news s mean mg mb Q E B F X N T hk hd hu hret
  refine wpAny_call ?_
  k_dflt cell_enter
  k_steps
  · exact retV hret _ (by assumption) (by assumption) (ovn_int (x.length - q) (by unfold rtabEnd; rw [if_pos (by omega)]) (by omega))
  · exact retV hret 0 (by assumption) (by assumption) (ovn_no (by unfold rtabEnd; rw [if_neg (by omega)]))
theorem s_rem_end (w : World) (x : Str) (tx : Tok) (h1 : x.length ≤ 1000) :
    SpecV w 63 [.str x tx] 1 (fun t => .int x.length t) := by
  w_top off
  unfold SpecV
  k_fill
  intro dp un gd cn cs a ccd cl outer A₀ base h₀ L m news s mean mg mb Q E B F X N T hk hd hu hret
  refine wpAny_call ?_
  k_dflt cell_enter
  k_steps
  · exact retV hret _ (by assumption) (by assumption) rfl
theorem s_chars_end (w : World) (x y : Str) (tx ty : Tok) (p : Nat) (ta : Tok) (h1 : x.length ≤ 1000) (h2 : y.length ≤ 1000) (h3 : p ≤ x.length) :
    SpecV w 21 [.str x tx, .int p ta, .str y ty] 1 (ovn (charsEnd x.cps.toList p y.cps.toList)) := by
  have e0 : (p : Int) + (y.length : Int) = ((p + y.length : Nat) : Int) := by omega
  have e : (Txt.slice x (some (p : Int)) (some ((p : Int) + (y.length : Int))) == y) = decide ((x.cps.toList.drop p).take y.cps.toList.length = y.cps.toList) := by
    rw [str_beq, e0, slice_ss x h3 (Nat.le_add_right _ _), Nat.add_sub_cancel_left, len_toList]
    rw [Bool.eq_iff_iff, beq_iff_eq, decide_eq_true_eq]
  w_top off
  unfold SpecV
  k_fill
  intro dp un gd cn cs a ccd cl outer A₀ base h₀ L m news s mean mg mb Q E B F X N T hk hd hu hret
  refine wpAny_call ?_
  k_dflt cell_enter
  k_steps
  · rename_i hc _ _ _ _
    rw [e, decide_eq_true_eq] at hc
    exact retV hret _ (by assumption) (by assumption) (ovn_int (p + y.length) (by unfold charsEnd; rw [if_pos hc, len_toList]) (by omega))
  · rename_i hc _ _ _ _
    rw [e, decide_eq_false_iff_not] at hc
    exact retV hret 0 (by assumption) (by assumption) (ovn_no (by unfold charsEnd; rw [if_neg hc]))
theorem s_any_at (w : World) (x y : Str) (tx ty : Tok) (p : Nat) (ta : Tok) (h1 : x.length ≤ 1000) (h2 : y.length ≤ 1000) :
    SpecV w 70 [.str x tx, .int p ta, .str y ty] 1 (ovn (anyAt x.cps.toList p y.cps.toList)) := by
  w_top off
  unfold SpecV
  k_fill
  intro dp un gd cn cs a ccd cl outer A₀ base h₀ L m news s mean mg mb Q E B F X N T hk hd hu hret
  refine wpAny_call ?_
  k_dflt cell_enter
  k_steps
  · rename_i hl _ hc _ _ _ _
    obtain ⟨c, e1, e2⟩ := item_eq x (i := p) (by omega)
    rw [e2, in_one] at hc
    exact retV hret 0 (by assumption) (by assumption) (ovn_no (by unfold anyAt; rw [e1]; simp at hc; simp [hc]))
  · rename_i hl _ hc _ _ _ _
    obtain ⟨c, e1, e2⟩ := item_eq x (i := p) (by omega)
    rw [e2, in_one] at hc
    exact retV hret _ (by assumption) (by assumption) (ovn_int (p + 1) (by unfold anyAt; rw [e1]; simp at hc; simp [hc]) (by omega))
  · rename_i hl _ _ _ _
    exact retV hret 0 (by assumption) (by assumption) (ovn_no (by unfold anyAt; rw [List.getElem?_eq_none (by rw [len_toList]; omega)]))
theorem s_notany_at (w : World) (x y : Str) (tx ty : Tok) (p : Nat) (ta : Tok) (h1 : x.length ≤ 1000) (h2 : y.length ≤ 1000) :
    SpecV w 77 [.str x tx, .int p ta, .str y ty] 1 (ovn (notanyAt x.cps.toList p y.cps.toList)) := by
  w_top off
  unfold SpecV
  k_fill
  intro dp un gd cn cs a ccd cl outer A₀ base h₀ L m news s mean mg mb Q E B F X N T hk hd hu hret
  refine wpAny_call ?_
  k_dflt cell_enter
  k_steps
  · rename_i hl _ hc _ _ _ _
    obtain ⟨c, e1, e2⟩ := item_eq x (i := p) (by omega)
    rw [e2, in_one] at hc
    exact retV hret _ (by assumption) (by assumption) (ovn_int (p + 1) (by unfold notanyAt; rw [e1]; simp at hc; simp [hc]) (by omega))
  · rename_i hl _ hc _ _ _ _
    obtain ⟨c, e1, e2⟩ := item_eq x (i := p) (by omega)
    rw [e2, in_one] at hc
    exact retV hret 0 (by assumption) (by assumption) (ovn_no (by unfold notanyAt; rw [e1]; simp at hc; simp [hc]))
  · rename_i hl _ _ _ _
    exact retV hret 0 (by assumption) (by assumption) (ovn_no (by unfold notanyAt; rw [List.getElem?_eq_none (by rw [len_toList]; omega)]))
end Mine
namespace Mine
open PySem.Builtin PySem.Builtin.Str

def WPost {σ : Type} (h₀ : Heap) (L : Addr) (s : Shared) (fr : σ → Str → Option Value) (led : σ → List (Addr × Obj)) (I : σ → Prop) (μ : σ → Nat) (Q : Flow → Shared → Prop) (c : σ) (f : Flow) (s₂ : Shared) : Prop :=
  match f with
  | .ret v => Q (.ret v) s₂
  | .brk => Q .next s₂
  | _ => ∃ (c' : σ) (h' : Heap) (tk : Nat), s₂ = { s with heap := h', toks := tk } ∧ Fr h₀ L h' (fr c') ∧ News h₀ L h' (led c') ∧ I c' ∧ μ c' < μ c

theorem WPost.ret {σ : Type} {h₀ : Heap} {L : Addr} {s s₂ : Shared} {fr : σ → Str → Option Value} {led : σ → List (Addr × Obj)} {I : σ → Prop} {μ : σ → Nat} {Q : Flow → Shared → Prop} {c : σ} {v : Value} (h : Q (.ret v) s₂) : WPost h₀ L s fr led I μ Q c (.ret v) s₂ := h
theorem WPost.next {σ : Type} {h₀ : Heap} {L : Addr} {s : Shared} {fr : σ → Str → Option Value} {led : σ → List (Addr × Obj)} {I : σ → Prop} {μ : σ → Nat} {Q : Flow → Shared → Prop} {c : σ} {h' : Heap} {tk : Nat} {m' : Str → Option Value} {news' : List (Addr × Obj)}
    (c' : σ) (F : Fr h₀ L h' m') (N : News h₀ L h' news') (e1 : m' = fr c') (e2 : ∀ p ∈ led c', p ∈ news') (hI : I c') (hm : μ c' < μ c) : WPost h₀ L s fr led I μ Q c .next { s with heap := h', toks := tk } :=
  ⟨c', h', tk, rfl, e1 ▸ F, fun p hp => N p (e2 p hp), hI, hm⟩

theorem WPost.on {σ : Type} {h₀ : Heap} {L : Addr} {s : Shared} {fr : σ → Str → Option Value} {led : σ → List (Addr × Obj)} {I : σ → Prop} {μ : σ → Nat} {Q : Flow → Shared → Prop} {c : σ} {h' : Heap} {tk : Nat} {m' : Str → Option Value}
    (c' : σ) (F : Fr h₀ L h' m') (N : News h₀ L h' (led c')) (e1 : m' = fr c') (hI : I c') (hm : μ c' < μ c) : WPost h₀ L s fr led I μ Q c .next { s with heap := h', toks := tk } :=
  ⟨c', h', tk, rfl, e1 ▸ F, N, hI, hm⟩

section
variable {prog : Program} {w : World} {A : Around} {E : Value → Shared → Prop} {Q : Flow → Shared → Prop} {s : Shared} {env : Env} {h₀ : Heap} {L : Addr}
theorem whileM {σ : Type} {test : Expr} {body : List Stmt} {pos : Pos} {m₀ : Str → Option Value} {news : List (Addr × Obj)} (F : Fr h₀ L s.heap m₀) (N : News h₀ L s.heap news)
    (fr : (Str → Option Value) → σ → Str → Option Value) (led : σ → List (Addr × Obj)) (I : σ → Prop) (μ : σ → Nat) (c₀ : σ) (e1 : m₀ = fr m₀ c₀) (e2 : ∀ p ∈ led c₀, p ∈ news) (hI : I c₀)
    (turn : ∀ c h tk, I c → Fr h₀ L h (fr m₀ c) → News h₀ L h (led c) →
      wpAny (model prog w) A (isTrue test env (eval test env)) (fun b s₂ =>
        if b = true then wpAny (model prog w) A (execs body env) (WPost h₀ L s (fr m₀) led I μ Q c) E s₂ else Q .next s₂) E { s with heap := h, toks := tk })
    (hE : PassesOwn (model prog w) A env E := by passes_own) :
    wpAny (model prog w) A (exec (.While test body [] pos) env) Q E s := by
  refine While_inv2 (fun n m nx => ∃ c : σ, nx = led c ∧ μ c = n ∧ m = fr m₀ c ∧ I c) F (fun p hp => N p (e2 p hp)) ⟨c₀, rfl, rfl, e1, hI⟩ ?_ hE
  rintro n m₁ nx h tk F₁ N₁ ⟨c, rfl, rfl, rfl, hI'⟩
  refine wpAny_mono (turn c h tk hI' F₁ N₁) (fun b s₂ p => ?_) fun _ _ x => x
  cases b with
  | false => simpa using p
  | true =>
    simp only [if_true] at p ⊢
    refine wpAny_mono p (fun f s₃ q => ?_) fun _ _ x => x
    cases f with
    | ret v => exact q
    | brk => exact q
    | next =>
      obtain ⟨c', h', tk', rfl, F', N', hI9, hm9⟩ := q
      exact ⟨h', tk', fr m₀ c', led c', μ c', rfl, F', N', hm9, c', rfl, rfl, rfl, hI9⟩
    | cont =>
      obtain ⟨c', h', tk', rfl, F', N', hI9, hm9⟩ := q
      exact ⟨h', tk', fr m₀ c', led c', μ c', rfl, F', N', hm9, c', rfl, rfl, rfl, hI9⟩
end

theorem upd1 {x : Str} {v v' u : Value} {m : Str → Option Value} (e : v = v') : (fun y => if y = x then some v else (if y = x then some u else m y)) = fun y => if y = x then some v' else m y := by
  subst e
  funext y
  by_cases h : y = x
  · rw [if_pos h, if_pos h]
  · rw [if_neg h, if_neg h, if_neg h]
theorem upd0 {x : Str} {v : Value} {m : Str → Option Value} (e : m x = some v) : m = fun y => if y = x then some v else m y := by
  funext y
  by_cases h : y = x
  · rw [if_pos h, h, e]
  · rw [if_neg h]

set_option maxHeartbeats 4000000
theorem s_run_end (w : World) (x y : Str) (tx ty : Tok) (p : Nat) (b : Bool) (ta : Tok) (h1 : x.length ≤ 1000) (h2 : y.length ≤ 1000) (h3 : p ≤ x.length) :
    SpecV w 84 [.str x tx, .int p ta, .str y ty, .bool b] 1 (fun t => .int (runEnd x.cps.toList p y.cps.toList b : Nat) t) := by
  w_top off
  unfold SpecV
  k_fill
  intro dp un gd cn cs a ccd cl outer A₀ base h₀ L m news s mean mg mb Q E B F X N T hk hd hu hret
  refine wpAny_call ?_
  k_dflt cell_enter
  rename_i g' L' h' FG' F' N' B' X' T'
  refine wpAny_execs_cons ?_
  refine whileM F' N' (fun m₀ (c : Nat × Tok) z => if z = Str.ofString "at" then some (.int c.1 c.2) else m₀ z) (fun _ => news)
    (fun c => c.1 ≤ x.length ∧ runEnd x.cps.toList c.1 y.cps.toList b = runEnd x.cps.toList p y.cps.toList b) (fun c => x.length - c.1) (p, ta) ?_ (fun _ hp => hp) ⟨h3, rfl⟩ ?_
  · exact upd0 rfl
  · clear F' N'
    intro c h tk hI F' N'
    dsimp only at F' N' ⊢
    k_steps
    · rename ((_ == b) = true) => hc
      obtain ⟨d, e1, e2⟩ := item_eq x (i := c.1) (by omega)
      rw [e2, in_one, Bool.not_not] at hc
      refine WPost.next (c.1 + 1, ?t) (by assumption) (by assumption) (upd1 rfl) (fun _ hp => hp) ⟨?_, ?_⟩ ?_
      · show c.1 + 1 ≤ x.length
        omega
      · have e := run_here (s := y.cps.toList) (b := b) e1
        rw [if_pos hc] at e
        show runEnd x.cps.toList (c.1 + 1) y.cps.toList b = _
        rw [← e, hI.2]
      · show x.length - (c.1 + 1) < x.length - c.1
        omega
    · rename ((_ == b) = false) => hc
      obtain ⟨d, e1, e2⟩ := item_eq x (i := c.1) (by omega)
      rw [e2, in_one, Bool.not_not] at hc
      have e := run_here (s := y.cps.toList) (b := b) e1
      rw [if_neg (by rw [hc]; simp)] at e
      exact retV hret _ (by assumption) (by assumption) (by rw [← hI.2, e])
    · have e := run_stop (s := y.cps.toList) (b := b) (l := x.cps.toList) (p := c.1) (by rw [len_toList]; omega)
      exact retV hret _ (by assumption) (by assumption) (by rw [← hI.2, e])
end Mine
namespace Mine

theorem run_spec (l s : List Nat) (b : Bool) : ∀ (k p : Nat), p + k = l.length →
    (∀ i, p ≤ i → i < runEnd l p s b → ∃ c, l[i]? = some c ∧ (decide (c ∈ s) == b) = true) ∧
    (runEnd l p s b < l.length → ∃ c, l[runEnd l p s b]? = some c ∧ (decide (c ∈ s) == b) = false) := by
  intro k
  induction k with
  | zero =>
    intro p hp
    rw [run_stop (by omega)]
    exact ⟨fun i h1 h2 => by omega, fun h => by omega⟩
  | succ k ih =>
    intro p hp
    have hlt : p < l.length := by omega
    have hc : l[p]? = some l[p] := List.getElem?_eq_getElem hlt
    rw [run_here hc]
    by_cases h : (decide (l[p] ∈ s) == b) = true
    · rw [if_pos h]
      obtain ⟨h1, h2⟩ := ih (p + 1) (by omega)
      refine ⟨fun i hi hi2 => ?_, h2⟩
      by_cases e : i = p
      · subst e; exact ⟨_, hc, h⟩
      · exact h1 i (by omega) hi2
    · rw [if_neg h]
      exact ⟨fun i h1 h2 => by omega, fun _ => ⟨_, hc, by simpa using h⟩⟩

theorem hits_of {l s : List Nat} {i c : Nat} (h : l[i]? = some c) : hits l s i = decide (c ∈ s) := by unfold hits; rw [h]

theorem break_some {l s : List Nat} {p e : Nat} (hp : p ≤ l.length) (h : breakEnd l p s = some e) :
    p ≤ e ∧ e < l.length ∧ hits l s e = true ∧ ∀ i, p ≤ i → i < e → hits l s i = false := by
  unfold breakEnd at h
  split at h
  · rename_i hlt
    cases h
    obtain ⟨h1, h2⟩ := run_spec l s false (l.length - p) p (by omega)
    refine ⟨(run_le hp).1, hlt, ?_, fun i hi hi2 => ?_⟩
    · obtain ⟨c, hc, hb⟩ := h2 hlt
      rw [hits_of hc]; simpa using hb
    · obtain ⟨c, hc, hb⟩ := h1 i hi hi2
      rw [hits_of hc]; simpa using hb
  · cases h
theorem break_none {l s : List Nat} {p : Nat} (hp : p ≤ l.length) (h : breakEnd l p s = none) : ∀ i, p ≤ i → i < l.length → hits l s i = false := by
  unfold breakEnd at h
  split at h
  · cases h
  · rename_i hlt
    obtain ⟨h1, h2⟩ := run_spec l s false (l.length - p) p (by omega)
    intro i hi hi2
    obtain ⟨c, hc, hb⟩ := h1 i hi (by have := (run_le (s := s) (b := false) hp).2; omega)
    rw [hits_of hc]; simpa using hb

theorem filter_none {f : Nat → Bool} {a n : Nat} (h : ∀ i, a ≤ i → i < a + n → f i = false) : (List.range' a n).filter f = [] := by
  rw [List.filter_eq_nil_iff]
  intro i hi
  rw [List.mem_range'_1] at hi
  rw [h i hi.1 hi.2]; simp
theorem range_split {a m n : Nat} : List.range' a (m + n) = List.range' a m ++ List.range' (a + m) n := by
  rw [List.range'_append_1]

theorem breakx_step {l s : List Nat} {p q e : Nat} (hpq : p ≤ q) (hq : q ≤ l.length) (h : breakEnd l q s = some e) :
    (List.range' p (e + 1 - p)).filter (hits l s) = (List.range' p (q - p)).filter (hits l s) ++ [e] := by
  obtain ⟨h1, h2, h3, h4⟩ := break_some hq h
  have e1 : e + 1 - p = (q - p) + ((e - q) + 1) := by omega
  rw [e1, range_split, range_split, List.filter_append, List.filter_append]
  have e2 : p + (q - p) = q := by omega
  have e3 : q + (e - q) = e := by omega
  rw [e2, e3, filter_none (a := q) (n := e - q) (fun i hi hi2 => h4 i hi (by omega))]
  simp [h3]
theorem breakx_end {l s : List Nat} {p q : Nat} (hpq : p ≤ q) (hq : q ≤ l.length) (h : breakEnd l q s = none) :
    breakxEnds l p s = (List.range' p (q - p)).filter (hits l s) := by
  have h4 := break_none hq h
  unfold breakxEnds
  have e1 : l.length - p = (q - p) + (l.length - q) := by omega
  rw [e1, range_split, List.filter_append]
  have e2 : p + (q - p) = q := by omega
  rw [e2, filter_none (a := q) (n := l.length - q) (fun i hi hi2 => h4 i hi (by omega))]
  simp

theorem rangeKs_nat (p n : Nat) : rangeKs (p : Int) n = (List.range' p n).map (fun (i : Nat) => (i : Int)) := by
  unfold rangeKs
  apply List.ext_getElem
  · simp
  · intro i h1 h2
    simp
end Mine
namespace Mine
theorem str_open : PySem.Str.ofString "(" = ⟨#[40]⟩ := by decide +kernel
theorem str_close : PySem.Str.ofString ")" = ⟨#[41]⟩ := by decide +kernel
theorem one_beq (c d : Nat) : ((⟨#[c]⟩ : PySem.Str) == ⟨#[d]⟩) = decide (c = d) := by
  rw [str_beq]
  show ([c] == [d]) = _
  rw [Bool.eq_iff_iff, beq_iff_eq, decide_eq_true_eq]
  simp
theorem one_open (c : Nat) : ((⟨#[c]⟩ : PySem.Str) == PySem.Str.ofString "(") = decide (c = 40) := by rw [str_open, one_beq]
theorem one_close (c : Nat) : ((⟨#[c]⟩ : PySem.Str) == PySem.Str.ofString ")") = decide (c = 41) := by rw [str_close, one_beq]
theorem bal_here {l : List Nat} {q c : Nat} (lev : Int) (hc : l[q]? = some c) :
    balGo lev (l.drop q) q = if stepLev lev c < 0 then none else if stepLev lev c = 0 then some (q + 1) else balGo (stepLev lev c) (l.drop (q + 1)) (q + 1) := by
  obtain ⟨hq, e⟩ := List.getElem?_eq_some_iff.mp hc
  rw [List.drop_eq_getElem_cons hq, e, balGo]
theorem bal_stop {l : List Nat} {q : Nat} (lev : Int) (h : l.length ≤ q) : balGo lev (l.drop q) q = none := by
  rw [List.drop_eq_nil_of_le h, balGo]
theorem step_open (lev : Int) : stepLev lev 40 = lev + 1 := rfl
theorem step_close (lev : Int) : stepLev lev 41 = lev - 1 := rfl
theorem step_no {lev : Int} {c : Nat} (h1 : c ≠ 40) (h2 : c ≠ 41) : stepLev lev c = lev := by unfold stepLev; rw [if_neg h1, if_neg h2]
theorem balGo_le : ∀ (l : List Nat) (lev : Int) (q e : Nat), balGo lev l q = some e → q < e ∧ e ≤ q + l.length
  | [], _, _, _, h => by rw [balGo] at h; cases h
  | c :: r, lev, q, e, h => by
    rw [balGo] at h
    split at h
    · cases h
    · split at h
      · cases h; simp
      · have := balGo_le r _ _ _ h
        simp only [List.length_cons]
        omega
theorem balEnd_le {l : List Nat} {p e : Nat} (hp : p ≤ l.length) (h : balEnd l p = some e) : p < e ∧ e ≤ l.length := by
  have := balGo_le _ _ _ _ h
  rw [List.length_drop] at this
  omega
end Mine
namespace Mine
theorem balEndsGo_fuel (l : List Nat) : ∀ (k k' q : Nat), q ≤ l.length → l.length + 1 - q ≤ k → l.length + 1 - q ≤ k' → balEndsGo l k q = balEndsGo l k' q
  | 0, k', q, hq, h, _ => by omega
  | k + 1, 0, q, hq, _, h => by omega
  | k + 1, k' + 1, q, hq, h1, h2 => by
    rw [balEndsGo, balEndsGo]
    cases he : balEnd l q with
    | none => rfl
    | some e =>
      obtain ⟨a, b⟩ := balEnd_le hq he
      show e :: _ = e :: _
      rw [balEndsGo_fuel l k k' e b (by omega) (by omega)]
def balRest (l : List Nat) (o : Option Nat) : List Nat := match o with | none => [] | some e => e :: balEndsGo l (l.length + 1) e
theorem balEnds_rest {l : List Nat} {q : Nat} (hq : q ≤ l.length) : balEndsGo l (l.length + 1) q = balRest l (balEnd l q) := by
  rw [balEndsGo]
  cases he : balEnd l q with
  | none => rfl
  | some e =>
    obtain ⟨a, b⟩ := balEnd_le hq he
    show e :: _ = e :: _
    rw [balEndsGo_fuel l l.length (l.length + 1) e b (by omega) (by omega)]
theorem balEndsGo_len (l : List Nat) : ∀ (k q : Nat), (balEndsGo l k q).length ≤ k
  | 0, _ => Nat.le_refl _
  | k + 1, q => by
    rw [balEndsGo]
    cases he : balEnd l q with
    | none => simp
    | some e => simp only [List.length_cons]; have := balEndsGo_len l k e; omega
end Mine
namespace Mine
open PySem.Builtin PySem.Builtin.Str

theorem useO {w : World} {f : Addr} {vs : List Value} {D : Nat} {o : Option Nat} (S : SpecV w f vs D (ovn o))
    {dp un : Nat} {gd : Option (List Code)} {cn : Str} {cs : Scope} {a : Addr} {ccd : Value} {cl : List (Str × Addr)} {outer : List Env} {A₀ : Around} {base h₀ : Heap} {L : Addr} {m : Str → Option Value} {news : List (Addr × Obj)} {s : Shared} {mean : ExcName → Option Value} {mg mb : Str → Option Value} {Q E : Value → Shared → Prop}
    (B : Below A₀ base outer h₀ := by k_asm) (F : Fr h₀ L s.heap m := by k_asm) (X : (hd.heap_39 w.params).In h₀ := by k_asm) (N : News h₀ L s.heap news := by k_asm) (T : Top hd.view_39 (looseW hd.view_39 []) mean mg mb h₀ := by k_asm) (hk : cs.kind = .function := by first | exact rfl | assumption)
    (h1 : dp + D < recursionLimit := by ktr_room) (h2 : un + 8 * D < cLine := by ktr_units)
    (ret0 : o = none → ∀ (h' : Heap) (tk' : Nat), Fr h₀ L h' m → News h₀ L h' news → Q .none { s with heap := h', toks := tk' })
    (ret1 : ∀ e : Nat, o = some e → ∀ (t : Tok) (h' : Heap) (tk' : Nat), Fr h₀ L h' m → News h₀ L h' news → Q (.int (e : Int) t) { s with heap := h', toks := tk' }) :
    wpAny (model Challenge.rw_np0291_01.row.prog w) (ktrTop dp un gd cn cs L a ccd cl outer) (call (.ref f) vs) Q E s := by
  refine useV S B F X N T hk h1 h2 fun t h' tk' F' N' => ?_
  cases o with
  | none => exact ret0 rfl h' tk' F' N'
  | some e => exact ret1 e rfl t h' tk' F' N'

set_option maxHeartbeats 4000000
section
local macro_rules | `(tactic| walk_at "call ref") => `(tactic| (k_here; k_dflt ((refine useV (s_run_end _ _ _ _ _ _ _ _ (by omega) (by omega) (by omega)) (ret := ?_)); intro _ _ _ _ _; (try dsimp only); (try k_fold))))

theorem s_span_end (w : World) (x y : Str) (tx ty : Tok) (p : Nat) (ta : Tok) (h1 : x.length ≤ 1000) (h2 : y.length ≤ 1000) (h3 : p ≤ x.length) :
    SpecV w 91 [.str x tx, .int p ta, .str y ty] 2 (ovn (spanEnd x.cps.toList p y.cps.toList)) := by
  w_top off
  unfold SpecV
  k_fill
  intro dp un gd cn cs a ccd cl outer A₀ base h₀ L m news s mean mg mb Q E B F X N T hk hd hu hret
  refine wpAny_call ?_
  k_dflt cell_enter
  k_steps
  · exact retV hret _ (by assumption) (by assumption) (ovn_int (runEnd x.cps.toList p y.cps.toList true) (by unfold spanEnd; rw [if_pos (by omega)]) rfl)
  · exact retV hret 0 (by assumption) (by assumption) (ovn_no (by unfold spanEnd; rw [if_neg (by omega)]))
theorem s_break_end (w : World) (x y : Str) (tx ty : Tok) (p : Nat) (ta : Tok) (h1 : x.length ≤ 1000) (h2 : y.length ≤ 1000) (h3 : p ≤ x.length) :
    SpecV w 98 [.str x tx, .int p ta, .str y ty] 2 (ovn (breakEnd x.cps.toList p y.cps.toList)) := by
  have hl := len_toList x
  w_top off
  unfold SpecV
  k_fill
  intro dp un gd cn cs a ccd cl outer A₀ base h₀ L m news s mean mg mb Q E B F X N T hk hd hu hret
  refine wpAny_call ?_
  k_dflt cell_enter
  k_steps
  · exact retV hret _ (by assumption) (by assumption) (ovn_int (runEnd x.cps.toList p y.cps.toList false) (by unfold breakEnd; rw [if_pos (by omega)]) rfl)
  · exact retV hret 0 (by assumption) (by assumption) (ovn_no (by unfold breakEnd; rw [if_neg (by omega)]))
end

/-- a def that gives a new list of ints back -/
@[reducible] def SpecL (w : World) (f : Addr) (vs : List Value) (D : Nat) (ns : List Nat) : Prop :=
  ∀ (dp un : Nat) (gd : Option (List Code)) (cn : Str) (cs : Scope) (a : Addr) (ccd : Value) (cl : List (Str × Addr)) (outer : List Env) (A₀ : Around) (base h₀ : Heap) (L : Addr) (m : Str → Option Value) (news : List (Addr × Obj)) (s : Shared) (mean : ExcName → Option Value) (mg mb : Str → Option Value) (Q E : Value → Shared → Prop),
    Below A₀ base outer h₀ → Fr h₀ L s.heap m → (hd.heap_39 w.params).In h₀ → News h₀ L s.heap news → Top hd.view_39 (looseW hd.view_39 []) mean mg mb h₀ → cs.kind = .function →
    dp + D < recursionLimit → un + 8 * D < cLine →
    (∀ (l : Addr) (us : List Value) (n : Nat) (h' : Heap) (tk' : Nat), Fr h₀ L h' m → News h₀ L h' ((l, listOf us.toArray n) :: news) → (∀ p ∈ news, p.1 < l) → IntsAre us (ns.map (fun (i : Nat) => (i : Int))) → Q (.ref l) { s with heap := h', toks := tk' }) →
    wpAny (model Challenge.rw_np0291_01.row.prog w) (ktrTop dp un gd cn cs L a ccd cl outer) (call (.ref f) vs) Q E s
theorem useL {w : World} {f : Addr} {vs : List Value} {D : Nat} {ns : List Nat} (S : SpecL w f vs D ns)
    {dp un : Nat} {gd : Option (List Code)} {cn : Str} {cs : Scope} {a : Addr} {ccd : Value} {cl : List (Str × Addr)} {outer : List Env} {A₀ : Around} {base h₀ : Heap} {L : Addr} {m : Str → Option Value} {news : List (Addr × Obj)} {s : Shared} {mean : ExcName → Option Value} {mg mb : Str → Option Value} {Q E : Value → Shared → Prop}
    (B : Below A₀ base outer h₀ := by k_asm) (F : Fr h₀ L s.heap m := by k_asm) (X : (hd.heap_39 w.params).In h₀ := by k_asm) (N : News h₀ L s.heap news := by k_asm) (T : Top hd.view_39 (looseW hd.view_39 []) mean mg mb h₀ := by k_asm) (hk : cs.kind = .function := by first | exact rfl | assumption)
    (h1 : dp + D < recursionLimit := by ktr_room) (h2 : un + 8 * D < cLine := by ktr_units)
    (ret : ∀ (l : Addr) (us : List Value) (n : Nat) (h' : Heap) (tk' : Nat), Fr h₀ L h' m → News h₀ L h' ((l, listOf us.toArray n) :: news) → (∀ p ∈ news, p.1 < l) → IntsAre us (ns.map (fun (i : Nat) => (i : Int))) → Q (.ref l) { s with heap := h', toks := tk' }) :
    wpAny (model Challenge.rw_np0291_01.row.prog w) (ktrTop dp un gd cn cs L a ccd cl outer) (call (.ref f) vs) Q E s :=
  S dp un gd cn cs a ccd cl outer A₀ base h₀ L m news s mean mg mb Q E B F X N T hk h1 h2 ret

theorem upd02 {x y : Str} {v : Value} {o : Option Value} {m : Str → Option Value} (e : m x = some v) (e2 : m y = o) : m = fun z => if z = x then some v else if z = y then o else m z := by
  funext z
  by_cases h : z = x
  · rw [if_pos h, h, e]
  · rw [if_neg h]
    by_cases h2 : z = y
    · rw [if_pos h2, h2, e2]
    · rw [if_neg h2]
theorem upd2 {x y : Str} {v v' u : Value} {o o' o2 : Option Value} {m : Str → Option Value} (e : v = v') (e2 : o = o') : (fun z => if z = x then some v else if z = y then o else if z = x then some u else if z = y then o2 else m z) = fun z => if z = x then some v' else if z = y then o' else m z := by
  subst e; subst e2
  funext z
  by_cases h : z = x
  · rw [if_pos h, if_pos h]
  · rw [if_neg h, if_neg h, if_neg h]
    by_cases h2 : z = y
    · rw [if_pos h2, if_pos h2]
    · rw [if_neg h2, if_neg h2, if_neg h2]
theorem ints_le {us : List Value} {f : Nat → Bool} {a n : Nat} (h : IntsAre us (((List.range' a n).filter f).map (fun (i : Nat) => (i : Int)))) : us.length ≤ n := by
  have e := h.length
  rw [List.length_map] at e
  have e2 := List.length_filter_le f (List.range' a n)
  rw [List.length_range'] at e2
  omega

def Stop (P : Prop) : Prop := P
theorem Stop.of {P : Prop} (h : Stop P) : P := h

theorem retL {h₀ h' : Heap} {L : Addr} {m : Str → Option Value} {news news' : List (Addr × Obj)} {s : Shared} {Q : Value → Shared → Prop} {ns : List Nat} {l : Addr} {us : List Value} {n : Nat} {ks : List Int} {tk' : Nat}
    (hret : ∀ (l : Addr) (us : List Value) (n : Nat) (h' : Heap) (tk' : Nat), Fr h₀ L h' m → News h₀ L h' ((l, listOf us.toArray n) :: news) → (∀ p ∈ news, p.1 < l) → IntsAre us (ns.map (fun (i : Nat) => (i : Int))) → Q (.ref l) { s with heap := h', toks := tk' })
    (F : Fr h₀ L h' m) (N : News h₀ L h' news') (hm : ∀ p ∈ (l, listOf us.toArray n) :: news, p ∈ news') (hl : ∀ p ∈ news, p.1 < l) (hi : IntsAre us ks) (e : ks = ns.map (fun (i : Nat) => (i : Int))) : Q (.ref l) { s with heap := h', toks := tk' } := by
  subst e
  exact hret l us n h' tk' F (fun p hp => N p (hm p hp)) hl hi

theorem s_arb_ends (w : World) (x : Str) (tx : Tok) (p : Nat) (ta : Tok) (h1 : x.length ≤ 1000) (h3 : p ≤ x.length) :
    SpecL w 112 [.str x tx, .int p ta] 1 (arbEnds x.length p) := by
  w_top off
  unfold SpecL
  k_fill
  intro dp un gd cn cs a ccd cl outer A₀ base h₀ L m news s mean mg mb Q E B F X N T hk hd hu hret
  refine wpAny_call ?_
  k_dflt cell_enter
  k_steps
  refine retL hret (by assumption) (by assumption) (fun _ hp => hp) (by assumption) (by assumption) ?_
  rw [show ((x.length : Int) + 1 - (p : Int)).toNat = x.length + 1 - p by omega, rangeKs_nat]
  rfl
section
local macro_rules | `(tactic| walk_at "call ref") => `(tactic| (k_here; k_dflt ((refine useO (s_break_end _ _ _ _ _ _ _ (by omega) (by omega) (by omega)) (ret0 := ?_) (ret1 := ?_)); rotate_left; (intro _ _ _ _ _ _ _; (try dsimp only); (try k_fold)); rotate_right; (intro _ _ _ _ _; (try dsimp only); (try k_fold)))))
local macro_rules | `(tactic| walk_at "WPost") => `(tactic| refine WPost.ret ?_)
local macro_rules | `(tactic| walk_at "exec While Compare cons nil") => `(tactic| refine Stop.of ?_)
theorem s_breakx_ends (w : World) (x y : Str) (tx ty : Tok) (p : Nat) (ta : Tok) (h1 : x.length ≤ 1000) (h2 : y.length ≤ 1000) (h3 : p ≤ x.length) :
    SpecL w 105 [.str x tx, .int p ta, .str y ty] 3 (breakxEnds x.cps.toList p y.cps.toList) := by
  w_top off
  unfold SpecL
  k_fill
  intro dp un gd cn cs a ccd cl outer A₀ base h₀ L m news s mean mg mb Q E B F X N T hk hd hu hret
  refine wpAny_call ?_
  k_dflt cell_enter
  k_steps
  unfold Stop
  (try k_fold)
  rename Fr _ _ _ _ => F9
  rename News _ _ _ _ => N9
  rename (∀ p ∈ news, p.1 < _) => l9
  refine whileM F9 N9 (fun m₀ (c : Nat × Tok × Option Value × List Value × Nat) z => if z = Str.ofString "here" then some (.int c.1 c.2.1) else if z = Str.ofString "end" then c.2.2.1 else m₀ z) (fun c => (_, listOf c.2.2.2.1.toArray c.2.2.2.2) :: news)
    (fun c => p ≤ c.1 ∧ c.1 ≤ x.length ∧ IntsAre c.2.2.2.1 (((List.range' p (c.1 - p)).filter (hits x.cps.toList y.cps.toList)).map (fun (i : Nat) => (i : Int)))) (fun c => x.length - c.1) (p, ta, none, [], 0) ?_ (fun q hq => List.mem_cons_of_mem _ hq) ⟨Nat.le_refl _, h3, by rw [Nat.sub_self]; exact .nil⟩ ?_
  · exact upd02 rfl rfl
  · clear F9 N9
    rintro ⟨q, tq, ev, us, n⟩ h tk ⟨hI1, hI2, hI3⟩ F9 N9
    dsimp only at hI1 hI2 hI3 F9 N9 ⊢
    have hz : us.length ≤ 1000 := by have := ints_le hI3; omega
    k_steps
    · refine retL hret (by assumption) (by assumption) (fun _ hp => hp) l9 hI3 ?_
      rw [breakx_end hI1 (by rw [len_toList]; exact hI2) (by assumption)]
    · rename (breakEnd _ _ _ = some _) => he
      rename News _ _ _ _ => N8
      rw [List.push_toArray] at N8
      obtain ⟨b1, b2, b3, b4⟩ := break_some (by rw [len_toList]; exact hI2) he
      rw [len_toList] at b2
      rename Fr _ _ _ _ => F8
      refine' WPost.on (_, _, _, _, _) F8 N8 (upd2 rfl rfl) ?zhI ?zhm
      case zhI =>
        refine ⟨?_, ?_, ?_⟩
        · show p ≤ _ + 1
          omega
        · show _ + 1 ≤ x.length
          omega
        · show IntsAre (us ++ [_]) _
          rw [breakx_step hI1 (by rw [len_toList]; exact hI2) he, List.map_append]
          exact IntsAre.append hI3 (.cons _ _ .nil)
      case zhm =>
        show x.length - (_ + 1) < x.length - q
        omega
end
end Mine
namespace Mine
open PySem.Builtin PySem.Builtin.Str
set_option maxHeartbeats 4000000

section
local macro_rules | `(tactic| walk_at "WPost") => `(tactic| refine WPost.ret ?_)
local macro_rules | `(tactic| walk_at "exec While Compare cons nil") => `(tactic| refine Stop.of ?_)
theorem s_bal_end (w : World) (x : Str) (tx : Tok) (p : Nat) (ta : Tok) (h1 : x.length ≤ 1000) (h3 : p ≤ x.length) :
    SpecV w 119 [.str x tx, .int p ta] 1 (ovn (balEnd x.cps.toList p)) := by
  have hl := len_toList x
  w_top off
  unfold SpecV
  k_fill
  intro dp un gd cn cs a ccd cl outer A₀ base h₀ L m news s mean mg mb Q E B F X N T hk hd hu hret
  refine wpAny_call ?_
  k_dflt cell_enter
  k_steps
  unfold Stop
  (try k_fold)
  rename Fr _ _ _ _ => F9
  rename News _ _ _ _ => N9
  refine whileM F9 N9 (fun m₀ (c : Nat × Tok × Int × Tok) z => if z = Str.ofString "at" then some (.int c.1 c.2.1) else if z = Str.ofString "level" then some (.int c.2.2.1 c.2.2.2) else m₀ z) (fun c => news)
    (fun c => c.1 ≤ x.length ∧ 0 ≤ c.2.2.1 ∧ balGo c.2.2.1 (x.cps.toList.drop c.1) c.1 = balEnd x.cps.toList p) (fun c => x.length - c.1) (p, ta, 0, _) (upd02 rfl rfl) (fun q hq => hq) ⟨h3, Int.le_refl _, rfl⟩ ?_
  clear F9 N9
  rintro ⟨q, tq, lev, tl⟩ h tk ⟨hI1, hI2, hI3⟩ F9 N9
  dsimp only at hI1 hI2 hI3 F9 N9 ⊢
  by_cases hq : q < x.length
  · obtain ⟨c, e1, e2⟩ := item_eq x (i := q) hq
    have h40 : (Txt.item x (q : Int) == Str.ofString "(") = decide (c = 40) := by rw [e2, one_open]
    have h41 : (Txt.item x (q : Int) == Str.ofString ")") = decide (c = 41) := by rw [e2, one_close]
    have es := bal_here lev e1
    k_steps
    · exfalso; omega
    · rename ((_ == Str.ofString "(") = true) => hc
      rw [h40, decide_eq_true_eq] at hc
      subst hc
      rw [step_open, if_neg (by omega), if_neg (by omega)] at es
      rename Fr _ _ _ _ => F8
      rename News _ _ _ _ => N8
      refine' WPost.on (_, _, _, _) F8 N8 (upd2 rfl rfl) ?zhI ?zhm
      case zhI => exact ⟨hq, by show 0 ≤ lev + 1; omega, es.symm.trans hI3⟩
      case zhm => show x.length - (q + 1) < x.length - q; omega
    · rename ((_ == Str.ofString ")") = true) => hc
      rw [h41, decide_eq_true_eq] at hc
      subst hc
      rw [step_close, if_pos (by omega)] at es
      exact retV hret 0 (by assumption) (by assumption) (ovn_no (hI3.symm.trans es))
    · rename ((_ == Str.ofString ")") = true) => hc
      rw [h41, decide_eq_true_eq] at hc
      subst hc
      rw [step_close, if_neg (by omega), if_pos (by omega)] at es
      exact retV hret _ (by assumption) (by assumption) (ovn_int (q + 1) (hI3.symm.trans es) rfl)
    · rename ((_ == Str.ofString ")") = true) => hc
      rw [h41, decide_eq_true_eq] at hc
      subst hc
      rw [step_close, if_neg (by omega), if_neg (by omega)] at es
      rename Fr _ _ _ _ => F8
      rename News _ _ _ _ => N8
      refine' WPost.on (_, _, _, _) F8 N8 (upd2 rfl rfl) ?zhI ?zhm
      case zhI => exact ⟨hq, by show 0 ≤ lev - 1; omega, es.symm.trans hI3⟩
      case zhm => show x.length - (q + 1) < x.length - q; omega
    · rename ((_ == Str.ofString ")") = false) => hc
      rename ((_ == Str.ofString "(") = false) => hc2
      rw [h41, decide_eq_false_iff_not] at hc
      rw [h40, decide_eq_false_iff_not] at hc2
      rw [step_no hc2 hc, if_neg (by omega), if_pos (by omega)] at es
      exact retV hret _ (by assumption) (by assumption) (ovn_int (q + 1) (hI3.symm.trans es) rfl)
    · rename ((_ == Str.ofString ")") = false) => hc
      rename ((_ == Str.ofString "(") = false) => hc2
      rw [h41, decide_eq_false_iff_not] at hc
      rw [h40, decide_eq_false_iff_not] at hc2
      rw [step_no hc2 hc, if_neg (by omega), if_neg (by omega)] at es
      rename Fr _ _ _ _ => F8
      rename News _ _ _ _ => N8
      refine' WPost.on (_, _, _, _) F8 N8 (upd1 rfl) ?zhI ?zhm
      case zhI => exact ⟨hq, hI2, es.symm.trans hI3⟩
      case zhm => show x.length - (q + 1) < x.length - q; omega
  · k_steps
    exact retV hret 0 (by assumption) (by assumption) (ovn_no (hI3.symm.trans (bal_stop lev (by omega))))
end
end Mine
namespace Mine
open PySem.Builtin PySem.Builtin.Str
set_option maxHeartbeats 4000000

section
local macro_rules | `(tactic| walk_at "WPost") => `(tactic| refine WPost.ret ?_)
local macro_rules | `(tactic| walk_at "exec While Compare cons nil") => `(tactic| refine Stop.of ?_)
local macro_rules | `(tactic| walk_at "call ref") => `(tactic| (k_here; k_dflt ((refine useV (s_bal_end _ _ _ _ _ (by omega) (by omega)) (ret := ?_)); intro _ _ _ _ _; (try dsimp only); (try k_fold))))
theorem s_bal_ends (w : World) (x : Str) (tx : Tok) (p : Nat) (ta : Tok) (h1 : x.length ≤ 1000) (h3 : p ≤ x.length) :
    SpecL w 126 [.str x tx, .int p ta] 2 (balEnds x.cps.toList p) := by
  have hl := len_toList x
  w_top off
  unfold SpecL
  k_fill
  intro dp un gd cn cs a ccd cl outer A₀ base h₀ L m news s mean mg mb Q E B F X N T hk hd hu hret
  refine wpAny_call ?_
  k_dflt cell_enter
  k_steps
  unfold Stop
  (try k_fold)
  rename Fr _ _ _ _ => F9
  rename News _ _ _ _ => N9
  rename (∀ p ∈ news, p.1 < _) => l9
  refine whileM F9 N9 (fun m₀ (c : Option Nat × Tok × List Value × Nat) z => if z = Str.ofString "end" then some (ovn c.1 c.2.1) else m₀ z) (fun c => (_, listOf c.2.2.1.toArray c.2.2.2) :: news)
    (fun c => (∀ e, c.1 = some e → e ≤ x.length) ∧ ∃ pre : List Nat, IntsAre c.2.2.1 (pre.map (fun (i : Nat) => (i : Int))) ∧ pre ++ balRest x.cps.toList c.1 = balEnds x.cps.toList p) (fun c => match c.1 with | none => 0 | some e => x.length + 1 - e) (balEnd x.cps.toList p, _, [], 0) (upd0 rfl) (fun q hq => List.mem_cons_of_mem _ hq)
    ⟨fun e he => by have := balEnd_le (by rw [hl]; exact h3) he; omega, [], .nil, (balEnds_rest (by rw [hl]; exact h3)).symm⟩ ?_
  clear F9 N9
  rintro ⟨cur, tc, us, n⟩ h tk ⟨hI1, pre, hI2, hI3⟩ F9 N9
  dsimp only at hI1 hI2 hI3 F9 N9 ⊢
  have hz : us.length ≤ 1001 := by
    have e := hI2.length
    rw [List.length_map] at e
    have e2 := balEndsGo_len x.cps.toList (x.cps.toList.length + 1) p
    have e3 := congrArg List.length hI3
    rw [List.length_append] at e3
    unfold balEnds at e3
    omega
  cases cur with
  | none =>
    dsimp only [ovn] at F9
    k_steps
    · refine retL hret (by assumption) (by assumption) (fun _ hp => hp) l9 hI2 ?_
      rw [← hI3]
      show _ = (pre ++ []).map _
      rw [List.append_nil]
  | some e =>
    have he := hI1 e rfl
    dsimp only [ovn] at F9
    k_steps
    · rename News _ _ _ _ => N8
      rename Fr _ _ _ _ => F8
      rw [List.push_toArray] at N8
      refine' WPost.on (_, _, _, _) F8 N8 (upd1 rfl) ?zhI ?zhm
      case zhI =>
        refine ⟨fun e' he' => ?_, pre ++ [e], ?_, ?_⟩
        · have := balEnd_le (by rw [hl]; exact he) he'
          omega
        · show IntsAre (us ++ [_]) _
          rw [List.map_append]
          exact IntsAre.append hI2 (.cons _ _ .nil)
        · rw [← hI3, List.append_assoc]
          show pre ++ ([e] ++ balRest x.cps.toList (balEnd x.cps.toList e)) = pre ++ (e :: balEndsGo x.cps.toList (x.cps.toList.length + 1) e)
          rw [balEnds_rest (by rw [hl]; exact he)]
          rfl
      case zhm =>
        show (match balEnd x.cps.toList e with | none => 0 | some e' => x.length + 1 - e') < x.length + 1 - e
        cases hb : balEnd x.cps.toList e with
        | none => show 0 < _; omega
        | some e' =>
          have := balEnd_le (by rw [hl]; exact he) hb
          show x.length + 1 - e' < x.length + 1 - e
          omega
end
end Mine
namespace Mine
open PySem.Builtin PySem.Builtin.Str

def FPost {σ : Type} (h₀ : Heap) (L : Addr) (s : Shared) (x : Str) (fr : σ → Str → Option Value) (news own : List (Addr × Obj)) (I : σ → Prop) (Q : Flow → Shared → Prop) (f : Flow) (s₂ : Shared) : Prop :=
  match f with
  | .ret v => Q (.ret v) s₂
  | .brk => Q .next s₂
  | _ => ∃ (c' : σ) (v : Option Value) (h' : Heap) (tk : Nat), s₂ = { s with heap := h', toks := tk } ∧ Fr h₀ L h' (fun y => if y = x then v else fr c' y) ∧ News h₀ L h' (news ++ own) ∧ I c'
theorem FPost.ret {σ : Type} {h₀ : Heap} {L : Addr} {s s₂ : Shared} {x : Str} {fr : σ → Str → Option Value} {news own : List (Addr × Obj)} {I : σ → Prop} {Q : Flow → Shared → Prop} {v : Value} (h : Q (.ret v) s₂) : FPost h₀ L s x fr news own I Q (.ret v) s₂ := h
theorem FPost.on {σ : Type} {h₀ : Heap} {L : Addr} {s : Shared} {x : Str} {fr : σ → Str → Option Value} {news own news' : List (Addr × Obj)} {I : σ → Prop} {Q : Flow → Shared → Prop} {h' : Heap} {tk : Nat} {m' : Str → Option Value} (c' : σ) (v : Option Value)
    (F : Fr h₀ L h' m') (N : News h₀ L h' news') (e1 : m' = fun y => if y = x then v else fr c' y) (hn : ∀ p ∈ news ++ own, p ∈ news') (hI : I c') : FPost h₀ L s x fr news own I Q .next { s with heap := h', toks := tk } :=
  ⟨c', v, h', tk, rfl, e1 ▸ F, fun p hp => N p (hn p hp), hI⟩

section
variable {prog : Program} {w : World} {A : Around} {E : Value → Shared → Prop} {Q : Flow → Shared → Prop} {s : Shared} {env : Env} {h₀ : Heap} {x : Str} {body : List Stmt}
theorem forStr {σ : Type} {xt : Str} {tx : Tok} {m₀ : Str → Option Value} {news : List (Addr × Obj)} (hh : A.handled = none) (F : Fr h₀ env.locals s.heap m₀) (N : News h₀ env.locals s.heap news)
    (fr : (Str → Option Value) → σ → Str → Option Value) (I : Nat → σ → Prop) (c₀ : σ) (e1 : m₀ = fr m₀ c₀) (hI : I 0 c₀)
    (turn : ∀ i n t c h tk own, xt.cps.toList[i]? = some n → OwnOff own (news.map (·.1)) → I i c → Fr h₀ env.locals h (fun y => if y = x then some (.str ⟨#[n]⟩ t) else fr m₀ c y) → News h₀ env.locals h (news ++ own) →
      wpAny (model prog w) A (execs body env) (FPost h₀ env.locals { s with heap := h, toks := tk } x (fr m₀) news own (I (i + 1)) Q) E { s with heap := h, toks := tk })
    (done : ∀ c v h tk, I xt.length c → Fr h₀ env.locals h (fun y => if y = x then v else fr m₀ c y) → News h₀ env.locals h news → Q .next { s with heap := h, toks := tk }) :
    wpAny (model prog w) A (pyIter (.str xt tx)) (fun it s₂ => LoopAtV prog w A h₀ env x body Q E it s₂) E s := by
  refine wpAny_pyIter_str fun o St hW hst => ?_
  have W := hW A hh
  refine loop_invN (fun i m nx => nx = news ∧ ∃ c v, m = (fun y => if y = x then v else fr m₀ c y) ∧ I i c) W ?_ ?_ ?_ ?_ hst (F.push _) (fun p hp => ⟨Heap.get?_push_of_some _ (N p hp).1, (N p hp).2⟩) ⟨rfl, c₀, m₀ x, ?_, hI⟩ ?_ ?_
  · intro hm
    exact absurd F.ns.lt ((List.mem_singleton.mp hm) ▸ Nat.lt_irrefl _)
  · intro b' hb
    rw [List.mem_singleton.mp hb]
    exact next_is_new F
  · intro p hp hI
    exact absurd (Heap.lt_size (N p hp).1) ((List.mem_singleton.mp hI) ▸ Nat.lt_irrefl _)
  · intro p hp hI
    exact absurd (Heap.lt_size (N p hp).1) ((List.mem_singleton.mp hI) ▸ Nat.lt_irrefl _)
  · funext y
    by_cases hy : y = x
    · rw [if_pos hy, hy]
    · rw [if_neg hy]; exact congrFun e1 y
  · rintro i v m₁ nx h tk own hi ⟨n, u, hn, rfl⟩ _ hoff ⟨rfl, c, v, rfl, hI'⟩ F₁ N₁
    have hm : (fun y => if y = x then some (Value.str ⟨#[n]⟩ u) else if y = x then v else fr m₀ c y) = fun y => if y = x then some (Value.str ⟨#[n]⟩ u) else fr m₀ c y := by
      funext y
      by_cases hy : y = x
      · rw [if_pos hy, if_pos hy]
      · rw [if_neg hy, if_neg hy, if_neg hy]
    rw [hm] at F₁
    refine wpAny_mono (turn i n u c h tk own (by simpa using hn) hoff hI' F₁ N₁) (fun f s₂ p => ?_) fun _ _ e => e
    have fin : (∃ (c' : σ) (v : Option Value) (h' : Heap) (tk' : Nat), s₂ = { s with heap := h', toks := tk' } ∧ Fr h₀ env.locals h' (fun y => if y = x then v else fr m₀ c' y) ∧ News h₀ env.locals h' (nx ++ own) ∧ I (i + 1) c') →
        InvEndN h₀ env.locals (fun m nx' => nx' = nx ∧ ∃ c v, m = (fun y => if y = x then v else fr m₀ c y) ∧ I (i + 1) c) own (nx.map (·.1)) { s with heap := h, toks := tk } s₂ := by
      rintro ⟨c', v, h', tk', rfl, F', N', hI9⟩
      exact ⟨h', tk', _, _, nx, rfl, F', N', fun p hp => List.mem_append_left _ hp, fun p hp => List.mem_append_right _ hp, rfl, rfl, c', v, rfl, hI9⟩
    cases f with
    | ret v => exact p
    | brk => exact p
    | next => exact fin p
    | cont => exact fin p
  · rintro m₁ nx h tk ⟨rfl, c, v, rfl, hI'⟩ F₁ N₁
    exact done c v h tk hI' F₁ N₁
end

end Mine
namespace Mine
open PySem.Builtin PySem.Builtin.Str
theorem updF {x l : Str} {v v' : Value} {vs u : Option Value} {m : Str → Option Value} (hx : l ≠ x) (e : v = v') :
    (fun z => if z = l then some v else if z = x then vs else if z = l then u else m z) = fun z => if z = x then vs else if z = l then some v' else m z := by
  subst e
  funext z
  by_cases h : z = l
  · rw [if_pos h, if_pos h, if_neg (fun h2 => hx (h ▸ h2))]
  · rw [if_neg h, if_neg h, if_neg h]
theorem newsL {h₀ h : Heap} {L : Addr} {news own : List (Addr × Obj)} (N : News h₀ L h (news ++ own)) : News h₀ L h news := fun p hp => N p (List.mem_append_left _ hp)
theorem isBal_here {l : List Nat} {i n : Nat} (lev : Int) (hn : l[i]? = some n) : isBalGo lev (l.drop i) = if stepLev lev n < 0 then false else isBalGo (stepLev lev n) (l.drop (i + 1)) := by
  obtain ⟨hq, e⟩ := List.getElem?_eq_some_iff.mp hn
  rw [List.drop_eq_getElem_cons hq, e, isBalGo]
set_option maxHeartbeats 4000000
section
local macro_rules | `(tactic| walk_at "zz") => `(tactic| fail "zz")
local macro_rules | `(tactic| walk_at "FPost") => `(tactic| refine FPost.ret ?_)
local macro_rules | `(tactic| walk_at "pyIter str") => `(tactic| refine Stop.of ?_)
local macro_rules | `(tactic| walk_at "exec For Name Name cons nil") => `(tactic| refine Stop.of ?_)
theorem s_is_balanced (w : World) (x : Str) (tx : Tok) (h1 : x.length ≤ 1000) :
    SpecV w 133 [.str x tx] 1 (fun _ => .bool (isBalGo 0 x.cps.toList)) := by
  have hl := len_toList x
  w_top off
  unfold SpecV
  k_fill
  intro dp un gd cn cs a ccd cl outer A₀ base h₀ L m news s mean mg mb Q E B F X N T hk hd hu hret
  refine wpAny_call ?_
  k_dflt cell_enter
  k_steps
  unfold Stop
  (try k_fold)
  rename Fr _ _ _ _ => F9
  rename News _ _ _ _ => N9
  refine For_invVF F9 (by rfl) (by rfl) ?_
  k_steps
  unfold Stop
  refine forStr rfl F9 N9 (fun m₀ (c : Int × Tok) z => if z = Str.ofString "level" then some (.int c.1 c.2) else m₀ z) (fun i c => 0 ≤ c.1 ∧ isBalGo c.1 (x.cps.toList.drop i) = isBalGo 0 x.cps.toList) (0, _) (upd0 rfl) ⟨Int.le_refl _, rfl⟩ ?_ ?_
  · clear F9 N9
    rintro i n t ⟨lev, tl⟩ h tk own hn hoff ⟨hI1, hI2⟩ F9 N9
    dsimp only at hI1 hI2 F9 N9 ⊢
    (try k_fold)
    have es := isBal_here lev hn
    have h40 := one_open n
    have h41 := one_close n
    k_steps
    · rename ((_ == Str.ofString "(") = true) => hc
      rw [h40, decide_eq_true_eq] at hc
      subst hc
      rw [step_open, if_neg (by omega)] at es
      rename Fr _ _ _ _ => F8
      rename News _ _ _ _ => N8
      refine' FPost.on (_, _) _ F8 N8 (updF (by decide) rfl) (fun _ hp => hp) ?zhI
      case zhI => exact ⟨by show 0 ≤ lev + 1; omega, es.symm.trans hI2⟩
    · rename ((_ == Str.ofString ")") = true) => hc
      rw [h41, decide_eq_true_eq] at hc
      subst hc
      rw [step_close, if_pos (by omega)] at es
      exact retV hret 0 (by assumption) (newsL (own := own) (by assumption)) (by rw [← hI2, es])
    · rename ((_ == Str.ofString ")") = true) => hc
      rw [h41, decide_eq_true_eq] at hc
      subst hc
      rw [step_close, if_neg (by omega)] at es
      rename Fr _ _ _ _ => F8
      rename News _ _ _ _ => N8
      refine' FPost.on (_, _) _ F8 N8 (updF (by decide) rfl) (fun _ hp => hp) ?zhI
      case zhI => exact ⟨by show 0 ≤ lev - 1; omega, es.symm.trans hI2⟩
    · rename ((_ == Str.ofString ")") = false) => hc
      rename ((_ == Str.ofString "(") = false) => hc2
      rw [h41, decide_eq_false_iff_not] at hc
      rw [h40, decide_eq_false_iff_not] at hc2
      rw [step_no hc2 hc, if_neg (by omega)] at es
      rename Fr _ _ _ _ => F8
      rename News _ _ _ _ => N8
      refine' FPost.on (lev, tl) _ F8 N8 rfl (fun _ hp => hp) ?zhI
      case zhI => exact ⟨hI1, es.symm.trans hI2⟩
  · clear F9 N9
    rintro ⟨lev, tl⟩ v h tk ⟨hI1, hI2⟩ F9 N9
    dsimp only at hI1 hI2 F9 N9 ⊢
    k_steps
    refine retV hret 0 (by assumption) (by assumption) ?_
    rw [← hI2, List.drop_eq_nil_of_le (by omega)]
    rfl
end
end Mine
namespace Mine
open PySem.Builtin PySem.Builtin.Str
set_option maxHeartbeats 4000000
theorem ite_t {b : Bool} {P Q : Prop} (h : b = true) (p : P) : if b = true then P else Q := by rw [if_pos h]; exact p
theorem ite_f {b : Bool} {P Q : Prop} (h : b = false) (p : Q) : if b = true then P else Q := by rw [h]; exact p
section
local macro_rules | `(tactic| walk_at "ite") => `(tactic| (k_closed; first | refine ite_t (by decide +kernel) ?_ | refine ite_f (by decide +kernel) ?_))
local macro_rules | `(tactic| walk_at "call ref") => `(tactic| (k_here; k_dflt ((rename (∀ _, ∀ _, ∀ _, SpecV _ _ _ _ _) => hS9); (refine useV (hS9 _ _ _) (ret := ?_)); intro _ _ _ _ _; (try dsimp only); (try k_fold))))
local macro_rules | `(tactic| walk_at "call ref") => `(tactic| (k_here; k_dflt ((rename (∀ _, ∀ _, SpecV _ 35 _ _ _) => hS8); (refine useV (hS8 _ _) (ret := ?_)); intro _ _ _ _ _; (try dsimp only); (try k_fold))))
theorem s_one_len (w : World) (x : Str) (tx tk : Tok) (p q : Nat) (ta tm : Tok) (h1 : x.length ≤ 1000) (h3 : p ≤ x.length) :
    SpecV w 140 [.str (Str.ofString "len") tk, .str x tx, .int p ta, .int q tm] 2 (ovn (lenEnd x.length p q)) := by
  have S : ∀ (tx : Tok) (ta : Tok) (tm : Tok), SpecV w 28 [.str x tx, .int p ta, .int q tm] 1 (ovn (lenEnd x.length p q)) := fun tx ta tm => s_len_end w x tx p q ta tm h1
  w_top off
  unfold SpecV
  k_fill
  intro dp un gd cn cs a ccd cl outer A₀ base h₀ L m news s mean mg mb Q E B F X N T hk hd hu hret
  refine wpAny_call ?_
  k_dflt cell_enter
  k_steps
  exact retV hret _ (by assumption) (by assumption) rfl
theorem s_one_pos (w : World) (x : Str) (tx tk : Tok) (p q : Nat) (ta tm : Tok) (h1 : x.length ≤ 1000) (h3 : p ≤ x.length) :
    SpecV w 140 [.str (Str.ofString "pos") tk, .str x tx, .int p ta, .int q tm] 2 (ovn (posEnd p q)) := by
  have S : ∀ (ta : Tok) (tm : Tok), SpecV w 35 [.int p ta, .int q tm] 1 (ovn (posEnd p q)) := fun ta tm => s_pos_end w p q ta tm
  w_top off
  unfold SpecV
  k_fill
  intro dp un gd cn cs a ccd cl outer A₀ base h₀ L m news s mean mg mb Q E B F X N T hk hd hu hret
  refine wpAny_call ?_
  k_dflt cell_enter
  k_steps
  exact retV hret _ (by assumption) (by assumption) rfl
theorem s_one_rpos (w : World) (x : Str) (tx tk : Tok) (p q : Nat) (ta tm : Tok) (h1 : x.length ≤ 1000) (h3 : p ≤ x.length) :
    SpecV w 140 [.str (Str.ofString "rpos") tk, .str x tx, .int p ta, .int q tm] 2 (ovn (rposEnd x.length p q)) := by
  have S : ∀ (tx : Tok) (ta : Tok) (tm : Tok), SpecV w 42 [.str x tx, .int p ta, .int q tm] 1 (ovn (rposEnd x.length p q)) := fun tx ta tm => s_rpos_end w x tx p q ta tm h1 h3
  w_top off
  unfold SpecV
  k_fill
  intro dp un gd cn cs a ccd cl outer A₀ base h₀ L m news s mean mg mb Q E B F X N T hk hd hu hret
  refine wpAny_call ?_
  k_dflt cell_enter
  k_steps
  exact retV hret _ (by assumption) (by assumption) rfl
theorem s_one_tab (w : World) (x : Str) (tx tk : Tok) (p q : Nat) (ta tm : Tok) (h1 : x.length ≤ 1000) (h3 : p ≤ x.length) :
    SpecV w 140 [.str (Str.ofString "tab") tk, .str x tx, .int p ta, .int q tm] 2 (ovn (tabEnd x.length p q)) := by
  have S : ∀ (tx : Tok) (ta : Tok) (tm : Tok), SpecV w 49 [.str x tx, .int p ta, .int q tm] 1 (ovn (tabEnd x.length p q)) := fun tx ta tm => s_tab_end w x tx p q ta tm h1
  w_top off
  unfold SpecV
  k_fill
  intro dp un gd cn cs a ccd cl outer A₀ base h₀ L m news s mean mg mb Q E B F X N T hk hd hu hret
  refine wpAny_call ?_
  k_dflt cell_enter
  k_steps
  exact retV hret _ (by assumption) (by assumption) rfl
theorem s_one_rtab (w : World) (x : Str) (tx tk : Tok) (p q : Nat) (ta tm : Tok) (h1 : x.length ≤ 1000) (h3 : p ≤ x.length) :
    SpecV w 140 [.str (Str.ofString "rtab") tk, .str x tx, .int p ta, .int q tm] 2 (ovn (rtabEnd x.length p q)) := by
  have S : ∀ (tx : Tok) (ta : Tok) (tm : Tok), SpecV w 56 [.str x tx, .int p ta, .int q tm] 1 (ovn (rtabEnd x.length p q)) := fun tx ta tm => s_rtab_end w x tx p q ta tm h1
  w_top off
  unfold SpecV
  k_fill
  intro dp un gd cn cs a ccd cl outer A₀ base h₀ L m news s mean mg mb Q E B F X N T hk hd hu hret
  refine wpAny_call ?_
  k_dflt cell_enter
  k_steps
  exact retV hret _ (by assumption) (by assumption) rfl
theorem s_one_any (w : World) (x y : Str) (tx ty tk : Tok) (p : Nat) (ta : Tok) (h1 : x.length ≤ 1000) (h2 : y.length ≤ 1000) (h3 : p ≤ x.length) :
    SpecV w 140 [.str (Str.ofString "any") tk, .str x tx, .int p ta, .str y ty] 2 (ovn (anyAt x.cps.toList p y.cps.toList)) := by
  have S : ∀ (tx : Tok) (ta : Tok) (ty : Tok), SpecV w 70 [.str x tx, .int p ta, .str y ty] 1 (ovn (anyAt x.cps.toList p y.cps.toList)) := fun tx ta ty => s_any_at w x y tx ty p ta h1 h2
  w_top off
  unfold SpecV
  k_fill
  intro dp un gd cn cs a ccd cl outer A₀ base h₀ L m news s mean mg mb Q E B F X N T hk hd hu hret
  refine wpAny_call ?_
  k_dflt cell_enter
  k_steps
  exact retV hret _ (by assumption) (by assumption) rfl
theorem s_one_notany (w : World) (x y : Str) (tx ty tk : Tok) (p : Nat) (ta : Tok) (h1 : x.length ≤ 1000) (h2 : y.length ≤ 1000) (h3 : p ≤ x.length) :
    SpecV w 140 [.str (Str.ofString "notany") tk, .str x tx, .int p ta, .str y ty] 2 (ovn (notanyAt x.cps.toList p y.cps.toList)) := by
  have S : ∀ (tx : Tok) (ta : Tok) (ty : Tok), SpecV w 77 [.str x tx, .int p ta, .str y ty] 1 (ovn (notanyAt x.cps.toList p y.cps.toList)) := fun tx ta ty => s_notany_at w x y tx ty p ta h1 h2
  w_top off
  unfold SpecV
  k_fill
  intro dp un gd cn cs a ccd cl outer A₀ base h₀ L m news s mean mg mb Q E B F X N T hk hd hu hret
  refine wpAny_call ?_
  k_dflt cell_enter
  k_steps
  exact retV hret _ (by assumption) (by assumption) rfl
theorem s_one_span (w : World) (x y : Str) (tx ty tk : Tok) (p : Nat) (ta : Tok) (h1 : x.length ≤ 1000) (h2 : y.length ≤ 1000) (h3 : p ≤ x.length) :
    SpecV w 140 [.str (Str.ofString "span") tk, .str x tx, .int p ta, .str y ty] 3 (ovn (spanEnd x.cps.toList p y.cps.toList)) := by
  have S : ∀ (tx : Tok) (ta : Tok) (ty : Tok), SpecV w 91 [.str x tx, .int p ta, .str y ty] 2 (ovn (spanEnd x.cps.toList p y.cps.toList)) := fun tx ta ty => s_span_end w x y tx ty p ta h1 h2 h3
  w_top off
  unfold SpecV
  k_fill
  intro dp un gd cn cs a ccd cl outer A₀ base h₀ L m news s mean mg mb Q E B F X N T hk hd hu hret
  refine wpAny_call ?_
  k_dflt cell_enter
  k_steps
  exact retV hret _ (by assumption) (by assumption) rfl
theorem s_one_break (w : World) (x y : Str) (tx ty tk : Tok) (p : Nat) (ta : Tok) (h1 : x.length ≤ 1000) (h2 : y.length ≤ 1000) (h3 : p ≤ x.length) :
    SpecV w 140 [.str (Str.ofString "break") tk, .str x tx, .int p ta, .str y ty] 3 (ovn (breakEnd x.cps.toList p y.cps.toList)) := by
  have S : ∀ (tx : Tok) (ta : Tok) (ty : Tok), SpecV w 98 [.str x tx, .int p ta, .str y ty] 2 (ovn (breakEnd x.cps.toList p y.cps.toList)) := fun tx ta ty => s_break_end w x y tx ty p ta h1 h2 h3
  w_top off
  unfold SpecV
  k_fill
  intro dp un gd cn cs a ccd cl outer A₀ base h₀ L m news s mean mg mb Q E B F X N T hk hd hu hret
  refine wpAny_call ?_
  k_dflt cell_enter
  k_steps
  exact retV hret _ (by assumption) (by assumption) rfl
end
end Mine
namespace Mine
open PySem.Builtin PySem.Builtin.Str
set_option maxHeartbeats 4000000
theorem ints_one (e : Nat) (t : Tok) : IntsAre [Value.int (e : Int) t] ([e].map (fun (i : Nat) => (i : Int))) := .cons _ _ .nil
section
local macro_rules | `(tactic| walk_at "zz") => `(tactic| fail "zz")
local macro_rules | `(tactic| walk_at "ite") => `(tactic| (k_closed; first | refine ite_t (by decide +kernel) ?_ | refine ite_f (by decide +kernel) ?_))
local macro_rules | `(tactic| walk_at "ite") => `(tactic| (k_here; first | refine ite_t (by with_reducible assumption) ?_ | refine ite_f (by with_reducible assumption) ?_))
local macro_rules | `(tactic| walk_at "call ref") => `(tactic| (k_here; k_dflt ((rename (∀ _, ∀ _, ∀ _, SpecV _ _ _ _ _) => hS9); (refine useO (hS9 _ _ _) (ret0 := ?_) (ret1 := ?_)); rotate_left; (intro _ _ _ _ _ _ _; (try dsimp only); (try k_fold)); rotate_right; (intro _ _ _ _ _; (try dsimp only); (try k_fold)))))
theorem s_ends_one (w : World) (x K : Str) (tx tk : Tok) (gv : Value) (p : Nat) (ta : Tok) (o : Option Nat) (n1 : (K == Str.ofString "arb") = false) (n2 : (K == Str.ofString "bal") = false) (n3 : (K == Str.ofString "rem") = false)
    (S : ∀ tk tx ta, SpecV w 140 [.str K tk, .str x tx, .int p ta, gv] 3 (ovn o)) :
    SpecL w 154 [.str K tk, .str x tx, .int p ta, gv] 4 o.toList := by
  w_top off
  unfold SpecL
  k_fill
  intro dp un gd cn cs a ccd cl outer A₀ base h₀ L m news s mean mg mb Q E B F X N T hk hd hu hret
  refine wpAny_call ?_
  k_dflt cell_enter
  k_steps
  · rename (o = none) => he
    refine retL (us := []) hret (by assumption) (by assumption) (fun _ hp => hp) (by assumption) .nil ?_
    rw [he]; rfl
  · rename (o = some _) => he
    refine retL (us := [_]) hret (by assumption) (by assumption) (fun _ hp => hp) (by assumption) (ints_one _ _) ?_
    rw [he]; rfl
end
section
local macro_rules | `(tactic| walk_at "ite") => `(tactic| (k_closed; first | refine ite_t (by decide +kernel) ?_ | refine ite_f (by decide +kernel) ?_))
local macro_rules | `(tactic| walk_at "call ref") => `(tactic| (k_here; k_dflt ((refine useL (s_arb_ends _ _ _ _ _ (by omega) (by omega)) (ret := ?_)); intro _ _ _ _ _ _ _ _ _; (try dsimp only); (try k_fold))))
theorem s_ends_arb (w : World) (x : Str) (tx tk : Tok) (v : Value) (p : Nat) (ta : Tok) (h1 : x.length ≤ 1000) (h3 : p ≤ x.length) :
    SpecL w 154 [.str (Str.ofString "arb") tk, .str x tx, .int p ta, v] 2 (arbEnds x.length p) := by
  w_top off
  unfold SpecL
  k_fill
  intro dp un gd cn cs a ccd cl outer A₀ base h₀ L m news s mean mg mb Q E B F X N T hk hd hu hret
  refine wpAny_call ?_
  k_dflt cell_enter
  k_steps
  exact retL hret (by assumption) (by assumption) (fun _ hp => hp) (by assumption) (by assumption) rfl
end
section
local macro_rules | `(tactic| walk_at "zz") => `(tactic| fail "zz")
local macro_rules | `(tactic| walk_at "ite") => `(tactic| (k_closed; first | refine ite_t (by decide +kernel) ?_ | refine ite_f (by decide +kernel) ?_))
local macro_rules | `(tactic| walk_at "call ref") => `(tactic| (k_here; k_dflt ((refine useL (s_bal_ends _ _ _ _ _ (by omega) (by omega)) (ret := ?_)); intro _ _ _ _ _ _ _ _ _; (try dsimp only); (try k_fold))))
theorem s_ends_bal (w : World) (x : Str) (tx tk : Tok) (v : Value) (p : Nat) (ta : Tok) (h1 : x.length ≤ 1000) (h3 : p ≤ x.length) :
    SpecL w 154 [.str (Str.ofString "bal") tk, .str x tx, .int p ta, v] 3 (balEnds x.cps.toList p) := by
  w_top off
  unfold SpecL
  k_fill
  intro dp un gd cn cs a ccd cl outer A₀ base h₀ L m news s mean mg mb Q E B F X N T hk hd hu hret
  refine wpAny_call ?_
  k_dflt cell_enter
  k_steps
  exact retL hret (by assumption) (by assumption) (fun _ hp => hp) (by assumption) (by assumption) rfl
end
section
local macro_rules | `(tactic| walk_at "ite") => `(tactic| (k_closed; first | refine ite_t (by decide +kernel) ?_ | refine ite_f (by decide +kernel) ?_))
local macro_rules | `(tactic| walk_at "call ref") => `(tactic| (k_here; k_dflt ((refine useV (s_rem_end _ _ _ (by omega)) (ret := ?_)); intro _ _ _ _ _; (try dsimp only); (try k_fold))))
theorem s_ends_rem (w : World) (x : Str) (tx tk : Tok) (v : Value) (p : Nat) (ta : Tok) (h1 : x.length ≤ 1000) (h3 : p ≤ x.length) :
    SpecL w 154 [.str (Str.ofString "rem") tk, .str x tx, .int p ta, v] 2 [x.length] := by
  w_top off
  unfold SpecL
  k_fill
  intro dp un gd cn cs a ccd cl outer A₀ base h₀ L m news s mean mg mb Q E B F X N T hk hd hu hret
  refine wpAny_call ?_
  k_dflt cell_enter
  k_steps
  exact retL (us := [_]) hret (by assumption) (by assumption) (fun _ hp => hp) (by assumption) (ints_one _ _) rfl
end
end Mine
namespace Mine
open PySem.Builtin PySem.Builtin.Str

section
variable {prog : Program} {w : World} {A : Around} {E : Value → Shared → Prop} {Q : Flow → Shared → Prop} {s : Shared} {env : Env} {h₀ : Heap} {x : Str} {px : Pos} {body : List Stmt}
theorem turnsRange {σ : Type} {r : Addr} {a b : Int} {t₀ u₀ v₀ : Tok} {n : Nat} {m₀ : Str → Option Value} {news : List (Addr × Obj)} (hh : A.handled = none) (hr : IsRange s.heap r a b 1 t₀ u₀ v₀) (hsmall : Builtin.Range.small a b 1 = true) (hn : Builtin.Range.rangeSize a b 1 = (n : Int))
    (F : Fr h₀ env.locals s.heap m₀) (N : News h₀ env.locals s.heap news)
    (hx : env.kindOf x = some .local) (hp : (env.scope.kind == .class || (env.scope.kind == .module && env.locals != env.globals)) = false)
    (fr : (Str → Option Value) → σ → Str → Option Value) (I : Nat → σ → Prop) (c₀ : σ) (e1 : m₀ = fr m₀ c₀) (hI : I 0 c₀)
    (turn : ∀ (i : Nat) t c h tk own, i < n → 0 < tk → I i c → Fr h₀ env.locals h (fun y => if y = x then some (.int (a + (i : Int)) t) else fr m₀ c y) → News h₀ env.locals h (news ++ own) →
      wpAny (model prog w) A (execs body env) (FPost h₀ env.locals { s with heap := h, toks := tk } x (fr m₀) news own (I (i + 1)) Q) E { s with heap := h, toks := tk })
    (done : ∀ c v h tk, I n c → Fr h₀ env.locals h (fun y => if y = x then v else fr m₀ c y) → News h₀ env.locals h news → Q .next { s with heap := h, toks := tk }) :
    wpAny (model prog w) A (pyIter (.ref r)) (fun it s₂ => TurnsAt prog w A h₀ env (.Name x px) body Q E it s₂) E s := by
  refine wpAny_pyIter_range hr hsmall ?_
  have W : Walks prog w A s.heap.objs.size [s.heap.objs.size] [s.heap.objs.size] n (fun i v => i < n ∧ ∃ t, v = .int (a + i * 1) t)
      (fun i h => IsRangeIter h s.heap.objs.size (a + (i : Nat) * 1) ((n : Int) - (i : Nat)) 1) := (Walks.range hh _ a 1 n).bound
  refine ⟨_, _, _, n, _, _, _, m₀, news, (fun i m nx => nx = news ∧ ∃ c v, m = (fun y => if y = x then v else fr m₀ c y) ∧ I i c), rfl, KTurns.ofWalks W (fun i v s' Q' E' _ q => ?_), ?_, ?_, ?_, (by show IsRangeIter _ _ _ _ _; rw [hn]; simpa using Heap.get?_push_size _ rfl), F.push _, (fun p hp => ⟨Heap.get?_push_of_some _ (N p hp).1, (N p hp).2⟩), ⟨rfl, c₀, m₀ x, ?_, hI⟩, ?_, ?_⟩
  · exact wpAny_pure q
  · intro hm
    exact absurd F.ns.lt ((List.mem_singleton.mp hm) ▸ Nat.lt_irrefl _)
  · intro b' hb
    rw [List.mem_singleton.mp hb]
    exact next_is_new F
  · intro p hp hI
    exact absurd (Heap.lt_size (N p hp).1) ((List.mem_singleton.mp hI) ▸ Nat.lt_irrefl _)
  · funext y
    by_cases hy : y = x
    · rw [if_pos hy, hy]
    · rw [if_neg hy]; exact congrFun e1 y
  · rintro i v m₁ nx h₁ tk₁ own hi ⟨_, u, rfl⟩ ⟨rfl, c, v, rfl, hI'⟩ hoff hown _ _ _ F₁ N₁
    refine wpAny_assign_Name (wpAny_storeName_local hx F₁.ns (fun h₂ hn₂ hs₂ => ?_) hp)
    have F₂ : Fr h₀ env.locals h₂ (fun y => if y = x then some (Value.int (a + (i : Int)) u) else fr m₀ c y) := by
      have F₃ := F₁.set hn₂ hs₂
      have hm : (fun y => if y = x then some (Value.int (a + (i : Int) * 1) u) else if y = x then v else fr m₀ c y) = fun y => if y = x then some (Value.int (a + (i : Int)) u) else fr m₀ c y := by
        funext y
        rw [Int.mul_one]
        by_cases hy : y = x
        · rw [if_pos hy, if_pos hy]
        · rw [if_neg hy, if_neg hy, if_neg hy]
      rw [hm] at F₃
      exact F₃
    have N₂ : News h₀ env.locals h₂ (nx ++ own) := fun p hp => (N₁.set hs₂) p ((List.mem_append.mp hp).elim (fun h => List.mem_append.mpr (.inr h)) fun h => List.mem_append.mpr (.inl h))
    refine wpAny_mono (turn i u c h₂ (tk₁ + 1) own hi (Nat.succ_pos _) hI' F₂ N₂) (fun f s₂ p => ?_) fun _ _ e => e
    have fin : (∃ (c' : σ) (v : Option Value) (h' : Heap) (tk' : Nat), s₂ = { s with heap := h', toks := tk' } ∧ Fr h₀ env.locals h' (fun y => if y = x then v else fr m₀ c' y) ∧ News h₀ env.locals h' (nx ++ own) ∧ I (i + 1) c') →
        LoopStepU h₀ env.locals [s.heap.objs.size] own (fun m nx' => nx' = nx ∧ ∃ c v, m = (fun y => if y = x then v else fr m₀ c y) ∧ I (i + 1) c) { s with heap := h₁, toks := tk₁ } .next s₂ := by
      rintro ⟨c', v, h', tk', rfl, F', N', hI9⟩
      exact ⟨rfl, h', tk', _, nx, rfl, F', fun p hp => N' p ((List.mem_append.mp hp).elim (fun h => List.mem_append.mpr (.inr h)) fun h => List.mem_append.mpr (.inl h)), hoff, rfl, c', v, rfl, hI9⟩
    cases f with
    | ret v => exact .ret p
    | brk => exact .brk p
    | next => exact .next (fin p)
    | cont => exact .cont (fin p)
  · rintro h' tk m₁ nx F₁ N₁ _ ⟨rfl, c, v, rfl, hI'⟩
    exact done c v h' tk hI' F₁ N₁
end
end Mine
namespace Mine
open PySem.Builtin PySem.Builtin.Str

def cutAll (l : List Nat) : Nat → List Nat → List Nat
  | a, [] => l.drop a
  | a, c :: r => (l.drop a).take (c - a) ++ cutAll l (c + 2) r

theorem isBal_pair : ∀ (p q : List Nat) (lev : Int), 0 ≤ lev → isBalGo lev (p ++ 40 :: 41 :: q) = isBalGo lev (p ++ q)
  | [], q, lev, h => by
    show isBalGo lev (40 :: 41 :: q) = isBalGo lev q
    rw [isBalGo, step_open, if_neg (by omega), isBalGo, step_close, if_neg (by omega)]
    congr 1; omega
  | c :: p, q, lev, h => by
    show isBalGo lev (c :: (p ++ 40 :: 41 :: q)) = isBalGo lev (c :: (p ++ q))
    rw [isBalGo, isBalGo]
    split
    · rfl
    · exact isBal_pair p q _ (by omega)
theorem isBal_app : ∀ (p q q' : List Nat) (lev : Int), 0 ≤ lev → (∀ k : Int, 0 ≤ k → isBalGo k q = isBalGo k q') → isBalGo lev (p ++ q) = isBalGo lev (p ++ q')
  | [], q, q', lev, h, e => e lev h
  | c :: p, q, q', lev, h, e => by
    show isBalGo lev (c :: (p ++ q)) = isBalGo lev (c :: (p ++ q'))
    rw [isBalGo, isBalGo]
    split
    · rfl
    · exact isBal_app p q q' _ (by omega) e
theorem isBal_filter : ∀ (l : List Nat) (lev : Int), 0 ≤ lev → isBalGo lev (l.filter (fun c => decide (c = 40 ∨ c = 41))) = isBalGo lev l
  | [], _, _ => rfl
  | c :: l, lev, h => by
    by_cases hc : c = 40 ∨ c = 41
    · rw [List.filter_cons_of_pos (by simpa using hc), isBalGo, isBalGo]
      split
      · rfl
      · exact isBal_filter l _ (by omega)
    · rw [List.filter_cons_of_neg (by simpa using hc)]
      rw [isBalGo, step_no (fun e => hc (.inl e)) (fun e => hc (.inr e)), if_neg (by omega)]
      exact isBal_filter l lev h
theorem isBal_has : ∀ (r : List Nat) (lev : Int), 0 ≤ lev → (∀ c ∈ r, c = 40 ∨ c = 41) → isBalGo lev (40 :: r) = true → ∃ i, (40 :: r)[i]? = some 40 ∧ (40 :: r)[i + 1]? = some 41
  | [], lev, h, _, hb => by
    rw [isBalGo, step_open, if_neg (by omega), isBalGo] at hb
    simp at hb; omega
  | c :: r, lev, h, hc, hb => by
    rcases hc c List.mem_cons_self with rfl | rfl
    · rw [isBalGo, step_open, if_neg (by omega)] at hb
      obtain ⟨i, h1, h2⟩ := isBal_has r (lev + 1) (by omega) (fun d hd => hc d (List.mem_cons_of_mem _ hd)) hb
      exact ⟨i + 1, h1, h2⟩
    · exact ⟨0, rfl, rfl⟩
theorem isBal_has' {l : List Nat} (hc : ∀ c ∈ l, c = 40 ∨ c = 41) (hb : isBalGo 0 l = true) (hn : l ≠ []) : ∃ i, l[i]? = some 40 ∧ l[i + 1]? = some 41 := by
  cases l with
  | nil => exact absurd rfl hn
  | cons c r =>
    rcases hc c List.mem_cons_self with rfl | rfl
    · exact isBal_has r 0 (Int.le_refl _) (fun d hd => hc d (List.mem_cons_of_mem _ hd)) hb
    · rw [isBalGo, step_close, if_pos (by omega)] at hb
      cases hb

/-- what is struck stands two by two, one behind the other -/
def Cuts (l : List Nat) : Nat → List Nat → Prop
  | a, [] => a ≤ l.length
  | a, c :: r => a ≤ c ∧ c + 2 ≤ l.length ∧ (l.drop c).take 2 = [40, 41] ∧ Cuts l (c + 2) r
theorem drop_two {l : List Nat} {c : Nat} (h : (l.drop c).take 2 = [40, 41]) : l.drop c = 40 :: 41 :: l.drop (c + 2) := by
  have e := List.take_append_drop 2 (l.drop c)
  rw [h, List.drop_drop] at e
  exact e.symm
theorem drop_cut {l : List Nat} {a c : Nat} (h : a ≤ c) (h2 : (l.drop c).take 2 = [40, 41]) : l.drop a = (l.drop a).take (c - a) ++ 40 :: 41 :: l.drop (c + 2) := by
  have e := List.take_append_drop (c - a) (l.drop a)
  rw [List.drop_drop, show a + (c - a) = c by omega, drop_two h2] at e
  exact e.symm
theorem cut_bal {l : List Nat} : ∀ (cuts : List Nat) (a : Nat), Cuts l a cuts → ∀ lev : Int, 0 ≤ lev → isBalGo lev (cutAll l a cuts) = isBalGo lev (l.drop a)
  | [], _, _, _, _ => rfl
  | c :: r, a, ⟨h1, h2, h3, h4⟩, lev, h => by
    rw [drop_cut h1 h3, isBal_pair _ _ _ h]
    exact isBal_app _ _ _ _ h fun k hk => cut_bal r (c + 2) h4 k hk
theorem cut_len {l : List Nat} : ∀ (cuts : List Nat) (a : Nat), Cuts l a cuts → (cutAll l a cuts).length + 2 * cuts.length = l.length - a
  | [], a, _ => by show (l.drop a).length + 0 = _; rw [List.length_drop]; rfl
  | c :: r, a, ⟨h1, h2, h3, h4⟩ => by
    have ih := cut_len r (c + 2) h4
    show ((l.drop a).take (c - a) ++ cutAll l (c + 2) r).length + 2 * (r.length + 1) = _
    rw [List.length_append, List.length_take, List.length_drop]
    omega
theorem cut_mem {l : List Nat} : ∀ (cuts : List Nat) (a : Nat) (x : Nat), x ∈ cutAll l a cuts → x ∈ l
  | [], _, _, h => List.mem_of_mem_drop h
  | c :: r, a, x, h => by
    rcases List.mem_append.mp h with h | h
    · exact List.mem_of_mem_drop (List.mem_of_mem_take h)
    · exact cut_mem r _ x h
end Mine
namespace Mine
open PySem.Builtin PySem.Builtin.Str

theorem str_pair : Str.ofString "()" = ⟨#[40, 41]⟩ := by decide +kernel
theorem str_none : Str.ofString "" = ⟨#[]⟩ := by decide +kernel

theorem join_flat : ∀ parts : List Str, (Str.join ⟨#[]⟩ parts).cps.toList = parts.flatMap fun p => p.cps.toList
  | [] => rfl
  | [p] => by show p.cps.toList = p.cps.toList ++ []; rw [List.append_nil]
  | p :: q :: r => by
    have ih := join_flat (q :: r)
    show (p ++ ⟨#[]⟩ ++ Str.join ⟨#[]⟩ (q :: r)).cps.toList = p.cps.toList ++ (q :: r).flatMap _
    rw [PySem.Str.cps_append, PySem.Str.cps_append, Array.toList_append, Array.toList_append, ih]
    simp
theorem parts_flat (x : Str) : ∀ (cuts : List Nat) (a : Nat), ((StrLaws.partsFrom x 2 a cuts).flatMap fun p => p.cps.toList) = cutAll x.cps.toList a cuts
  | [], a => by
    show (strSub x a x.length).cps.toList ++ [] = x.cps.toList.drop a
    rw [List.append_nil, StrLaws.strSub_toList, List.take_of_length_le (by rw [List.length_drop, len_toList]; omega)]
  | c :: r, a => by
    show (strSub x a c).cps.toList ++ ((StrLaws.partsFrom x 2 (c + 2) r).flatMap fun p => p.cps.toList) = (x.cps.toList.drop a).take (c - a) ++ cutAll x.cps.toList (c + 2) r
    rw [parts_flat x r (c + 2), StrLaws.strSub_toList]
theorem chain_cuts {x : Str} : ∀ (cuts : List Nat) (a f : Nat), a ≤ x.length → StrLaws.ChainTo x ⟨#[40, 41]⟩ x.length a cuts f → Cuts x.cps.toList a cuts
  | [], a, f, ha, _ => by show a ≤ _; rw [len_toList]; exact ha
  | c :: r, a, f, ha, ⟨h1, h2, h3⟩ => by
    obtain ⟨h4, h5⟩ := h2
    have h4' : c + 2 ≤ x.length := h4
    rw [StrLaws.subAt_eq] at h5
    exact ⟨h1, by rw [len_toList]; exact h4', eq_of_beq h5, chain_cuts r (c + 2) f h4' h3⟩

theorem replace_cut (x : Str) : ∃ cuts, Cuts x.cps.toList 0 cuts ∧ (Txt.replace x (Str.ofString "()") (Str.ofString "")).cps.toList = cutAll x.cps.toList 0 cuts ∧
    ((∃ i, x.cps.toList[i]? = some 40 ∧ x.cps.toList[i + 1]? = some 41) → cuts ≠ []) := by
  rw [str_pair, str_none]
  obtain ⟨f, hch⟩ := StrLaws.occ_chain x ⟨#[40, 41]⟩ (x.length + 1)
  have hcuts := chain_cuts _ 0 f (Nat.zero_le _) hch
  refine ⟨occurrences x ⟨#[40, 41]⟩ 0 x.length (x.length + 1), hcuts, ?_, ?_⟩
  · unfold Txt.replace
    cases he : (occurrences x ⟨#[40, 41]⟩ 0 x.length (x.length + 1)).isEmpty with
    | true =>
      rw [Bool.true_or, if_pos rfl, List.isEmpty_iff.mp he]
      rfl
    | false =>
      rw [Bool.false_or, if_neg (by decide), StrLaws.glued_eq_join, join_flat, StrLaws.partsBetween_eq]
      exact parts_flat x _ 0
  · rintro ⟨i, h1, h2⟩ he
    have hlt := at_lt h2
    rw [len_toList] at hlt
    have hat : StrLaws.At x ⟨#[40, 41]⟩ x.length i := by
      refine ⟨by show i + 2 ≤ _; omega, ?_⟩
      rw [StrLaws.subAt_eq]
      obtain ⟨a1, a2⟩ := List.getElem?_eq_some_iff.mp h1
      obtain ⟨b1, b2⟩ := List.getElem?_eq_some_iff.mp h2
      show ((x.cps.toList.drop i).take 2 == [40, 41]) = true
      rw [List.drop_eq_getElem_cons a1, List.drop_eq_getElem_cons b1, a2, b2]
      rfl
    rcases StrLaws.occ_head x ⟨#[40, 41]⟩ (x.length + 1) (by omega) with ⟨_, h⟩ | ⟨j, r, e, _⟩
    · exact h i hat
    · rw [e] at he; cases he

theorem strike_ok (x r : Str) (hr : r = Txt.replace x (Str.ofString "()") (Str.ofString "")) :
    (∀ lev : Int, 0 ≤ lev → isBalGo lev r.cps.toList = isBalGo lev x.cps.toList) ∧ r.length ≤ x.length ∧
    ((∀ c ∈ x.cps.toList, c = 40 ∨ c = 41) → isBalGo 0 x.cps.toList = true → x.length ≠ 0 → r.length + 2 ≤ x.length) ∧ ∀ c ∈ r.cps.toList, c ∈ x.cps.toList := by
  subst hr
  obtain ⟨cuts, h1, h2, h3⟩ := replace_cut x
  have hl := cut_len cuts 0 h1
  rw [← h2, len_toList, len_toList] at hl
  refine ⟨fun lev h => ?_, by omega, fun hc hb hn => ?_, fun c hc => ?_⟩
  · rw [h2, cut_bal cuts 0 h1 lev h, List.drop_zero]
  · have hne : x.cps.toList ≠ [] := fun e => hn (by rw [← len_toList, e]; rfl)
    have := h3 (isBal_has' hc hb hne)
    cases cuts with
    | nil => exact absurd rfl this
    | cons a b => simp only [List.length_cons] at hl; omega
  · rw [h2] at hc
    exact cut_mem cuts 0 c hc

/-- what holds of the text between the turns -/
def EvInv (x : Str) (i : Nat) (pl : Str) : Prop :=
  (∀ c ∈ pl.cps.toList, c = 40 ∨ c = 41) ∧ isBalGo 0 pl.cps.toList = isBalGo 0 x.cps.toList ∧ pl.length ≤ x.length ∧ (isBalGo 0 x.cps.toList = true → pl.length ≤ x.length - i)
theorem evInv_next {x pl : Str} {i : Nat} (h : EvInv x i pl) : EvInv x (i + 1) (Txt.replace pl (Str.ofString "()") (Str.ofString "")) := by
  obtain ⟨h1, h2, h3, h4⟩ := h
  obtain ⟨a, b, c, d⟩ := strike_ok pl _ rfl
  refine ⟨fun e he => h1 e (d e he), (a 0 (Int.le_refl _)).trans h2, by omega, fun hb => ?_⟩
  have := h4 hb
  by_cases hz : pl.length = 0
  · omega
  · have := c h1 (h2.trans hb) hz
    omega
theorem evInv_end {x pl : Str} (h : EvInv x x.length pl) : (pl == Str.ofString "") = isBalGo 0 x.cps.toList := by
  obtain ⟨h1, h2, h3, h4⟩ := h
  rw [str_beq, str_none, Bool.eq_iff_iff]
  constructor
  · intro h
    have e : pl.cps.toList = [] := eq_of_beq h
    rw [← h2, e]; rfl
  · intro hb
    have := h4 hb
    have e : pl.cps.toList = [] := by
      apply List.eq_nil_of_length_eq_zero
      rw [len_toList]; omega
    rw [e]; rfl

theorem in_pair (c : Nat) : (!(occurrences (Str.ofString "()") ⟨#[c]⟩ 0 (Str.ofString "()").length 1).isEmpty) = decide (c = 40 ∨ c = 41) := by
  rw [StrLaws.found_one, str_pair, decide_eq_decide]
  show c ∈ [40, 41] ↔ _
  simp
theorem join_signs (l : List Nat) : (Txt.join (Str.ofString "") (l.map fun n => (⟨#[n]⟩ : Str))).cps.toList = l := by
  rw [str_none]
  show (glued ⟨#[]⟩ _).cps.toList = l
  rw [StrLaws.glued_eq_join, join_flat]
  induction l with
  | nil => rfl
  | cons a r ih => rw [List.map_cons, List.flatMap_cons, ih]; rfl
theorem evInv_start (x : Str) : EvInv x 0 (Txt.join (Str.ofString "") (List.filter (fun a => !(occurrences (Str.ofString "()") a 0 (Str.ofString "()").length 1).isEmpty) (signs x))) := by
  have e : List.filter (fun a => !(occurrences (Str.ofString "()") a 0 (Str.ofString "()").length 1).isEmpty) (signs x) = (x.cps.toList.filter fun c => decide (c = 40 ∨ c = 41)).map fun n => (⟨#[n]⟩ : Str) := by
    unfold signs
    rw [List.filter_map]
    congr 1
    apply List.filter_congr
    intro c _
    exact in_pair c
  rw [e]
  generalize hp : Txt.join (Str.ofString "") _ = pl
  have hpl : pl.cps.toList = x.cps.toList.filter fun c => decide (c = 40 ∨ c = 41) := by rw [← hp, join_signs]
  have hlen : pl.length ≤ x.length := by
    have := List.length_filter_le (fun c => decide (c = 40 ∨ c = 41)) x.cps.toList
    rw [← hpl, len_toList, len_toList] at this
    exact this
  refine ⟨fun c hc => ?_, ?_, hlen, fun _ => hlen⟩
  · rw [hpl, List.mem_filter] at hc
    simpa using hc.2
  · rw [hpl, isBal_filter _ _ (Int.le_refl _)]
end Mine
namespace Mine
open PySem.Builtin PySem.Builtin.Str
set_option maxHeartbeats 4000000
section
local macro_rules | `(tactic| walk_at "FPost") => `(tactic| refine FPost.ret ?_)
local macro_rules | `(tactic| walk_at "call builtin:str.join") => `(tactic| refine Stop.of ?_)
local macro_rules | `(tactic| walk_at "pyIter ref") => `(tactic| refine Stop.of ?_)
local macro_rules | `(tactic| walk_at "call builtin:str.replace") => `(tactic| refine Stop.of ?_)
local macro_rules | `(tactic| walk_at "exec For Name Call cons nil") => `(tactic| refine Stop.of ?_)
theorem s_evens (w : World) (x : Str) (tx : Tok) (h1 : x.length ≤ 1000) :
    SpecV w 192 [.str x tx] 1 (fun _ => .bool (isBalGo 0 x.cps.toList)) := by
  have hl := len_toList x
  w_top off
  unfold SpecV
  k_fill
  intro dp un gd cn cs a ccd cl outer A₀ base h₀ L m news s mean mg mb Q E B F X N T hk hd hu hret
  refine wpAny_call ?_
  k_dflt cell_enter
  k_steps
  unfold Stop
  rename CarriedAll _ _ => hC
  rename Heap.IsList _ _ _ => hL
  have hle := List.length_filter_le (fun a => !(occurrences (Str.ofString "()") a 0 (Str.ofString "()").length 1).isEmpty) (signs x)
  have hsl : (signs x).length = x.length := by unfold signs; rw [List.length_map, len_toList]
  refine KT.join_1 (g := fun a => a) hL hC (fun a ha => len_of_sign (List.mem_filter.mp ha).1) (by omega) ?_
  intro t' k hlen
  rw [List.map_id'] at hlen ⊢
  k_steps
  unfold Stop
  (try k_fold)
  rename Fr _ _ _ _ => F9
  rename News _ _ _ _ => N9
  refine For_turns F9 ?_
  k_steps
  unfold Stop
  rename Fr _ _ _ _ => F9
  rename News _ _ _ _ => N9
  rename IsRange _ _ _ _ _ _ _ _ => R9
  refine turnsRange (n := x.length) rfl R9 (small_one (by omega) (by omega) (by omega) (by omega)) (by rw [rangeSize_nat]; simp) F9 N9 (by rfl) (by rfl) (fun m₀ (c : Str × Tok) z => if z = Str.ofString "plain" then some (.str c.1 c.2) else m₀ z) (fun i c => EvInv x i c.1) (_, _) (upd0 rfl) (evInv_start x) ?_ ?_
  · clear F9 N9
    rintro i t ⟨pl, tp⟩ h tk own hi htk hI F9 N9
    dsimp only at hI F9 N9 ⊢
    have hI3 := hI.2.2.1
    (try k_fold)
    k_steps
    unfold Stop
    refine SC.replaceW (by show @Ne Nat _ _; omega) (by show @Ne Nat _ _; omega) (by show @Ne Nat _ _; omega) (by decide) (by omega) (by decide) ?_
    intro t9 k9
    k_steps
    rename Fr _ _ _ _ => F8
    rename News _ _ _ _ => N8
    refine' FPost.on (_, _) _ F8 N8 (updF (by decide) rfl) (fun _ hp => hp) (evInv_next hI)
  · clear F9 N9
    rintro ⟨pl, tp⟩ v h tk hI F9 N9
    dsimp only at hI F9 N9 ⊢
    k_steps
    exact retV hret 0 (by assumption) (by assumption) (by rw [evInv_end hI])
end
end Mine
namespace Mine
open PySem.Spec PySem.Calls

section
variable {prog : Program} {w : World} {A : Around} {E : Value → Shared → Prop} {s : Shared} {h₀ : Heap} {L : Addr} {m : Str → Option Value} {env : Env}

/-- behind an item of a comprehension: all stands as it stood -/
def CBack (h₀ : Heap) (L : Addr) (m : Str → Option Value) (s : Shared) (led : List (Addr × Obj)) (P : Prop) (s' : Shared) : Prop := P ∧ ∃ h' tk', s' = { s with heap := h', toks := tk' } ∧ Fr h₀ L h' m ∧ News h₀ L h' led
theorem CBack.intro {h₀ h' : Heap} {L : Addr} {m : Str → Option Value} {s : Shared} {led led' : List (Addr × Obj)} {P : Prop} {tk' : Nat} (p : P) (F : Fr h₀ L h' m) (N : News h₀ L h' led') (hs : ∀ q ∈ led, q ∈ led') : CBack h₀ L m s led P { s with heap := h', toks := tk' } :=
  ⟨p, h', tk', rfl, F, fun q hq => N q (hs q hq)⟩

theorem restT {ct elt : Expr} {x : Str} {scope : Scope} {cl : List (Str × Addr)} {S : List (Addr × Obj) → Prop} {P : Nat → Value → Prop} {Fin : List Value → List (Addr × Obj) → Prop} {n : Nat} {news : List (Addr × Obj)} (hS : S news)
    (pz : Nat → Bool) (R : Nat → Value → Prop) (G : Nat → List Value → Prop) (g0 : G 0 []) (gy : ∀ i ys y, G i ys → pz i = true → R i y → G (i + 1) (ys ++ [y])) (gn : ∀ i ys, G i ys → pz i = false → G (i + 1) ys)
    (turn : ∀ i v I oI C oC D m₂ ys h tk (E' : Value → Shared → Prop), i < n → P i v → LCg.NsObj oC m₂ → m₂ x = some v → Fr h₀ L h m → News h₀ L h ((I, oI) :: (C, oC) :: (D, LCg.lst ys) :: news) → LCg.Off3 I C D news → ((@Ne Nat I C) ∧ (@Ne Nat I D) ∧ (@Ne Nat C D)) →
      wpAny (model prog w) A (isTrue ct (compEnvC scope cl C env) (eval ct (compEnvC scope cl C env))) (fun ok s' => if ok = true then
        wpAny (model prog w) A (eval elt (compEnvC scope cl C env)) (fun y s'' => CBack h₀ L m { s with heap := h, toks := tk } ((I, oI) :: (C, oC) :: (D, LCg.lst ys) :: news) (pz i = true ∧ R i y) s'') E' s'
        else CBack h₀ L m { s with heap := h, toks := tk } ((I, oI) :: (C, oC) :: (D, LCg.lst ys) :: news) (pz i = false) s') E' { s with heap := h, toks := tk })
    (fin : ∀ ys, G n ys → Fin ys news) : LCt.CompRestT prog w A h₀ L m env ct elt x scope cl s S P Fin n 0 [] news := by
  have key : ∀ (j i : Nat) (ys : List Value), i + j = n → G i ys → LCt.CompRestT prog w A h₀ L m env ct elt x scope cl s S P Fin j i ys news := by
    intro j
    induction j with
    | zero =>
      intro i ys hi hg
      have e : i = n := by omega
      subst e
      exact LCt.CompRestT.zero (fin ys hg)
    | succ j ih =>
      intro i ys hi hg
      refine LCt.CompRestT.succ ?_
      intro v I oI C oC D m₂ h tk E' hv hC hx F N off ne
      refine wpAny_mono (turn i v I oI C oC D m₂ ys h tk E' (by omega) hv hC hx F N off ne) (fun ok s' q => ?_) fun _ _ e => e
      cases ok with
      | true =>
        simp only [if_true] at q ⊢
        refine wpAny_mono q (fun y s'' q' => ?_) fun _ _ e => e
        obtain ⟨⟨h1, h2⟩, h', tk', e, F', N'⟩ := q'
        exact ⟨h', tk', news, e, F', N', off, hS, ih (i + 1) _ (by omega) (gy i ys y hg h1 h2)⟩
      | false =>
        simp only [Bool.false_eq_true, if_false] at q ⊢
        obtain ⟨h1, h', tk', e, F', N'⟩ := q
        exact ⟨h', tk', news, e, F', N', off, hS, ih (i + 1) _ (by omega) (gn i ys hg h1)⟩
  exact key n 0 [] (by omega) g0

theorem strIter_st {I : Addr} {knd : String} {xt : Str} {tx : Tok} : ∀ i (h h' : Heap) (o : Obj) (nw : List (Addr × Obj)), h.IsStrIter I knd xt tx i → h.get? I = some o → h'.get? I = some o → (∀ b o, h₀.get? b = some o → h'.get? b = some o) → News h₀ L h' nw → True → h'.IsStrIter I knd xt tx i :=
  fun i h h' o nw st e e' _ _ _ => by
    obtain ⟨o', q, r⟩ := st
    rw [e] at q; cases q
    exact ⟨o, e', r⟩

def SrcS (prog : Program) (w : World) (A : Around) (h₀ : Heap) (L : Addr) (m : Str → Option Value) (env : Env) (ct elt : Expr) (x : Str) (scope : Scope) (cl : List (Str × Addr)) (Fin : Shared → List Value → List (Addr × Obj) → Prop) (xv : Value) (s₁ : Shared) : Prop :=
  ∃ xt tx news, xv = .str xt tx ∧ A.handled = none ∧ Fr h₀ L s₁.heap m ∧ News h₀ L s₁.heap news ∧ xt.cps.size ≤ sizeLine ∧
    ∀ s₂ : Shared, (∃ h, s₂ = { s₁ with heap := h }) → LCt.CompRestT prog w A h₀ L m env ct elt x scope cl s₂ (fun _ => True) (SignAt xt) (Fin s₂) xt.cps.size 0 [] news
theorem SrcS.intro {ct elt : Expr} {x : Str} {scope : Scope} {cl : List (Str × Addr)} {Fin : Shared → List Value → List (Addr × Obj) → Prop} {xt : Str} {tx : Tok} {s₁ : Shared} {news : List (Addr × Obj)} (hh : A.handled = none) (F : Fr h₀ L s₁.heap m) (N : News h₀ L s₁.heap news) (hz : xt.cps.size ≤ sizeLine)
    (r : ∀ h, LCt.CompRestT prog w A h₀ L m env ct elt x scope cl { s₁ with heap := h } (fun _ => True) (SignAt xt) (Fin { s₁ with heap := h }) xt.cps.size 0 [] news) : SrcS prog w A h₀ L m env ct elt x scope cl Fin (.str xt tx) s₁ :=
  ⟨xt, tx, news, rfl, hh, F, N, hz, fun _ ⟨g, e⟩ => e ▸ r g⟩

theorem assignCompS {ct elt iter : Expr} {x y : Str} {px py : Pos} {scope : Scope} {cl : List (Str × Addr)} {pos spos : Pos} {Q : Flow → Shared → Prop} (F₀ : Fr h₀ L s.heap m) (hLe : env.locals = L)
    (hsw : swapsWith (.ListComp elt [⟨.Name x px, iter, [ct], 0⟩] scope pos) (some (.Name y py)) spos.line env = pure true)
    (hclos : closureFor scope env = pure cl) (hcell : ∀ z ∈ scope.names, z.2 ≠ .cell) (hkind : scope.kind = .function)
    (hnames : ∀ z ∈ scope.names, z.2 = .local → scope.names.lookup z.1 = some .local) (hx : scope.names.lookup x = some .local)
    (hy : env.kindOf y = some .local) (hp : (env.scope.kind == .class || (env.scope.kind == .module && env.locals != env.globals)) = false)
    (h : wpAny (model prog w) A (eval iter env) (SrcS prog w A h₀ L m env ct elt x scope cl (fun s₂ => LCg.FinA h₀ L m s₂ y Q)) E s)
    (hs : ∀ x, foldedSetIterable iter env x = pure x := by intro _; rfl) :
    wpAny (model prog w) A (exec (.Assign [.Name y py] (.ListComp elt [⟨.Name x px, iter, [ct], 0⟩] scope pos) spos) env) Q E s := by
  subst hLe
  rw [exec_Assign_Name_used _ _ _ _ hsw]
  refine wpAny_bind (wpAny_standAt (wpAny_bind ?_))
  show wpAny _ A (do let _ ← comprehension (.ListComp elt [⟨.Name x px, iter, [ct], 0⟩] scope pos) scope env _ (newList []) false (eval iter env) (some (assign (.Name y py) env))) _ _ s
  refine wpAny_bind (wpAny_mono (wpAny_comprehension_free (use := some (assign (.Name y py) env)) (Q := fun _ s' => Q .next s') rfl hs hclos hkind hnames
    (wpAny_mono h (fun xv s₁ h₁ => ?_) fun _ _ e => e)) (fun _ s' hq => wpAny_pure (wpAny_pure hq)) fun _ _ e => e)
  obtain ⟨xt, tx, news, rfl, hh, F, N, hsz, R⟩ := h₁
  have last : ∀ (o : Obj) (D C : Addr) h' tk m' (ys : List Value) news', Fr h₀ env.locals h' m → News h₀ env.locals h' ((D, LCg.lst ys) :: news') → LCg.Off1 D news' → h'.Ns C m' → h₀.get? C = none → C ≠ env.locals → C ≠ D → (∀ p ∈ news', p.1 ≠ C) →
      LCg.FinA h₀ env.locals m { s₁ with heap := s₁.heap.push o } y Q ys news' →
      wpAny (model prog w) A (assign (.Name y py) env (.ref D)) (fun _ s' => ∃ m', s'.heap.Ns C m' ∧ ∀ h'', Heap.SameBut C s'.heap h'' → Q .next { s' with heap := h'' }) E { { s₁ with heap := s₁.heap.push o } with heap := h', toks := tk } := by
    intro o D C h' tk m' ys news' F' N' o1 hn hC₀ hCL hCD offC fin
    refine wpAny_assign_Name (wpAny_storeName_local hy F'.ns (fun h₂ hn₂ hs₂ => ?_) hp)
    refine ⟨m', hn.sameBut hs₂ hCL, fun h'' hs'' => fin D h'' _ ((F'.set hn₂ hs₂).change hs'' hCL hC₀) (fun p hp => ?_) o1⟩
    have z := (N'.set hs₂) p hp
    refine ⟨hs''.extBut _ _ ?_ z.1, z.2⟩
    rcases List.mem_cons.mp hp with rfl | hp
    · exact Ne.symm hCD
    · exact offC p hp
  have walk : ∀ (o : Obj) (knd : String), (∀ A' : Around, A'.handled = none → Walks prog w A' s₁.heap.objs.size [s₁.heap.objs.size] [s₁.heap.objs.size] xt.cps.size (SignAt xt) (fun i h => h.IsStrIter s₁.heap.objs.size knd xt tx i)) → (s₁.heap.push o).IsStrIter s₁.heap.objs.size knd xt tx 0 →
      wpAny (model prog w) A (newList []) (fun acc s₃ => wpAny (model prog w) A (newFunctionEnv scope env.globals cl [] env.qual none .none (some env)) (fun cenv s₄ =>
        codeAny (model prog w) A (.compStart (.ListComp elt [⟨.Name x px, iter, [ct], 0⟩] scope pos) 0 (.ref s₁.heap.objs.size) acc { cenv with scope := relabel scope env }) (compPost (model prog w) A E (some (assign (.Name y py) env)) (fun _ s' => Q .next s') acc cenv.locals) s₄) E s₃) E { s₁ with heap := s₁.heap.push o } := by
    intro o knd W hst
    refine LCt.block_T (W A hh) hsz (fun i h st => by obtain ⟨o, e, _⟩ := st; exact ⟨o, e⟩) strIter_st hcell hkind hx hst (fun b hb => ?_) (F.keeps fun _ _ e => Heap.get?_push_of_some _ e) (N.grown fun _ _ e => Heap.get?_push_of_some _ e)
      (Nat.ne_of_lt F.ns.lt) (next_is_new F) (fun p hp => Nat.ne_of_lt (Heap.lt_size (N p hp).1)) trivial (R _ ⟨_, rfl⟩) ?_
    · rw [List.mem_singleton.mp hb]
      show s₁.heap.objs.size < (s₁.heap.push _).objs.size
      rw [Heap.size_push]; exact Nat.lt_succ_self _
    · intro D C h' tk m' ys news' F' N' o1 hn hC₀ hD₀ hCL hDL hCD offC fin
      exact last o D C h' tk m' ys news' F' N' o1 hn hC₀ hCL hCD offC fin
  cases ha : xt.cps.all (· < 128)
  · exact wpAny_pyIter_wide ha (walk _ _ (fun A' hA => Walks.strWide hA _ xt tx) ⟨_, Heap.get?_push_size _ rfl, rfl, rfl⟩)
  · exact wpAny_pyIter_ascii ha (walk _ _ (fun A' hA => Walks.strAscii hA _ xt tx) ⟨_, Heap.get?_push_size _ rfl, rfl, rfl⟩)
end
end Mine
namespace Mine
/-! ### what the law asks of an end, kind by kind -/
def seg (l : List Nat) (p e : Nat) : List Nat := (l.drop p).take (e - p)
def ins (y T : List Nat) : List Nat := T.filter fun c => decide (c ∈ y)
def isLen (p e q : Nat) : Bool := decide (e - p = q)
def isAny (l : List Nat) (p e : Nat) (y : List Nat) : Bool := decide (e - p = 1) && decide (ins y (seg l p e) ≠ [])
def isNot (l : List Nat) (p e : Nat) (y : List Nat) : Bool := decide (e - p = 1) && decide (ins y (seg l p e) = [])
def isPos (p e q : Nat) : Bool := decide (e = p) && decide (q = p)
def isRpos (n p e q : Nat) : Bool := decide (e = p) && decide (p + q = n)
def isTab (e q : Nat) : Bool := decide (e = q)
def isRtab (n e q : Nat) : Bool := decide (e + q = n)
def isSpan (l : List Nat) (p e : Nat) (y : List Nat) : Bool := decide (p < e) && decide ((ins y (seg l p e)).length = e - p) && !(hits l y e)
def isBreak (l : List Nat) (p e : Nat) (y : List Nat) : Bool := decide (ins y (seg l p e) = []) && hits l y e
def isBal (l : List Nat) (p e : Nat) : Bool := decide (p < e) && isBalGo 0 (seg l p e)
def isRem (n e : Nat) : Bool := decide (e = n)
end Mine
namespace Mine
/-! ### the ends of a part are the places that the law's test lets by -/
theorem filter_opt {f : Nat → Bool} {a n : Nat} {o : Option Nat} (h : ∀ e, a ≤ e → e < a + n → (f e = true ↔ o = some e)) (ho : ∀ e, o = some e → a ≤ e ∧ e < a + n) : (List.range' a n).filter f = o.toList := by
  cases o with
  | none =>
    refine filter_none fun i h1 h2 => ?_
    cases hf : f i with
    | false => rfl
    | true => exact absurd ((h i h1 h2).mp hf) (by simp)
  | some e =>
    obtain ⟨h1, h2⟩ := ho e rfl
    have e1 : n = (e - a) + (1 + (a + n - (e + 1))) := by omega
    have off : ∀ i, a ≤ i → i < a + n → i ≠ e → f i = false := fun i h3 h4 h5 => by
      cases hf : f i with
      | false => rfl
      | true => exact absurd (Option.some.inj ((h i h3 h4).mp hf)).symm h5
    rw [e1, range_split, range_split, List.filter_append, List.filter_append, filter_none (a := a) (fun i h3 h4 => off i h3 (by omega) (by omega)), filter_none (a := a + (e - a) + 1) (fun i h3 h4 => off i (by omega) (by omega) (by omega))]
    have e2 : a + (e - a) = e := by omega
    rw [e2]
    have e3 : f e = true := (h e h1 h2).mpr rfl
    show [] ++ (List.filter f [e] ++ []) = [e]
    simp [e3]

theorem seg_len {l : List Nat} {p e : Nat} (h : e ≤ l.length) : (seg l p e).length = e - p := by
  unfold seg
  rw [List.length_take, List.length_drop]
  omega
theorem seg_at {l : List Nat} {p e i : Nat} (h2 : i < e - p) : (seg l p e)[i]? = l[p + i]? := by
  unfold seg
  rw [List.getElem?_take, if_pos h2, List.getElem?_drop]
theorem seg_mem {l : List Nat} {p e c : Nat} (h : e ≤ l.length) : c ∈ seg l p e ↔ ∃ i, p ≤ i ∧ i < e ∧ l[i]? = some c := by
  rw [List.mem_iff_getElem?]
  constructor
  · rintro ⟨i, hi⟩
    have := at_lt hi
    rw [seg_len h] at this
    rw [seg_at this] at hi
    exact ⟨p + i, Nat.le_add_right _ _, by omega, hi⟩
  · rintro ⟨i, h1, h2, h3⟩
    refine ⟨i - p, ?_⟩
    rw [seg_at (by omega), show p + (i - p) = i by omega]
    exact h3
theorem hits_true {l y : List Nat} {i : Nat} : hits l y i = true ↔ ∃ c, l[i]? = some c ∧ c ∈ y := by
  unfold hits
  cases l[i]? with
  | none => simp
  | some c => simp
theorem ins_nil {l y : List Nat} {p e : Nat} (h : e ≤ l.length) : ins y (seg l p e) = [] ↔ ∀ i, p ≤ i → i < e → hits l y i = false := by
  unfold ins
  rw [List.filter_eq_nil_iff]
  constructor
  · intro g i h1 h2
    cases hf : hits l y i with
    | false => rfl
    | true =>
      obtain ⟨c, hc, hy⟩ := hits_true.mp hf
      exact absurd (decide_eq_true hy) (g c ((seg_mem h).mpr ⟨i, h1, h2, hc⟩))
  · intro g c hc hy
    obtain ⟨i, h1, h2, h3⟩ := (seg_mem h).mp hc
    have := g i h1 h2
    rw [hits_of h3] at this
    rw [this] at hy; cases hy
theorem ins_all {l y : List Nat} {p e : Nat} (h : e ≤ l.length) : (ins y (seg l p e)).length = e - p ↔ ∀ i, p ≤ i → i < e → hits l y i = true := by
  unfold ins
  rw [← seg_len (p := p) h, List.length_filter_eq_length_iff]
  constructor
  · intro g i h1 h2
    have hc : l[i]? = some l[i] := List.getElem?_eq_getElem (by omega)
    rw [hits_of hc]
    exact g _ ((seg_mem h).mpr ⟨i, h1, h2, hc⟩)
  · intro g c hc
    obtain ⟨i, h1, h2, h3⟩ := (seg_mem h).mp hc
    have := g i h1 h2
    rw [hits_of h3] at this
    exact this

theorem law_len {n p q : Nat} (hp : p ≤ n) : (List.range' p (n + 1 - p)).filter (fun e => isLen p e q) = (lenEnd n p q).toList := by
  refine filter_opt (fun e h1 h2 => ?_) (fun e h => ?_)
  · unfold isLen lenEnd
    rw [decide_eq_true_eq]
    split <;> simp <;> omega
  · unfold lenEnd at h
    split at h <;> simp at h
    omega
theorem law_pos {n p q : Nat} (hp : p ≤ n) : (List.range' p (n + 1 - p)).filter (fun e => isPos p e q) = (posEnd p q).toList := by
  refine filter_opt (fun e h1 h2 => ?_) (fun e h => ?_)
  · unfold isPos posEnd
    rw [Bool.and_eq_true, decide_eq_true_eq, decide_eq_true_eq]
    split <;> simp <;> omega
  · unfold posEnd at h
    split at h <;> simp at h
    omega
theorem law_rpos {n p q : Nat} (hp : p ≤ n) : (List.range' p (n + 1 - p)).filter (fun e => isRpos n p e q) = (rposEnd n p q).toList := by
  refine filter_opt (fun e h1 h2 => ?_) (fun e h => ?_)
  · unfold isRpos rposEnd
    rw [Bool.and_eq_true, decide_eq_true_eq, decide_eq_true_eq]
    split <;> simp <;> omega
  · unfold rposEnd at h
    split at h <;> simp at h
    omega
theorem law_tab {n p q : Nat} (hp : p ≤ n) : (List.range' p (n + 1 - p)).filter (fun e => isTab e q) = (tabEnd n p q).toList := by
  refine filter_opt (fun e h1 h2 => ?_) (fun e h => ?_)
  · unfold isTab tabEnd
    rw [decide_eq_true_eq]
    split <;> simp <;> omega
  · unfold tabEnd at h
    split at h <;> simp at h
    omega
theorem law_rtab {n p q : Nat} (hp : p ≤ n) : (List.range' p (n + 1 - p)).filter (fun e => isRtab n e q) = (rtabEnd n p q).toList := by
  refine filter_opt (fun e h1 h2 => ?_) (fun e h => ?_)
  · unfold isRtab rtabEnd
    rw [decide_eq_true_eq]
    split <;> simp <;> omega
  · unfold rtabEnd at h
    split at h <;> simp at h
    omega
theorem law_rem {n p : Nat} (hp : p ≤ n) : (List.range' p (n + 1 - p)).filter (fun e => isRem n e) = [n] := by
  refine filter_opt (o := some n) (fun e h1 h2 => ?_) (fun e h => ?_)
  · unfold isRem
    rw [decide_eq_true_eq]
    simp; omega
  · cases h; omega
theorem law_arb {n p : Nat} : (List.range' p (n + 1 - p)).filter (fun _ => true) = arbEnds n p := by
  unfold arbEnds
  rw [List.filter_eq_self]
  intro _ _; rfl
theorem any_none {l y : List Nat} {p : Nat} : hits l y p = true → anyAt l p y = some (p + 1) := by
  intro h
  obtain ⟨c, h1, h2⟩ := hits_true.mp h
  unfold anyAt; rw [h1]; simp [h2]
theorem law_any {l y : List Nat} {p : Nat} (hp : p ≤ l.length) : (List.range' p (l.length + 1 - p)).filter (fun e => isAny l p e y) = (anyAt l p y).toList := by
  refine filter_opt (fun e h1 h2 => ?_) (fun e h => ?_)
  · have hi := ins_nil (y := y) (p := p) (e := e) (l := l) (by omega)
    unfold isAny
    rw [Bool.and_eq_true, decide_eq_true_eq, decide_eq_true_eq]
    by_cases he : e - p = 1
    · have hlt : p < l.length := by omega
      have hc : l[p]? = some l[p] := List.getElem?_eq_getElem hlt
      have hq : (∀ i, p ≤ i → i < e → hits l y i = false) ↔ l[p] ∉ y := by
        constructor
        · intro g
          have := g p (Nat.le_refl _) (by omega)
          rw [hits_of hc] at this
          simpa using this
        · intro g i h3 h4
          have : i = p := by omega
          subst this
          rw [hits_of hc]
          simpa using g
      have ee : e = p + 1 := by omega
      rw [ne_eq, hi, hq]
      unfold anyAt
      rw [hc]
      subst ee
      by_cases hy : l[p] ∈ y <;> simp [hy]
    · unfold anyAt
      constructor
      · intro h; exact absurd h.1 he
      · intro h
        split at h
        · split at h
          · have := Option.some.inj h; omega
          · cases h
        · cases h
  · unfold anyAt at h
    split at h
    · rename_i c hc
      have := at_lt hc
      split at h
      · have := Option.some.inj h; omega
      · cases h
    · cases h
theorem law_notany {l y : List Nat} {p : Nat} (hp : p ≤ l.length) : (List.range' p (l.length + 1 - p)).filter (fun e => isNot l p e y) = (notanyAt l p y).toList := by
  refine filter_opt (fun e h1 h2 => ?_) (fun e h => ?_)
  · have hi := ins_nil (y := y) (p := p) (e := e) (l := l) (by omega)
    unfold isNot
    rw [Bool.and_eq_true, decide_eq_true_eq, decide_eq_true_eq]
    by_cases he : e - p = 1
    · have hlt : p < l.length := by omega
      have hc : l[p]? = some l[p] := List.getElem?_eq_getElem hlt
      have hq : (∀ i, p ≤ i → i < e → hits l y i = false) ↔ l[p] ∉ y := by
        constructor
        · intro g
          have := g p (Nat.le_refl _) (by omega)
          rw [hits_of hc] at this
          simpa using this
        · intro g i h3 h4
          have : i = p := by omega
          subst this
          rw [hits_of hc]
          simpa using g
      have ee : e = p + 1 := by omega
      rw [hi, hq]
      unfold notanyAt
      rw [hc]
      subst ee
      by_cases hy : l[p] ∈ y <;> simp [hy]
    · unfold notanyAt
      constructor
      · intro h; exact absurd h.1 he
      · intro h
        split at h
        · split at h
          · cases h
          · have := Option.some.inj h; omega
        · cases h
  · unfold notanyAt at h
    split at h
    · rename_i c hc
      have := at_lt hc
      split at h
      · cases h
      · have := Option.some.inj h; omega
    · cases h
theorem run_hits {l y : List Nat} {p : Nat} {b : Bool} (hp : p ≤ l.length) : (∀ i, p ≤ i → i < runEnd l p y b → hits l y i = b) ∧ (runEnd l p y b < l.length → hits l y (runEnd l p y b) = !b) := by
  obtain ⟨h1, h2⟩ := run_spec l y b (l.length - p) p (by omega)
  refine ⟨fun i h3 h4 => ?_, fun h3 => ?_⟩
  · obtain ⟨c, hc, hb⟩ := h1 i h3 h4
    rw [hits_of hc]; exact eq_of_beq hb
  · obtain ⟨c, hc, hb⟩ := h2 h3
    rw [hits_of hc]
    cases b <;> simpa using hb
theorem hits_out {l y : List Nat} {i : Nat} (h : l.length ≤ i) : hits l y i = false := by
  unfold hits; rw [List.getElem?_eq_none h]
theorem law_span {l y : List Nat} {p : Nat} (hp : p ≤ l.length) : (List.range' p (l.length + 1 - p)).filter (fun e => isSpan l p e y) = (spanEnd l p y).toList := by
  obtain ⟨r1, r2⟩ := run_hits (y := y) (b := true) hp
  have r3 := run_le (s := y) (b := true) hp
  refine filter_opt (fun e h1 h2 => ?_) (fun e h => ?_)
  · have hi := ins_all (y := y) (p := p) (e := e) (l := l) (by omega)
    unfold isSpan
    rw [Bool.and_eq_true, Bool.and_eq_true, decide_eq_true_eq, decide_eq_true_eq, Bool.not_eq_true', hi]
    constructor
    · rintro ⟨⟨h3, h4⟩, h5⟩
      have ee : runEnd l p y true = e := by
        rcases Nat.lt_trichotomy (runEnd l p y true) e with hlt | heq | hgt
        · have := r2 (by omega)
          rw [h4 _ r3.1 hlt] at this; cases this
        · exact heq
        · have := r1 e h1 hgt
          rw [h5] at this; cases this
      unfold spanEnd
      rw [ee, if_pos h3]
    · intro h
      unfold spanEnd at h
      split at h
      · rename_i h3
        have ee := Option.some.inj h
        rw [ee] at r1 r2 h3
        refine ⟨⟨h3, r1⟩, ?_⟩
        by_cases hn : e < l.length
        · exact r2 hn
        · exact hits_out (by omega)
      · cases h
  · unfold spanEnd at h
    split at h
    · have := Option.some.inj h; omega
    · cases h
theorem law_break {l y : List Nat} {p : Nat} (hp : p ≤ l.length) : (List.range' p (l.length + 1 - p)).filter (fun e => isBreak l p e y) = (breakEnd l p y).toList := by
  obtain ⟨r1, r2⟩ := run_hits (y := y) (b := false) hp
  have r3 := run_le (s := y) (b := false) hp
  refine filter_opt (fun e h1 h2 => ?_) (fun e h => ?_)
  · have hi := ins_nil (y := y) (p := p) (e := e) (l := l) (by omega)
    unfold isBreak
    rw [Bool.and_eq_true, decide_eq_true_eq, hi]
    constructor
    · rintro ⟨h4, h5⟩
      have hn : e < l.length := by
        obtain ⟨c, hc, _⟩ := hits_true.mp h5
        exact at_lt hc
      have ee : runEnd l p y false = e := by
        rcases Nat.lt_trichotomy (runEnd l p y false) e with hlt | heq | hgt
        · have := r2 (by omega)
          rw [h4 _ r3.1 hlt] at this; cases this
        · exact heq
        · have := r1 e h1 hgt
          rw [h5] at this; cases this
      unfold breakEnd
      rw [ee, if_pos hn]
    · intro h
      unfold breakEnd at h
      split at h
      · rename_i h3
        have ee := Option.some.inj h
        rw [ee] at r1 r2 h3
        exact ⟨r1, r2 h3⟩
      · cases h
  · unfold breakEnd at h
    split at h
    · have := Option.some.inj h; omega
    · cases h
end Mine
namespace Mine
def allBal : Int → List Nat → Nat → List Nat
  | _, [], _ => []
  | lev, c :: r, q => if stepLev lev c < 0 then [] else if stepLev lev c = 0 then (q + 1) :: allBal (stepLev lev c) r (q + 1) else allBal (stepLev lev c) r (q + 1)
theorem allBal_filter : ∀ (r : List Nat) (lev : Int) (q : Nat), allBal lev r q = (List.range' (q + 1) r.length).filter fun e => isBalGo lev (r.take (e - q))
  | [], _, _ => rfl
  | c :: r, lev, q => by
    have rest : ∀ e ∈ List.range' (q + 1 + 1) r.length, isBalGo lev ((c :: r).take (e - q)) = if stepLev lev c < 0 then false else isBalGo (stepLev lev c) (r.take (e - (q + 1))) := by
      intro e he
      rw [List.mem_range'_1] at he
      rw [show e - q = (e - (q + 1)) + 1 by omega, List.take_succ_cons, isBalGo]
    have here : isBalGo lev ((c :: r).take (q + 1 - q)) = if stepLev lev c < 0 then false else (stepLev lev c == 0) := by
      rw [show q + 1 - q = 0 + 1 by omega, List.take_succ_cons, List.take_zero, isBalGo, isBalGo]
    rw [List.length_cons, List.range'_succ, List.filter_cons, here, List.filter_congr rest, allBal]
    by_cases h : stepLev lev c < 0
    · simp [h]
    · simp only [h, if_false]
      rw [allBal_filter r (stepLev lev c) (q + 1)]
      by_cases h0 : stepLev lev c = 0
      · simp [h0]
      · simp [h0]
theorem allBal_first : ∀ (r : List Nat) (lev : Int) (q : Nat), allBal lev r q = match balGo lev r q with | none => [] | some e => e :: allBal 0 (r.drop (e - q)) e
  | [], _, _ => rfl
  | c :: r, lev, q => by
    rw [allBal, balGo]
    by_cases h : stepLev lev c < 0
    · simp [h]
    · by_cases h0 : stepLev lev c = 0
      · simp [h0, show q + 1 - q = 0 + 1 by omega]
      · simp only [h, h0, if_false]
        rw [allBal_first r (stepLev lev c) (q + 1)]
        cases hb : balGo (stepLev lev c) r (q + 1) with
        | none => rfl
        | some e =>
          have := balGo_le _ _ _ _ hb
          show e :: _ = e :: _
          rw [show e - q = (e - (q + 1)) + 1 by omega, List.drop_succ_cons]
theorem allBal_ends (l : List Nat) : ∀ (k p : Nat), p ≤ l.length → l.length + 1 - p ≤ k → allBal 0 (l.drop p) p = balEndsGo l k p
  | 0, p, h1, h2 => by omega
  | k + 1, p, h1, h2 => by
    rw [allBal_first, balEndsGo]
    show (match balEnd l p with | none => [] | some e => e :: allBal 0 ((l.drop p).drop (e - p)) e) = _
    cases hb : balEnd l p with
    | none => rfl
    | some e =>
      obtain ⟨a, b⟩ := balEnd_le h1 hb
      show e :: _ = e :: _
      rw [List.drop_drop, show p + (e - p) = e by omega, allBal_ends l k e b (by omega)]
theorem law_balanced {l : List Nat} {p : Nat} : (List.range' (p + 1) (l.length - p)).filter (fun e => isBalGo 0 (seg l p e)) = allBal 0 (l.drop p) p := by
  rw [allBal_filter, List.length_drop]
  rfl
theorem law_bal {l : List Nat} {p : Nat} (hp : p ≤ l.length) : (List.range' p (l.length + 1 - p)).filter (fun e => isBal l p e) = balEnds l p := by
  have h1 : balEnds l p = allBal 0 (l.drop p) p := (allBal_ends l _ p hp (by omega)).symm
  rw [h1, ← law_balanced, show l.length + 1 - p = (l.length - p) + 1 by omega, List.range'_succ, List.filter_cons]
  have h2 : isBal l p p = false := by unfold isBal; rw [decide_eq_false (Nat.lt_irrefl p)]; rfl
  rw [h2]
  simp only [Bool.false_eq_true, if_false]
  apply List.filter_congr
  intro e he
  rw [List.mem_range'_1] at he
  unfold isBal
  rw [decide_eq_true (by omega : p < e), Bool.true_and]
theorem law_first {l : List Nat} {p : Nat} : ((List.range' (p + 1) (l.length - p)).filter (fun e => isBalGo 0 (seg l p e))).head? = balEnd l p := by
  rw [law_balanced, allBal_first]
  show (match balEnd l p with | none => [] | some e => e :: allBal 0 ((l.drop p).drop (e - p)) e : List Nat).head? = _
  cases balEnd l p with
  | none => rfl
  | some e => rfl
theorem law_breakx {l y : List Nat} {p : Nat} : breakxEnds l p y = (List.range' p (l.length - p)).filter (hits l y) := rfl
end Mine
namespace Mine
open PySem.Spec PySem.Calls

/-! ### a list of signs held against the empty list -/
theorem strs_reads {h : Heap} : ∀ {vs : List Value} {xs : List Str}, StrsAre vs xs → ReadsAll h vs (xs.map PyData.str) []
  | _, _, .nil => .nil
  | _, _, .cons n t r => .cons (.str n t) (strs_reads r)
theorem ones_lay : ∀ L : List Nat, (∀ c ∈ L, c < 128) → PyData.canLayAll0 ((L.map fun n => (⟨#[n]⟩ : Str)).map PyData.str) = true
  | [], _ => by simp [PyData.canLayAll0]
  | n :: r, h => by
    have h1 : PyData.strOk ⟨#[n]⟩ = true := by
      have := h n List.mem_cons_self
      simp [PyData.strOk]; omega
    simp only [List.map_cons, PyData.canLayAll0, PyData.canLay0, h1, Bool.true_and]
    exact ones_lay r fun c hc => h c (List.mem_cons_of_mem _ hc)
theorem ones_depth : ∀ L : List Nat, PyData.depthAll ((L.map fun n => (⟨#[n]⟩ : Str)).map PyData.str) ≤ 1
  | [] => by simp [PyData.depthAll]
  | n :: r => by
    have := ones_depth r
    simp only [List.map_cons, PyData.depthAll, PyData.depth]
    omega
theorem ones_shaped (L : List Nat) (h : ∀ c ∈ L, c < 128) : SeqAt.shaped (.list ((L.map fun n => (⟨#[n]⟩ : Str)).map PyData.str)) = true := by
  have h1 := ones_depth L
  have h2 : PyData.depth (.list ((L.map fun n => (⟨#[n]⟩ : Str)).map PyData.str)) ≤ 64 := by simp only [PyData.depth]; omega
  show (PyData.canLay0 (.list ((L.map fun n => (⟨#[n]⟩ : Str)).map PyData.str)) && decide (PyData.depth (.list ((L.map fun n => (⟨#[n]⟩ : Str)).map PyData.str)) ≤ 64)) = true
  rw [Bool.and_eq_true]
  exact ⟨by simp only [PyData.canLay0]; exact ones_lay L h, decide_eq_true h2⟩
theorem ends_drop {h₀ h : Heap} {L : Addr} {news news' : List (Addr × Obj)} (N : News h₀ L h news') (hs : ∀ p ∈ news, p ∈ news') : News h₀ L h news := fun p hp => N p (hs p hp)
section
variable {prog : Program} {w : World} {A : Around} {E : Value → Shared → Prop} {s : Shared}
theorem eq_signs {a b : Addr} {ys us : List Value} {L : List Nat} {Q : Value → Shared → Prop} (hl : s.heap.IsList a ys.toArray) (hc : StrsAre ys (L.map fun n => (⟨#[n]⟩ : Str))) (hl' : s.heap.IsList b us.toArray) (hn : us = []) (h9 : ∀ c ∈ L, c < 128) (hu : A.units + 64 < cLine)
    (h : Q (.bool (decide (L = []))) s) : wpAny (model prog w) A (compareOp .Eq (.ref a) (.ref b)) Q E s := by
  subst hn
  obtain ⟨o, ho, hcl, n, hd⟩ := hl
  obtain ⟨o', ho', hcl', n', hd'⟩ := hl'
  have r1 : Reads s.heap (.ref a) (.list ((L.map fun n => (⟨#[n]⟩ : Str)).map PyData.str)) [a] := Reads.list ho hcl hd (by simpa using strs_reads hc)
  have r2 : Reads s.heap (.ref b) (.list []) [b] := Reads.list ho' hcl' hd' (by simpa using ReadsAll.nil)
  refine eq_dataH r1 r2 (ones_shaped L h9) rfl hu ?_
  cases L with
  | nil => simpa [PyData.eqv, PyData.eqvAll] using h
  | cons c r => simpa [PyData.eqv, PyData.eqvAll] using h
theorem ne_signs {a b : Addr} {ys us : List Value} {L : List Nat} {Q : Value → Shared → Prop} (hl : s.heap.IsList a ys.toArray) (hc : StrsAre ys (L.map fun n => (⟨#[n]⟩ : Str))) (hl' : s.heap.IsList b us.toArray) (hn : us = []) (h9 : ∀ c ∈ L, c < 128) (hu : A.units + 64 < cLine)
    (h : Q (.bool (decide (L ≠ []))) s) : wpAny (model prog w) A (compareOp .NotEq (.ref a) (.ref b)) Q E s := by
  subst hn
  obtain ⟨o, ho, hcl, n, hd⟩ := hl
  obtain ⟨o', ho', hcl', n', hd'⟩ := hl'
  have r1 : Reads s.heap (.ref a) (.list ((L.map fun n => (⟨#[n]⟩ : Str)).map PyData.str)) [a] := Reads.list ho hcl hd (by simpa using strs_reads hc)
  have r2 : Reads s.heap (.ref b) (.list []) [b] := Reads.list ho' hcl' hd' (by simpa using ReadsAll.nil)
  refine ne_dataH r1 r2 (ones_shaped L h9) rfl hu ?_
  cases L with
  | nil => simpa [PyData.eqv, PyData.eqvAll] using h
  | cons c r => simpa [PyData.eqv, PyData.eqvAll] using h
end
end Mine
namespace Mine
open PySem.Builtin PySem.Builtin.Str
set_option maxHeartbeats 4000000
theorem ins_step {T y : List Nat} {i c : Nat} (h : T[i]? = some c) : ins y (T.take (i + 1)) = ins y (T.take i) ++ (if c ∈ y then [c] else []) := by
  unfold ins
  rw [List.take_add_one, h, List.filter_append]
  congr 1
  by_cases hc : c ∈ y
  · simp [hc]
  · simp [hc]
theorem ins_yes {T y : List Nat} {i : Nat} {ys : List Value} {v : Value} (g : StrsAre ys ((ins y (T.take i)).map fun n => (⟨#[n]⟩ : Str))) (hp : hits T y i = true) (hv : ∃ c t, T[i]? = some c ∧ v = .str ⟨#[c]⟩ t) : StrsAre (ys ++ [v]) ((ins y (T.take (i + 1))).map fun n => (⟨#[n]⟩ : Str)) := by
  obtain ⟨c, t, hc, rfl⟩ := hv
  rw [hits_of hc] at hp
  rw [ins_step hc, if_pos (by simpa using hp), List.map_append]
  exact StrsAre.append' g (.cons _ _ .nil)
theorem ins_no {T y : List Nat} {i : Nat} {ys : List Value} (g : StrsAre ys ((ins y (T.take i)).map fun n => (⟨#[n]⟩ : Str))) (hi : i < T.length) (hp : hits T y i = false) : StrsAre ys ((ins y (T.take (i + 1))).map fun n => (⟨#[n]⟩ : Str)) := by
  have hc : T[i]? = some T[i] := List.getElem?_eq_getElem hi
  rw [hits_of hc] at hp
  rw [ins_step hc, if_neg (by simpa using hp), List.append_nil]
  exact g
theorem behind_in {x y b : Str} {e : Nat} (h : b.cps.toList = (x.cps.toList.drop e).take 1) : (b == Str.ofString "") = decide (x.length ≤ e) ∧ (e < x.length → (occurrences y b 0 y.length 1).isEmpty = !hits x.cps.toList y.cps.toList e) ∧ (x.length ≤ e → hits x.cps.toList y.cps.toList e = false) := by
  have hl := len_toList x
  refine ⟨?_, fun he => ?_, fun he => ?_⟩
  · rw [str_beq, str_none, h, Bool.eq_iff_iff, beq_iff_eq, decide_eq_true_eq]
    show _ = [] ↔ _
    rw [← List.length_eq_zero_iff, List.length_take, List.length_drop]
    omega
  · have hn : x.cps.toList[e]? = some x.cps.toList[e] := List.getElem?_eq_getElem (by omega)
    have hb : b = ⟨#[x.cps.toList[e]]⟩ := by
      refine str_ext ?_
      rw [h, List.drop_eq_getElem_cons (by omega)]
      rfl
    rw [hb, in_one, hits_of hn]
  · unfold hits
    rw [List.getElem?_eq_none (by omega)]
theorem text_ne {T : Str} : (T != Str.ofString "") = decide (0 < T.length) := by
  show (!(T == Str.ofString "")) = _
  rw [str_beq, str_none, Bool.eq_iff_iff, Bool.not_eq_true', beq_eq_false_iff_ne, decide_eq_true_eq]
  show T.cps.toList ≠ [] ↔ _
  rw [← len_toList, List.length_pos_iff]
theorem text_eq {T : Str} : (T == Str.ofString "") = decide (T.length = 0) := by
  rw [str_beq, str_none, Bool.eq_iff_iff, beq_iff_eq, decide_eq_true_eq]
  show T.cps.toList = [] ↔ _
  rw [← len_toList, List.length_eq_zero_iff]
theorem len_signs {prog : Program} {w : World} {A : Around} {E : Value → Shared → Prop} {s : Shared} {a : Addr} {ys : List Value} {L : List Nat} {Q : Value → Shared → Prop} (hl : s.heap.IsList a ys.toArray) (hc : StrsAre ys (L.map fun n => (⟨#[n]⟩ : Str))) (hz : L.length ≤ 1000)
    (h : Q (.int (L.length : Int) (s.toks + 1)) { s with toks := s.toks + 1 + 1 }) : wpAny (model prog w) A (call (.builtin "len") [.ref a]) Q E s :=
  len_strsA hl hc (by rw [List.length_map]; omega) (by rw [List.length_map]; exact h)
section
local macro_rules | `(tactic| walk_at "exec Assign cons ListComp") => `(tactic| refine Stop.of ?_)
local macro_rules | `(tactic| walk_at "SrcS") => `(tactic| refine Stop.of ?_)
local macro_rules | `(tactic| walk_at "CBack") => `(tactic| refine Stop.of ?_)
local macro_rules | `(tactic| walk_at "compareOp NotEq ref ref") => `(tactic| (k_here; k_dflt (refine' ne_signs ?zh1 ?zh2 ?zh3 ?zh4 ?zh5 ?zh6 ?_; (case zh1 => is_list); (case zh2 => assumption); (case zh3 => is_list); (case zh4 => exact rfl); (case zh5 => assumption); (case zh6 => units_room))))
local macro_rules | `(tactic| walk_at "compareOp Eq ref ref") => `(tactic| (k_here; k_dflt (refine' eq_signs ?zh1 ?zh2 ?zh3 ?zh4 ?zh5 ?zh6 ?_; (case zh1 => is_list); (case zh2 => assumption); (case zh3 => is_list); (case zh4 => exact rfl); (case zh5 => assumption); (case zh6 => units_room))))
local macro_rules | `(tactic| walk_at "call ref") => `(tactic| (k_here; k_dflt ((refine useV (s_evens _ _ _ (by omega)) (ret := ?_)); intro _ _ _ _ _; (try dsimp only); (try k_fold))))
local macro_rules | `(tactic| walk_at "call builtin:len") => `(tactic| (k_here; (with_reducible show wpAny _ _ (call (Value.builtin "len") [Value.ref _]) _ _ _); k_dflt (refine' len_signs ?zh1 ?zh2 ?zh3 ?_; (case zh1 => is_list); (case zh2 => assumption); (case zh3 => omega))))
local macro_rules | `(tactic| walk_at "ite") => `(tactic| (k_here; first | refine ite_t (by with_reducible assumption) ?_ | refine ite_f (by with_reducible assumption) ?_))
local macro_rules | `(tactic| walk_at "ite") => `(tactic| (k_closed; first | refine ite_t (by decide +kernel) ?_ | refine ite_f (by decide +kernel) ?_))
local macro_rules | `(tactic| units_room) => `(tactic| ktr_units)
theorem s_is_len (w : World) (x y : Str) (tx ty tk : Tok) (p e q : Nat) (ta te tm : Tok) (h1 : x.length ≤ 1000) (h2 : y.length ≤ 1000) (h3 : p ≤ e) (h4 : e ≤ x.length) (h5 : ∀ c ∈ x.cps.toList, c < 128) :
    SpecV w 197 [.str (Str.ofString "len") tk, .str x tx, .int p ta, .int e te, .str y ty, .int q tm] 10 (fun _ => .bool (isLen p e q)) := by
  have hl := len_toList x
  w_top off
  unfold SpecV
  k_fill
  intro dp un gd cn cs a ccd cl outer A₀ base h₀ L m news s mean mg mb Q E B F X N Tt hk hd hu hret
  refine wpAny_call ?_
  k_dflt (refine' code_defC ?k1 ?k2 ?k3 ?k4 ?k5 ?kA ?kF ?kK ?k6 ?k7 ?k8 ?k9 ?kB ?kD ?_ ?c2 ?c3 ?c4; (case kA => exact rfl); (case kF => exact rfl); (case kK => assumption); (case k1 => k_asm); (case k2 => k_asm); (case k3 => k_asm); (case k4 => k_asm); (case k5 => k_asm); (case k6 => k_is); (case k7 => k_is); (case k8 => ktr_room); (case k9 => exact BindsTo.of_eq rfl); (case kB => exact rfl); (case kD => decide +kernel); (case c2 => exact rfl); (case c3 => exact rfl); (case c4 => exact rfl); k_whole; intro g' L' h' tk' cells' FG' F' N' Y' B' X' T' l1; (try k_lt l1); k_cells Y'; (try simp only [List.cons_append, List.nil_append] at N'); (try dsimp only); (try k_lift B'); (try k_fold))
  k_steps
  unfold Stop
  rename Fr _ _ _ _ => F9
  rename News _ _ _ _ => N9
  k_dflt (refine assignCompS F9 (by rfl) (by with_unfolding_all rfl) (by with_unfolding_all rfl) (by decide) (by rfl) (by decide) (by rfl) (by rfl) (by rfl) ?_)
  k_steps
  unfold Stop
  have eT : (Txt.slice x (some (p : Int)) (some (e : Int))).cps.toList = seg x.cps.toList p e := slice_ss x (i := p) (j := e) (by omega) h3
  have eB : (Txt.slice x (some (e : Int)) (some ((e : Int) + 1))).cps.toList = (x.cps.toList.drop e).take 1 := by
    have := slice_ss x (i := e) (j := e + 1) h4 (Nat.le_succ _)
    rw [Nat.add_sub_cancel_left] at this
    exact this
  generalize hT : Txt.slice x (some (p : Int)) (some (e : Int)) = T at *
  generalize hB : Txt.slice x (some (e : Int)) (some ((e : Int) + 1)) = Bh at *
  have lT : T.length = e - p := by
    rw [← len_toList, eT]; unfold seg; rw [List.length_take, List.length_drop]; omega
  have lB : Bh.length = if e < x.length then 1 else 0 := by
    rw [← len_toList, eB, List.length_take, List.length_drop, hl]; split <;> omega
  obtain ⟨hB1, hB2, hB3⟩ := behind_in (y := y) eB
  refine SrcS.intro rfl F9 N9 (by show T.length ≤ _; rw [sizeLine_eq]; omega) fun g => ?_
  refine restT trivial (fun i => hits T.cps.toList y.cps.toList i) (fun i v => ∃ c t, T.cps.toList[i]? = some c ∧ v = .str ⟨#[c]⟩ t) (fun i ys => i ≤ T.length → StrsAre ys ((ins y.cps.toList (T.cps.toList.take i)).map fun n => (⟨#[n]⟩ : Str))) (fun _ => .nil) (fun i ys v g hp hv hi => ins_yes (g (by omega)) hp hv) (fun i ys g hp hi => ins_no (g (by omega)) (by rw [len_toList]; omega) hp) ?_ ?_
  · clear F9 N9
    intro i v I oI C oC D m₂ ys h tk E' hi hP hC hx F9 N9 off ne
    obtain ⟨c, u, hc, rfl⟩ := hP
    have hc' : T.cps.toList[i]? = some c := by simpa using hc
    cases hin : (occurrences y ⟨#[c]⟩ 0 y.length 1).isEmpty with
    | true =>
      have hin2 : (!(occurrences y ⟨#[c]⟩ 0 y.length 1).isEmpty) = false := by rw [hin]; rfl
      k_steps
      unfold Stop
      rw [in_one] at hin
      exact CBack.intro (by rw [hits_of hc']; simpa using hin) (by assumption) N9 (fun _ hq => hq)
    | false =>
      have hin2 : (!(occurrences y ⟨#[c]⟩ 0 y.length 1).isEmpty) = true := by rw [hin]; rfl
      k_steps
      unfold Stop
      rw [in_one] at hin
      exact CBack.intro ⟨by rw [hits_of hc']; simpa using hin, c, u, hc', rfl⟩ (by assumption) N9 (fun _ hq => hq)
  · clear F9 N9
    intro ys hys D h tk F9 N9 off
    have hys := hys (Nat.le_refl _)
    rw [show T.cps.size = T.cps.toList.length from (Array.length_toList).symm, List.take_length, eT] at hys
    have h9 : ∀ c ∈ ins y.cps.toList (seg x.cps.toList p e), c < 128 := fun c hc => h5 c (List.mem_of_mem_drop (List.mem_of_mem_take (List.mem_filter.mp hc).1))
    have hln := hys.length
    rw [List.length_map] at hln
    have hlb : (ins y.cps.toList (seg x.cps.toList p e)).length ≤ e - p := by
      have h8 := List.length_filter_le (fun c => decide (c ∈ y.cps.toList)) (seg x.cps.toList p e)
      rw [← eT, len_toList, lT] at h8
      rw [← eT]; exact h8
    have hlc : ys.length ≤ 1000 := by omega
    have hld : (ins y.cps.toList (seg x.cps.toList p e)).length ≤ 1000 := by omega
    (try k_fold)
    by_cases hT1 : T.length = 1
    · have hT2 : ((T.length : Int) == 1) = true := by rw [beq_iff_eq]; omega
      have hT3 : decide (e - p = 1) = true := decide_eq_true (by omega)
      k_steps
      have zhE : ((T.length : Int) == (q : Int)) = isLen p e q := by
        unfold isLen
        rw [Bool.eq_iff_iff, beq_iff_eq, decide_eq_true_eq]
        omega
      exact retV hret 0 (by assumption) (ends_drop (by assumption) (fun _ hq => by repeat (first | exact hq | refine List.mem_cons_of_mem _ ?_))) (congrArg Value.bool zhE)
    · have hT2 : ((T.length : Int) == 1) = false := by rw [beq_eq_false_iff_ne]; omega
      have hT3 : decide (e - p = 1) = false := decide_eq_false (by omega)
      k_steps
      have zhE : ((T.length : Int) == (q : Int)) = isLen p e q := by
        unfold isLen
        rw [Bool.eq_iff_iff, beq_iff_eq, decide_eq_true_eq]
        omega
      exact retV hret 0 (by assumption) (ends_drop (by assumption) (fun _ hq => by repeat (first | exact hq | refine List.mem_cons_of_mem _ ?_))) (congrArg Value.bool zhE)
theorem s_is_any (w : World) (x y : Str) (tx ty tk : Tok) (p e q : Nat) (ta te tm : Tok) (h1 : x.length ≤ 1000) (h2 : y.length ≤ 1000) (h3 : p ≤ e) (h4 : e ≤ x.length) (h5 : ∀ c ∈ x.cps.toList, c < 128) :
    SpecV w 197 [.str (Str.ofString "any") tk, .str x tx, .int p ta, .int e te, .str y ty, .int q tm] 10 (fun _ => .bool (isAny x.cps.toList p e y.cps.toList)) := by
  have hl := len_toList x
  w_top off
  unfold SpecV
  k_fill
  intro dp un gd cn cs a ccd cl outer A₀ base h₀ L m news s mean mg mb Q E B F X N Tt hk hd hu hret
  refine wpAny_call ?_
  k_dflt (refine' code_defC ?k1 ?k2 ?k3 ?k4 ?k5 ?kA ?kF ?kK ?k6 ?k7 ?k8 ?k9 ?kB ?kD ?_ ?c2 ?c3 ?c4; (case kA => exact rfl); (case kF => exact rfl); (case kK => assumption); (case k1 => k_asm); (case k2 => k_asm); (case k3 => k_asm); (case k4 => k_asm); (case k5 => k_asm); (case k6 => k_is); (case k7 => k_is); (case k8 => ktr_room); (case k9 => exact BindsTo.of_eq rfl); (case kB => exact rfl); (case kD => decide +kernel); (case c2 => exact rfl); (case c3 => exact rfl); (case c4 => exact rfl); k_whole; intro g' L' h' tk' cells' FG' F' N' Y' B' X' T' l1; (try k_lt l1); k_cells Y'; (try simp only [List.cons_append, List.nil_append] at N'); (try dsimp only); (try k_lift B'); (try k_fold))
  k_steps
  unfold Stop
  rename Fr _ _ _ _ => F9
  rename News _ _ _ _ => N9
  k_dflt (refine assignCompS F9 (by rfl) (by with_unfolding_all rfl) (by with_unfolding_all rfl) (by decide) (by rfl) (by decide) (by rfl) (by rfl) (by rfl) ?_)
  k_steps
  unfold Stop
  have eT : (Txt.slice x (some (p : Int)) (some (e : Int))).cps.toList = seg x.cps.toList p e := slice_ss x (i := p) (j := e) (by omega) h3
  have eB : (Txt.slice x (some (e : Int)) (some ((e : Int) + 1))).cps.toList = (x.cps.toList.drop e).take 1 := by
    have := slice_ss x (i := e) (j := e + 1) h4 (Nat.le_succ _)
    rw [Nat.add_sub_cancel_left] at this
    exact this
  generalize hT : Txt.slice x (some (p : Int)) (some (e : Int)) = T at *
  generalize hB : Txt.slice x (some (e : Int)) (some ((e : Int) + 1)) = Bh at *
  have lT : T.length = e - p := by
    rw [← len_toList, eT]; unfold seg; rw [List.length_take, List.length_drop]; omega
  have lB : Bh.length = if e < x.length then 1 else 0 := by
    rw [← len_toList, eB, List.length_take, List.length_drop, hl]; split <;> omega
  obtain ⟨hB1, hB2, hB3⟩ := behind_in (y := y) eB
  refine SrcS.intro rfl F9 N9 (by show T.length ≤ _; rw [sizeLine_eq]; omega) fun g => ?_
  refine restT trivial (fun i => hits T.cps.toList y.cps.toList i) (fun i v => ∃ c t, T.cps.toList[i]? = some c ∧ v = .str ⟨#[c]⟩ t) (fun i ys => i ≤ T.length → StrsAre ys ((ins y.cps.toList (T.cps.toList.take i)).map fun n => (⟨#[n]⟩ : Str))) (fun _ => .nil) (fun i ys v g hp hv hi => ins_yes (g (by omega)) hp hv) (fun i ys g hp hi => ins_no (g (by omega)) (by rw [len_toList]; omega) hp) ?_ ?_
  · clear F9 N9
    intro i v I oI C oC D m₂ ys h tk E' hi hP hC hx F9 N9 off ne
    obtain ⟨c, u, hc, rfl⟩ := hP
    have hc' : T.cps.toList[i]? = some c := by simpa using hc
    cases hin : (occurrences y ⟨#[c]⟩ 0 y.length 1).isEmpty with
    | true =>
      have hin2 : (!(occurrences y ⟨#[c]⟩ 0 y.length 1).isEmpty) = false := by rw [hin]; rfl
      k_steps
      unfold Stop
      rw [in_one] at hin
      exact CBack.intro (by rw [hits_of hc']; simpa using hin) (by assumption) N9 (fun _ hq => hq)
    | false =>
      have hin2 : (!(occurrences y ⟨#[c]⟩ 0 y.length 1).isEmpty) = true := by rw [hin]; rfl
      k_steps
      unfold Stop
      rw [in_one] at hin
      exact CBack.intro ⟨by rw [hits_of hc']; simpa using hin, c, u, hc', rfl⟩ (by assumption) N9 (fun _ hq => hq)
  · clear F9 N9
    intro ys hys D h tk F9 N9 off
    have hys := hys (Nat.le_refl _)
    rw [show T.cps.size = T.cps.toList.length from (Array.length_toList).symm, List.take_length, eT] at hys
    have h9 : ∀ c ∈ ins y.cps.toList (seg x.cps.toList p e), c < 128 := fun c hc => h5 c (List.mem_of_mem_drop (List.mem_of_mem_take (List.mem_filter.mp hc).1))
    have hln := hys.length
    rw [List.length_map] at hln
    have hlb : (ins y.cps.toList (seg x.cps.toList p e)).length ≤ e - p := by
      have h8 := List.length_filter_le (fun c => decide (c ∈ y.cps.toList)) (seg x.cps.toList p e)
      rw [← eT, len_toList, lT] at h8
      rw [← eT]; exact h8
    have hlc : ys.length ≤ 1000 := by omega
    have hld : (ins y.cps.toList (seg x.cps.toList p e)).length ≤ 1000 := by omega
    (try k_fold)
    by_cases hT1 : T.length = 1
    · have hT2 : ((T.length : Int) == 1) = true := by rw [beq_iff_eq]; omega
      have hT3 : decide (e - p = 1) = true := decide_eq_true (by omega)
      k_steps
      have zhE : decide (ins y.cps.toList (seg x.cps.toList p e) ≠ []) = isAny x.cps.toList p e y.cps.toList := by
        unfold isAny
        rw [hT3, Bool.true_and]
      exact retV hret 0 (by assumption) (ends_drop (by assumption) (fun _ hq => by repeat (first | exact hq | refine List.mem_cons_of_mem _ ?_))) (congrArg Value.bool zhE)
    · have hT2 : ((T.length : Int) == 1) = false := by rw [beq_eq_false_iff_ne]; omega
      have hT3 : decide (e - p = 1) = false := decide_eq_false (by omega)
      k_steps
      have zhE : ((T.length : Int) == 1) = isAny x.cps.toList p e y.cps.toList := by
        unfold isAny
        rw [hT3, Bool.false_and, hT2]
      exact retV hret 0 (by assumption) (ends_drop (by assumption) (fun _ hq => by repeat (first | exact hq | refine List.mem_cons_of_mem _ ?_))) (congrArg Value.bool zhE)
theorem s_is_notany (w : World) (x y : Str) (tx ty tk : Tok) (p e q : Nat) (ta te tm : Tok) (h1 : x.length ≤ 1000) (h2 : y.length ≤ 1000) (h3 : p ≤ e) (h4 : e ≤ x.length) (h5 : ∀ c ∈ x.cps.toList, c < 128) :
    SpecV w 197 [.str (Str.ofString "notany") tk, .str x tx, .int p ta, .int e te, .str y ty, .int q tm] 10 (fun _ => .bool (isNot x.cps.toList p e y.cps.toList)) := by
  have hl := len_toList x
  w_top off
  unfold SpecV
  k_fill
  intro dp un gd cn cs a ccd cl outer A₀ base h₀ L m news s mean mg mb Q E B F X N Tt hk hd hu hret
  refine wpAny_call ?_
  k_dflt (refine' code_defC ?k1 ?k2 ?k3 ?k4 ?k5 ?kA ?kF ?kK ?k6 ?k7 ?k8 ?k9 ?kB ?kD ?_ ?c2 ?c3 ?c4; (case kA => exact rfl); (case kF => exact rfl); (case kK => assumption); (case k1 => k_asm); (case k2 => k_asm); (case k3 => k_asm); (case k4 => k_asm); (case k5 => k_asm); (case k6 => k_is); (case k7 => k_is); (case k8 => ktr_room); (case k9 => exact BindsTo.of_eq rfl); (case kB => exact rfl); (case kD => decide +kernel); (case c2 => exact rfl); (case c3 => exact rfl); (case c4 => exact rfl); k_whole; intro g' L' h' tk' cells' FG' F' N' Y' B' X' T' l1; (try k_lt l1); k_cells Y'; (try simp only [List.cons_append, List.nil_append] at N'); (try dsimp only); (try k_lift B'); (try k_fold))
  k_steps
  unfold Stop
  rename Fr _ _ _ _ => F9
  rename News _ _ _ _ => N9
  k_dflt (refine assignCompS F9 (by rfl) (by with_unfolding_all rfl) (by with_unfolding_all rfl) (by decide) (by rfl) (by decide) (by rfl) (by rfl) (by rfl) ?_)
  k_steps
  unfold Stop
  have eT : (Txt.slice x (some (p : Int)) (some (e : Int))).cps.toList = seg x.cps.toList p e := slice_ss x (i := p) (j := e) (by omega) h3
  have eB : (Txt.slice x (some (e : Int)) (some ((e : Int) + 1))).cps.toList = (x.cps.toList.drop e).take 1 := by
    have := slice_ss x (i := e) (j := e + 1) h4 (Nat.le_succ _)
    rw [Nat.add_sub_cancel_left] at this
    exact this
  generalize hT : Txt.slice x (some (p : Int)) (some (e : Int)) = T at *
  generalize hB : Txt.slice x (some (e : Int)) (some ((e : Int) + 1)) = Bh at *
  have lT : T.length = e - p := by
    rw [← len_toList, eT]; unfold seg; rw [List.length_take, List.length_drop]; omega
  have lB : Bh.length = if e < x.length then 1 else 0 := by
    rw [← len_toList, eB, List.length_take, List.length_drop, hl]; split <;> omega
  obtain ⟨hB1, hB2, hB3⟩ := behind_in (y := y) eB
  refine SrcS.intro rfl F9 N9 (by show T.length ≤ _; rw [sizeLine_eq]; omega) fun g => ?_
  refine restT trivial (fun i => hits T.cps.toList y.cps.toList i) (fun i v => ∃ c t, T.cps.toList[i]? = some c ∧ v = .str ⟨#[c]⟩ t) (fun i ys => i ≤ T.length → StrsAre ys ((ins y.cps.toList (T.cps.toList.take i)).map fun n => (⟨#[n]⟩ : Str))) (fun _ => .nil) (fun i ys v g hp hv hi => ins_yes (g (by omega)) hp hv) (fun i ys g hp hi => ins_no (g (by omega)) (by rw [len_toList]; omega) hp) ?_ ?_
  · clear F9 N9
    intro i v I oI C oC D m₂ ys h tk E' hi hP hC hx F9 N9 off ne
    obtain ⟨c, u, hc, rfl⟩ := hP
    have hc' : T.cps.toList[i]? = some c := by simpa using hc
    cases hin : (occurrences y ⟨#[c]⟩ 0 y.length 1).isEmpty with
    | true =>
      have hin2 : (!(occurrences y ⟨#[c]⟩ 0 y.length 1).isEmpty) = false := by rw [hin]; rfl
      k_steps
      unfold Stop
      rw [in_one] at hin
      exact CBack.intro (by rw [hits_of hc']; simpa using hin) (by assumption) N9 (fun _ hq => hq)
    | false =>
      have hin2 : (!(occurrences y ⟨#[c]⟩ 0 y.length 1).isEmpty) = true := by rw [hin]; rfl
      k_steps
      unfold Stop
      rw [in_one] at hin
      exact CBack.intro ⟨by rw [hits_of hc']; simpa using hin, c, u, hc', rfl⟩ (by assumption) N9 (fun _ hq => hq)
  · clear F9 N9
    intro ys hys D h tk F9 N9 off
    have hys := hys (Nat.le_refl _)
    rw [show T.cps.size = T.cps.toList.length from (Array.length_toList).symm, List.take_length, eT] at hys
    have h9 : ∀ c ∈ ins y.cps.toList (seg x.cps.toList p e), c < 128 := fun c hc => h5 c (List.mem_of_mem_drop (List.mem_of_mem_take (List.mem_filter.mp hc).1))
    have hln := hys.length
    rw [List.length_map] at hln
    have hlb : (ins y.cps.toList (seg x.cps.toList p e)).length ≤ e - p := by
      have h8 := List.length_filter_le (fun c => decide (c ∈ y.cps.toList)) (seg x.cps.toList p e)
      rw [← eT, len_toList, lT] at h8
      rw [← eT]; exact h8
    have hlc : ys.length ≤ 1000 := by omega
    have hld : (ins y.cps.toList (seg x.cps.toList p e)).length ≤ 1000 := by omega
    (try k_fold)
    by_cases hT1 : T.length = 1
    · have hT2 : ((T.length : Int) == 1) = true := by rw [beq_iff_eq]; omega
      have hT3 : decide (e - p = 1) = true := decide_eq_true (by omega)
      k_steps
      have zhE : decide (ins y.cps.toList (seg x.cps.toList p e) = []) = isNot x.cps.toList p e y.cps.toList := by
        unfold isNot
        rw [hT3, Bool.true_and]
      exact retV hret 0 (by assumption) (ends_drop (by assumption) (fun _ hq => by repeat (first | exact hq | refine List.mem_cons_of_mem _ ?_))) (congrArg Value.bool zhE)
    · have hT2 : ((T.length : Int) == 1) = false := by rw [beq_eq_false_iff_ne]; omega
      have hT3 : decide (e - p = 1) = false := decide_eq_false (by omega)
      k_steps
      have zhE : ((T.length : Int) == 1) = isNot x.cps.toList p e y.cps.toList := by
        unfold isNot
        rw [hT3, Bool.false_and, hT2]
      exact retV hret 0 (by assumption) (ends_drop (by assumption) (fun _ hq => by repeat (first | exact hq | refine List.mem_cons_of_mem _ ?_))) (congrArg Value.bool zhE)
theorem s_is_pos (w : World) (x y : Str) (tx ty tk : Tok) (p e q : Nat) (ta te tm : Tok) (h1 : x.length ≤ 1000) (h2 : y.length ≤ 1000) (h3 : p ≤ e) (h4 : e ≤ x.length) (h5 : ∀ c ∈ x.cps.toList, c < 128) :
    SpecV w 197 [.str (Str.ofString "pos") tk, .str x tx, .int p ta, .int e te, .str y ty, .int q tm] 10 (fun _ => .bool (isPos p e q)) := by
  have hl := len_toList x
  w_top off
  unfold SpecV
  k_fill
  intro dp un gd cn cs a ccd cl outer A₀ base h₀ L m news s mean mg mb Q E B F X N Tt hk hd hu hret
  refine wpAny_call ?_
  k_dflt (refine' code_defC ?k1 ?k2 ?k3 ?k4 ?k5 ?kA ?kF ?kK ?k6 ?k7 ?k8 ?k9 ?kB ?kD ?_ ?c2 ?c3 ?c4; (case kA => exact rfl); (case kF => exact rfl); (case kK => assumption); (case k1 => k_asm); (case k2 => k_asm); (case k3 => k_asm); (case k4 => k_asm); (case k5 => k_asm); (case k6 => k_is); (case k7 => k_is); (case k8 => ktr_room); (case k9 => exact BindsTo.of_eq rfl); (case kB => exact rfl); (case kD => decide +kernel); (case c2 => exact rfl); (case c3 => exact rfl); (case c4 => exact rfl); k_whole; intro g' L' h' tk' cells' FG' F' N' Y' B' X' T' l1; (try k_lt l1); k_cells Y'; (try simp only [List.cons_append, List.nil_append] at N'); (try dsimp only); (try k_lift B'); (try k_fold))
  k_steps
  unfold Stop
  rename Fr _ _ _ _ => F9
  rename News _ _ _ _ => N9
  k_dflt (refine assignCompS F9 (by rfl) (by with_unfolding_all rfl) (by with_unfolding_all rfl) (by decide) (by rfl) (by decide) (by rfl) (by rfl) (by rfl) ?_)
  k_steps
  unfold Stop
  have eT : (Txt.slice x (some (p : Int)) (some (e : Int))).cps.toList = seg x.cps.toList p e := slice_ss x (i := p) (j := e) (by omega) h3
  have eB : (Txt.slice x (some (e : Int)) (some ((e : Int) + 1))).cps.toList = (x.cps.toList.drop e).take 1 := by
    have := slice_ss x (i := e) (j := e + 1) h4 (Nat.le_succ _)
    rw [Nat.add_sub_cancel_left] at this
    exact this
  generalize hT : Txt.slice x (some (p : Int)) (some (e : Int)) = T at *
  generalize hB : Txt.slice x (some (e : Int)) (some ((e : Int) + 1)) = Bh at *
  have lT : T.length = e - p := by
    rw [← len_toList, eT]; unfold seg; rw [List.length_take, List.length_drop]; omega
  have lB : Bh.length = if e < x.length then 1 else 0 := by
    rw [← len_toList, eB, List.length_take, List.length_drop, hl]; split <;> omega
  obtain ⟨hB1, hB2, hB3⟩ := behind_in (y := y) eB
  refine SrcS.intro rfl F9 N9 (by show T.length ≤ _; rw [sizeLine_eq]; omega) fun g => ?_
  refine restT trivial (fun i => hits T.cps.toList y.cps.toList i) (fun i v => ∃ c t, T.cps.toList[i]? = some c ∧ v = .str ⟨#[c]⟩ t) (fun i ys => i ≤ T.length → StrsAre ys ((ins y.cps.toList (T.cps.toList.take i)).map fun n => (⟨#[n]⟩ : Str))) (fun _ => .nil) (fun i ys v g hp hv hi => ins_yes (g (by omega)) hp hv) (fun i ys g hp hi => ins_no (g (by omega)) (by rw [len_toList]; omega) hp) ?_ ?_
  · clear F9 N9
    intro i v I oI C oC D m₂ ys h tk E' hi hP hC hx F9 N9 off ne
    obtain ⟨c, u, hc, rfl⟩ := hP
    have hc' : T.cps.toList[i]? = some c := by simpa using hc
    cases hin : (occurrences y ⟨#[c]⟩ 0 y.length 1).isEmpty with
    | true =>
      have hin2 : (!(occurrences y ⟨#[c]⟩ 0 y.length 1).isEmpty) = false := by rw [hin]; rfl
      k_steps
      unfold Stop
      rw [in_one] at hin
      exact CBack.intro (by rw [hits_of hc']; simpa using hin) (by assumption) N9 (fun _ hq => hq)
    | false =>
      have hin2 : (!(occurrences y ⟨#[c]⟩ 0 y.length 1).isEmpty) = true := by rw [hin]; rfl
      k_steps
      unfold Stop
      rw [in_one] at hin
      exact CBack.intro ⟨by rw [hits_of hc']; simpa using hin, c, u, hc', rfl⟩ (by assumption) N9 (fun _ hq => hq)
  · clear F9 N9
    intro ys hys D h tk F9 N9 off
    have hys := hys (Nat.le_refl _)
    rw [show T.cps.size = T.cps.toList.length from (Array.length_toList).symm, List.take_length, eT] at hys
    have h9 : ∀ c ∈ ins y.cps.toList (seg x.cps.toList p e), c < 128 := fun c hc => h5 c (List.mem_of_mem_drop (List.mem_of_mem_take (List.mem_filter.mp hc).1))
    have hln := hys.length
    rw [List.length_map] at hln
    have hlb : (ins y.cps.toList (seg x.cps.toList p e)).length ≤ e - p := by
      have h8 := List.length_filter_le (fun c => decide (c ∈ y.cps.toList)) (seg x.cps.toList p e)
      rw [← eT, len_toList, lT] at h8
      rw [← eT]; exact h8
    have hlc : ys.length ≤ 1000 := by omega
    have hld : (ins y.cps.toList (seg x.cps.toList p e)).length ≤ 1000 := by omega
    (try k_fold)
    cases hz : (T == Str.ofString "") with
    | true =>
      have hz3 : decide (e = p) = true := decide_eq_true (by rw [text_eq, decide_eq_true_eq] at hz; omega)
      k_steps
      have zhE : ((q : Int) == (p : Int)) = isPos p e q := by
        unfold isPos
        rw [hz3, Bool.true_and, Bool.eq_iff_iff, beq_iff_eq, decide_eq_true_eq]
        omega
      exact retV hret 0 (by assumption) (ends_drop (by assumption) (fun _ hq => by repeat (first | exact hq | refine List.mem_cons_of_mem _ ?_))) (congrArg Value.bool zhE)
    | false =>
      have hz3 : decide (e = p) = false := decide_eq_false (by rw [text_eq, decide_eq_false_iff_not] at hz; omega)
      k_steps
      have zhE : (T == Str.ofString "") = isPos p e q := by
        unfold isPos
        rw [hz3, Bool.false_and, hz]
      exact retV hret 0 (by assumption) (ends_drop (by assumption) (fun _ hq => by repeat (first | exact hq | refine List.mem_cons_of_mem _ ?_))) (congrArg Value.bool zhE)
theorem s_is_rpos (w : World) (x y : Str) (tx ty tk : Tok) (p e q : Nat) (ta te tm : Tok) (h1 : x.length ≤ 1000) (h2 : y.length ≤ 1000) (h3 : p ≤ e) (h4 : e ≤ x.length) (h5 : ∀ c ∈ x.cps.toList, c < 128) :
    SpecV w 197 [.str (Str.ofString "rpos") tk, .str x tx, .int p ta, .int e te, .str y ty, .int q tm] 10 (fun _ => .bool (isRpos x.length p e q)) := by
  have hl := len_toList x
  w_top off
  unfold SpecV
  k_fill
  intro dp un gd cn cs a ccd cl outer A₀ base h₀ L m news s mean mg mb Q E B F X N Tt hk hd hu hret
  refine wpAny_call ?_
  k_dflt (refine' code_defC ?k1 ?k2 ?k3 ?k4 ?k5 ?kA ?kF ?kK ?k6 ?k7 ?k8 ?k9 ?kB ?kD ?_ ?c2 ?c3 ?c4; (case kA => exact rfl); (case kF => exact rfl); (case kK => assumption); (case k1 => k_asm); (case k2 => k_asm); (case k3 => k_asm); (case k4 => k_asm); (case k5 => k_asm); (case k6 => k_is); (case k7 => k_is); (case k8 => ktr_room); (case k9 => exact BindsTo.of_eq rfl); (case kB => exact rfl); (case kD => decide +kernel); (case c2 => exact rfl); (case c3 => exact rfl); (case c4 => exact rfl); k_whole; intro g' L' h' tk' cells' FG' F' N' Y' B' X' T' l1; (try k_lt l1); k_cells Y'; (try simp only [List.cons_append, List.nil_append] at N'); (try dsimp only); (try k_lift B'); (try k_fold))
  k_steps
  unfold Stop
  rename Fr _ _ _ _ => F9
  rename News _ _ _ _ => N9
  k_dflt (refine assignCompS F9 (by rfl) (by with_unfolding_all rfl) (by with_unfolding_all rfl) (by decide) (by rfl) (by decide) (by rfl) (by rfl) (by rfl) ?_)
  k_steps
  unfold Stop
  have eT : (Txt.slice x (some (p : Int)) (some (e : Int))).cps.toList = seg x.cps.toList p e := slice_ss x (i := p) (j := e) (by omega) h3
  have eB : (Txt.slice x (some (e : Int)) (some ((e : Int) + 1))).cps.toList = (x.cps.toList.drop e).take 1 := by
    have := slice_ss x (i := e) (j := e + 1) h4 (Nat.le_succ _)
    rw [Nat.add_sub_cancel_left] at this
    exact this
  generalize hT : Txt.slice x (some (p : Int)) (some (e : Int)) = T at *
  generalize hB : Txt.slice x (some (e : Int)) (some ((e : Int) + 1)) = Bh at *
  have lT : T.length = e - p := by
    rw [← len_toList, eT]; unfold seg; rw [List.length_take, List.length_drop]; omega
  have lB : Bh.length = if e < x.length then 1 else 0 := by
    rw [← len_toList, eB, List.length_take, List.length_drop, hl]; split <;> omega
  obtain ⟨hB1, hB2, hB3⟩ := behind_in (y := y) eB
  refine SrcS.intro rfl F9 N9 (by show T.length ≤ _; rw [sizeLine_eq]; omega) fun g => ?_
  refine restT trivial (fun i => hits T.cps.toList y.cps.toList i) (fun i v => ∃ c t, T.cps.toList[i]? = some c ∧ v = .str ⟨#[c]⟩ t) (fun i ys => i ≤ T.length → StrsAre ys ((ins y.cps.toList (T.cps.toList.take i)).map fun n => (⟨#[n]⟩ : Str))) (fun _ => .nil) (fun i ys v g hp hv hi => ins_yes (g (by omega)) hp hv) (fun i ys g hp hi => ins_no (g (by omega)) (by rw [len_toList]; omega) hp) ?_ ?_
  · clear F9 N9
    intro i v I oI C oC D m₂ ys h tk E' hi hP hC hx F9 N9 off ne
    obtain ⟨c, u, hc, rfl⟩ := hP
    have hc' : T.cps.toList[i]? = some c := by simpa using hc
    cases hin : (occurrences y ⟨#[c]⟩ 0 y.length 1).isEmpty with
    | true =>
      have hin2 : (!(occurrences y ⟨#[c]⟩ 0 y.length 1).isEmpty) = false := by rw [hin]; rfl
      k_steps
      unfold Stop
      rw [in_one] at hin
      exact CBack.intro (by rw [hits_of hc']; simpa using hin) (by assumption) N9 (fun _ hq => hq)
    | false =>
      have hin2 : (!(occurrences y ⟨#[c]⟩ 0 y.length 1).isEmpty) = true := by rw [hin]; rfl
      k_steps
      unfold Stop
      rw [in_one] at hin
      exact CBack.intro ⟨by rw [hits_of hc']; simpa using hin, c, u, hc', rfl⟩ (by assumption) N9 (fun _ hq => hq)
  · clear F9 N9
    intro ys hys D h tk F9 N9 off
    have hys := hys (Nat.le_refl _)
    rw [show T.cps.size = T.cps.toList.length from (Array.length_toList).symm, List.take_length, eT] at hys
    have h9 : ∀ c ∈ ins y.cps.toList (seg x.cps.toList p e), c < 128 := fun c hc => h5 c (List.mem_of_mem_drop (List.mem_of_mem_take (List.mem_filter.mp hc).1))
    have hln := hys.length
    rw [List.length_map] at hln
    have hlb : (ins y.cps.toList (seg x.cps.toList p e)).length ≤ e - p := by
      have h8 := List.length_filter_le (fun c => decide (c ∈ y.cps.toList)) (seg x.cps.toList p e)
      rw [← eT, len_toList, lT] at h8
      rw [← eT]; exact h8
    have hlc : ys.length ≤ 1000 := by omega
    have hld : (ins y.cps.toList (seg x.cps.toList p e)).length ≤ 1000 := by omega
    (try k_fold)
    cases hz : (T == Str.ofString "") with
    | true =>
      have hz3 : decide (e = p) = true := decide_eq_true (by rw [text_eq, decide_eq_true_eq] at hz; omega)
      k_steps
      have zhE : ((q : Int) == (x.length : Int) - (p : Int)) = isRpos x.length p e q := by
        unfold isRpos
        rw [hz3, Bool.true_and, Bool.eq_iff_iff, beq_iff_eq, decide_eq_true_eq]
        omega
      exact retV hret 0 (by assumption) (ends_drop (by assumption) (fun _ hq => by repeat (first | exact hq | refine List.mem_cons_of_mem _ ?_))) (congrArg Value.bool zhE)
    | false =>
      have hz3 : decide (e = p) = false := decide_eq_false (by rw [text_eq, decide_eq_false_iff_not] at hz; omega)
      k_steps
      have zhE : (T == Str.ofString "") = isRpos x.length p e q := by
        unfold isRpos
        rw [hz3, Bool.false_and, hz]
      exact retV hret 0 (by assumption) (ends_drop (by assumption) (fun _ hq => by repeat (first | exact hq | refine List.mem_cons_of_mem _ ?_))) (congrArg Value.bool zhE)
theorem s_is_tab (w : World) (x y : Str) (tx ty tk : Tok) (p e q : Nat) (ta te tm : Tok) (h1 : x.length ≤ 1000) (h2 : y.length ≤ 1000) (h3 : p ≤ e) (h4 : e ≤ x.length) (h5 : ∀ c ∈ x.cps.toList, c < 128) :
    SpecV w 197 [.str (Str.ofString "tab") tk, .str x tx, .int p ta, .int e te, .str y ty, .int q tm] 10 (fun _ => .bool (isTab e q)) := by
  have hl := len_toList x
  w_top off
  unfold SpecV
  k_fill
  intro dp un gd cn cs a ccd cl outer A₀ base h₀ L m news s mean mg mb Q E B F X N Tt hk hd hu hret
  refine wpAny_call ?_
  k_dflt (refine' code_defC ?k1 ?k2 ?k3 ?k4 ?k5 ?kA ?kF ?kK ?k6 ?k7 ?k8 ?k9 ?kB ?kD ?_ ?c2 ?c3 ?c4; (case kA => exact rfl); (case kF => exact rfl); (case kK => assumption); (case k1 => k_asm); (case k2 => k_asm); (case k3 => k_asm); (case k4 => k_asm); (case k5 => k_asm); (case k6 => k_is); (case k7 => k_is); (case k8 => ktr_room); (case k9 => exact BindsTo.of_eq rfl); (case kB => exact rfl); (case kD => decide +kernel); (case c2 => exact rfl); (case c3 => exact rfl); (case c4 => exact rfl); k_whole; intro g' L' h' tk' cells' FG' F' N' Y' B' X' T' l1; (try k_lt l1); k_cells Y'; (try simp only [List.cons_append, List.nil_append] at N'); (try dsimp only); (try k_lift B'); (try k_fold))
  k_steps
  unfold Stop
  rename Fr _ _ _ _ => F9
  rename News _ _ _ _ => N9
  k_dflt (refine assignCompS F9 (by rfl) (by with_unfolding_all rfl) (by with_unfolding_all rfl) (by decide) (by rfl) (by decide) (by rfl) (by rfl) (by rfl) ?_)
  k_steps
  unfold Stop
  have eT : (Txt.slice x (some (p : Int)) (some (e : Int))).cps.toList = seg x.cps.toList p e := slice_ss x (i := p) (j := e) (by omega) h3
  have eB : (Txt.slice x (some (e : Int)) (some ((e : Int) + 1))).cps.toList = (x.cps.toList.drop e).take 1 := by
    have := slice_ss x (i := e) (j := e + 1) h4 (Nat.le_succ _)
    rw [Nat.add_sub_cancel_left] at this
    exact this
  generalize hT : Txt.slice x (some (p : Int)) (some (e : Int)) = T at *
  generalize hB : Txt.slice x (some (e : Int)) (some ((e : Int) + 1)) = Bh at *
  have lT : T.length = e - p := by
    rw [← len_toList, eT]; unfold seg; rw [List.length_take, List.length_drop]; omega
  have lB : Bh.length = if e < x.length then 1 else 0 := by
    rw [← len_toList, eB, List.length_take, List.length_drop, hl]; split <;> omega
  obtain ⟨hB1, hB2, hB3⟩ := behind_in (y := y) eB
  refine SrcS.intro rfl F9 N9 (by show T.length ≤ _; rw [sizeLine_eq]; omega) fun g => ?_
  refine restT trivial (fun i => hits T.cps.toList y.cps.toList i) (fun i v => ∃ c t, T.cps.toList[i]? = some c ∧ v = .str ⟨#[c]⟩ t) (fun i ys => i ≤ T.length → StrsAre ys ((ins y.cps.toList (T.cps.toList.take i)).map fun n => (⟨#[n]⟩ : Str))) (fun _ => .nil) (fun i ys v g hp hv hi => ins_yes (g (by omega)) hp hv) (fun i ys g hp hi => ins_no (g (by omega)) (by rw [len_toList]; omega) hp) ?_ ?_
  · clear F9 N9
    intro i v I oI C oC D m₂ ys h tk E' hi hP hC hx F9 N9 off ne
    obtain ⟨c, u, hc, rfl⟩ := hP
    have hc' : T.cps.toList[i]? = some c := by simpa using hc
    cases hin : (occurrences y ⟨#[c]⟩ 0 y.length 1).isEmpty with
    | true =>
      have hin2 : (!(occurrences y ⟨#[c]⟩ 0 y.length 1).isEmpty) = false := by rw [hin]; rfl
      k_steps
      unfold Stop
      rw [in_one] at hin
      exact CBack.intro (by rw [hits_of hc']; simpa using hin) (by assumption) N9 (fun _ hq => hq)
    | false =>
      have hin2 : (!(occurrences y ⟨#[c]⟩ 0 y.length 1).isEmpty) = true := by rw [hin]; rfl
      k_steps
      unfold Stop
      rw [in_one] at hin
      exact CBack.intro ⟨by rw [hits_of hc']; simpa using hin, c, u, hc', rfl⟩ (by assumption) N9 (fun _ hq => hq)
  · clear F9 N9
    intro ys hys D h tk F9 N9 off
    have hys := hys (Nat.le_refl _)
    rw [show T.cps.size = T.cps.toList.length from (Array.length_toList).symm, List.take_length, eT] at hys
    have h9 : ∀ c ∈ ins y.cps.toList (seg x.cps.toList p e), c < 128 := fun c hc => h5 c (List.mem_of_mem_drop (List.mem_of_mem_take (List.mem_filter.mp hc).1))
    have hln := hys.length
    rw [List.length_map] at hln
    have hlb : (ins y.cps.toList (seg x.cps.toList p e)).length ≤ e - p := by
      have h8 := List.length_filter_le (fun c => decide (c ∈ y.cps.toList)) (seg x.cps.toList p e)
      rw [← eT, len_toList, lT] at h8
      rw [← eT]; exact h8
    have hlc : ys.length ≤ 1000 := by omega
    have hld : (ins y.cps.toList (seg x.cps.toList p e)).length ≤ 1000 := by omega
    (try k_fold)
    k_steps
    have zhE : ((e : Int) == (q : Int)) = isTab e q := by
      unfold isTab
      rw [Bool.eq_iff_iff, beq_iff_eq, decide_eq_true_eq]
      omega
    exact retV hret 0 (by assumption) (ends_drop (by assumption) (fun _ hq => by repeat (first | exact hq | refine List.mem_cons_of_mem _ ?_))) (congrArg Value.bool zhE)
theorem s_is_rtab (w : World) (x y : Str) (tx ty tk : Tok) (p e q : Nat) (ta te tm : Tok) (h1 : x.length ≤ 1000) (h2 : y.length ≤ 1000) (h3 : p ≤ e) (h4 : e ≤ x.length) (h5 : ∀ c ∈ x.cps.toList, c < 128) :
    SpecV w 197 [.str (Str.ofString "rtab") tk, .str x tx, .int p ta, .int e te, .str y ty, .int q tm] 10 (fun _ => .bool (isRtab x.length e q)) := by
  have hl := len_toList x
  w_top off
  unfold SpecV
  k_fill
  intro dp un gd cn cs a ccd cl outer A₀ base h₀ L m news s mean mg mb Q E B F X N Tt hk hd hu hret
  refine wpAny_call ?_
  k_dflt (refine' code_defC ?k1 ?k2 ?k3 ?k4 ?k5 ?kA ?kF ?kK ?k6 ?k7 ?k8 ?k9 ?kB ?kD ?_ ?c2 ?c3 ?c4; (case kA => exact rfl); (case kF => exact rfl); (case kK => assumption); (case k1 => k_asm); (case k2 => k_asm); (case k3 => k_asm); (case k4 => k_asm); (case k5 => k_asm); (case k6 => k_is); (case k7 => k_is); (case k8 => ktr_room); (case k9 => exact BindsTo.of_eq rfl); (case kB => exact rfl); (case kD => decide +kernel); (case c2 => exact rfl); (case c3 => exact rfl); (case c4 => exact rfl); k_whole; intro g' L' h' tk' cells' FG' F' N' Y' B' X' T' l1; (try k_lt l1); k_cells Y'; (try simp only [List.cons_append, List.nil_append] at N'); (try dsimp only); (try k_lift B'); (try k_fold))
  k_steps
  unfold Stop
  rename Fr _ _ _ _ => F9
  rename News _ _ _ _ => N9
  k_dflt (refine assignCompS F9 (by rfl) (by with_unfolding_all rfl) (by with_unfolding_all rfl) (by decide) (by rfl) (by decide) (by rfl) (by rfl) (by rfl) ?_)
  k_steps
  unfold Stop
  have eT : (Txt.slice x (some (p : Int)) (some (e : Int))).cps.toList = seg x.cps.toList p e := slice_ss x (i := p) (j := e) (by omega) h3
  have eB : (Txt.slice x (some (e : Int)) (some ((e : Int) + 1))).cps.toList = (x.cps.toList.drop e).take 1 := by
    have := slice_ss x (i := e) (j := e + 1) h4 (Nat.le_succ _)
    rw [Nat.add_sub_cancel_left] at this
    exact this
  generalize hT : Txt.slice x (some (p : Int)) (some (e : Int)) = T at *
  generalize hB : Txt.slice x (some (e : Int)) (some ((e : Int) + 1)) = Bh at *
  have lT : T.length = e - p := by
    rw [← len_toList, eT]; unfold seg; rw [List.length_take, List.length_drop]; omega
  have lB : Bh.length = if e < x.length then 1 else 0 := by
    rw [← len_toList, eB, List.length_take, List.length_drop, hl]; split <;> omega
  obtain ⟨hB1, hB2, hB3⟩ := behind_in (y := y) eB
  refine SrcS.intro rfl F9 N9 (by show T.length ≤ _; rw [sizeLine_eq]; omega) fun g => ?_
  refine restT trivial (fun i => hits T.cps.toList y.cps.toList i) (fun i v => ∃ c t, T.cps.toList[i]? = some c ∧ v = .str ⟨#[c]⟩ t) (fun i ys => i ≤ T.length → StrsAre ys ((ins y.cps.toList (T.cps.toList.take i)).map fun n => (⟨#[n]⟩ : Str))) (fun _ => .nil) (fun i ys v g hp hv hi => ins_yes (g (by omega)) hp hv) (fun i ys g hp hi => ins_no (g (by omega)) (by rw [len_toList]; omega) hp) ?_ ?_
  · clear F9 N9
    intro i v I oI C oC D m₂ ys h tk E' hi hP hC hx F9 N9 off ne
    obtain ⟨c, u, hc, rfl⟩ := hP
    have hc' : T.cps.toList[i]? = some c := by simpa using hc
    cases hin : (occurrences y ⟨#[c]⟩ 0 y.length 1).isEmpty with
    | true =>
      have hin2 : (!(occurrences y ⟨#[c]⟩ 0 y.length 1).isEmpty) = false := by rw [hin]; rfl
      k_steps
      unfold Stop
      rw [in_one] at hin
      exact CBack.intro (by rw [hits_of hc']; simpa using hin) (by assumption) N9 (fun _ hq => hq)
    | false =>
      have hin2 : (!(occurrences y ⟨#[c]⟩ 0 y.length 1).isEmpty) = true := by rw [hin]; rfl
      k_steps
      unfold Stop
      rw [in_one] at hin
      exact CBack.intro ⟨by rw [hits_of hc']; simpa using hin, c, u, hc', rfl⟩ (by assumption) N9 (fun _ hq => hq)
  · clear F9 N9
    intro ys hys D h tk F9 N9 off
    have hys := hys (Nat.le_refl _)
    rw [show T.cps.size = T.cps.toList.length from (Array.length_toList).symm, List.take_length, eT] at hys
    have h9 : ∀ c ∈ ins y.cps.toList (seg x.cps.toList p e), c < 128 := fun c hc => h5 c (List.mem_of_mem_drop (List.mem_of_mem_take (List.mem_filter.mp hc).1))
    have hln := hys.length
    rw [List.length_map] at hln
    have hlb : (ins y.cps.toList (seg x.cps.toList p e)).length ≤ e - p := by
      have h8 := List.length_filter_le (fun c => decide (c ∈ y.cps.toList)) (seg x.cps.toList p e)
      rw [← eT, len_toList, lT] at h8
      rw [← eT]; exact h8
    have hlc : ys.length ≤ 1000 := by omega
    have hld : (ins y.cps.toList (seg x.cps.toList p e)).length ≤ 1000 := by omega
    (try k_fold)
    k_steps
    have zhE : ((e : Int) == (x.length : Int) - (q : Int)) = isRtab x.length e q := by
      unfold isRtab
      rw [Bool.eq_iff_iff, beq_iff_eq, decide_eq_true_eq]
      omega
    exact retV hret 0 (by assumption) (ends_drop (by assumption) (fun _ hq => by repeat (first | exact hq | refine List.mem_cons_of_mem _ ?_))) (congrArg Value.bool zhE)
theorem s_is_span (w : World) (x y : Str) (tx ty tk : Tok) (p e q : Nat) (ta te tm : Tok) (h1 : x.length ≤ 1000) (h2 : y.length ≤ 1000) (h3 : p ≤ e) (h4 : e ≤ x.length) (h5 : ∀ c ∈ x.cps.toList, c < 128) :
    SpecV w 197 [.str (Str.ofString "span") tk, .str x tx, .int p ta, .int e te, .str y ty, .int q tm] 10 (fun _ => .bool (isSpan x.cps.toList p e y.cps.toList)) := by
  have hl := len_toList x
  w_top off
  unfold SpecV
  k_fill
  intro dp un gd cn cs a ccd cl outer A₀ base h₀ L m news s mean mg mb Q E B F X N Tt hk hd hu hret
  refine wpAny_call ?_
  k_dflt (refine' code_defC ?k1 ?k2 ?k3 ?k4 ?k5 ?kA ?kF ?kK ?k6 ?k7 ?k8 ?k9 ?kB ?kD ?_ ?c2 ?c3 ?c4; (case kA => exact rfl); (case kF => exact rfl); (case kK => assumption); (case k1 => k_asm); (case k2 => k_asm); (case k3 => k_asm); (case k4 => k_asm); (case k5 => k_asm); (case k6 => k_is); (case k7 => k_is); (case k8 => ktr_room); (case k9 => exact BindsTo.of_eq rfl); (case kB => exact rfl); (case kD => decide +kernel); (case c2 => exact rfl); (case c3 => exact rfl); (case c4 => exact rfl); k_whole; intro g' L' h' tk' cells' FG' F' N' Y' B' X' T' l1; (try k_lt l1); k_cells Y'; (try simp only [List.cons_append, List.nil_append] at N'); (try dsimp only); (try k_lift B'); (try k_fold))
  k_steps
  unfold Stop
  rename Fr _ _ _ _ => F9
  rename News _ _ _ _ => N9
  k_dflt (refine assignCompS F9 (by rfl) (by with_unfolding_all rfl) (by with_unfolding_all rfl) (by decide) (by rfl) (by decide) (by rfl) (by rfl) (by rfl) ?_)
  k_steps
  unfold Stop
  have eT : (Txt.slice x (some (p : Int)) (some (e : Int))).cps.toList = seg x.cps.toList p e := slice_ss x (i := p) (j := e) (by omega) h3
  have eB : (Txt.slice x (some (e : Int)) (some ((e : Int) + 1))).cps.toList = (x.cps.toList.drop e).take 1 := by
    have := slice_ss x (i := e) (j := e + 1) h4 (Nat.le_succ _)
    rw [Nat.add_sub_cancel_left] at this
    exact this
  generalize hT : Txt.slice x (some (p : Int)) (some (e : Int)) = T at *
  generalize hB : Txt.slice x (some (e : Int)) (some ((e : Int) + 1)) = Bh at *
  have lT : T.length = e - p := by
    rw [← len_toList, eT]; unfold seg; rw [List.length_take, List.length_drop]; omega
  have lB : Bh.length = if e < x.length then 1 else 0 := by
    rw [← len_toList, eB, List.length_take, List.length_drop, hl]; split <;> omega
  obtain ⟨hB1, hB2, hB3⟩ := behind_in (y := y) eB
  refine SrcS.intro rfl F9 N9 (by show T.length ≤ _; rw [sizeLine_eq]; omega) fun g => ?_
  refine restT trivial (fun i => hits T.cps.toList y.cps.toList i) (fun i v => ∃ c t, T.cps.toList[i]? = some c ∧ v = .str ⟨#[c]⟩ t) (fun i ys => i ≤ T.length → StrsAre ys ((ins y.cps.toList (T.cps.toList.take i)).map fun n => (⟨#[n]⟩ : Str))) (fun _ => .nil) (fun i ys v g hp hv hi => ins_yes (g (by omega)) hp hv) (fun i ys g hp hi => ins_no (g (by omega)) (by rw [len_toList]; omega) hp) ?_ ?_
  · clear F9 N9
    intro i v I oI C oC D m₂ ys h tk E' hi hP hC hx F9 N9 off ne
    obtain ⟨c, u, hc, rfl⟩ := hP
    have hc' : T.cps.toList[i]? = some c := by simpa using hc
    cases hin : (occurrences y ⟨#[c]⟩ 0 y.length 1).isEmpty with
    | true =>
      have hin2 : (!(occurrences y ⟨#[c]⟩ 0 y.length 1).isEmpty) = false := by rw [hin]; rfl
      k_steps
      unfold Stop
      rw [in_one] at hin
      exact CBack.intro (by rw [hits_of hc']; simpa using hin) (by assumption) N9 (fun _ hq => hq)
    | false =>
      have hin2 : (!(occurrences y ⟨#[c]⟩ 0 y.length 1).isEmpty) = true := by rw [hin]; rfl
      k_steps
      unfold Stop
      rw [in_one] at hin
      exact CBack.intro ⟨by rw [hits_of hc']; simpa using hin, c, u, hc', rfl⟩ (by assumption) N9 (fun _ hq => hq)
  · clear F9 N9
    intro ys hys D h tk F9 N9 off
    have hys := hys (Nat.le_refl _)
    rw [show T.cps.size = T.cps.toList.length from (Array.length_toList).symm, List.take_length, eT] at hys
    have h9 : ∀ c ∈ ins y.cps.toList (seg x.cps.toList p e), c < 128 := fun c hc => h5 c (List.mem_of_mem_drop (List.mem_of_mem_take (List.mem_filter.mp hc).1))
    have hln := hys.length
    rw [List.length_map] at hln
    have hlb : (ins y.cps.toList (seg x.cps.toList p e)).length ≤ e - p := by
      have h8 := List.length_filter_le (fun c => decide (c ∈ y.cps.toList)) (seg x.cps.toList p e)
      rw [← eT, len_toList, lT] at h8
      rw [← eT]; exact h8
    have hlc : ys.length ≤ 1000 := by omega
    have hld : (ins y.cps.toList (seg x.cps.toList p e)).length ≤ 1000 := by omega
    (try k_fold)
    cases hz : (T != Str.ofString "") with
    | true =>
      have hz3 : decide (p < e) = true := decide_eq_true (by rw [text_ne, decide_eq_true_eq] at hz; omega)
      cases hl5 : (((ins y.cps.toList (seg x.cps.toList p e)).length : Int) == (T.length : Int)) with
      | true =>
        have hl6 : decide ((ins y.cps.toList (seg x.cps.toList p e)).length = e - p) = true := decide_eq_true (by rw [beq_iff_eq] at hl5; omega)
        cases hb5 : (Bh == Str.ofString "") with
        | true =>
          have hb6 : x.length ≤ e := by rw [hB1, decide_eq_true_eq] at hb5; exact hb5
          k_steps
          have zhE : (Bh == Str.ofString "") = isSpan x.cps.toList p e y.cps.toList := by
            unfold isSpan
            rw [hz3, hl6, hB3 hb6, hb5]; rfl
          exact retV hret 0 (by assumption) (ends_drop (by assumption) (fun _ hq => by repeat (first | exact hq | refine List.mem_cons_of_mem _ ?_))) (congrArg Value.bool zhE)
        | false =>
          have hb6 : e < x.length := by rw [hB1, decide_eq_false_iff_not] at hb5; omega
          k_steps
          have zhE : (!!(occurrences y Bh 0 y.length 1).isEmpty) = isSpan x.cps.toList p e y.cps.toList := by
            unfold isSpan
            rw [hz3, hl6, hB2 hb6, Bool.not_not]; rfl
          exact retV hret 0 (by assumption) (ends_drop (by assumption) (fun _ hq => by repeat (first | exact hq | refine List.mem_cons_of_mem _ ?_))) (congrArg Value.bool zhE)
      | false =>
        have hl6 : decide ((ins y.cps.toList (seg x.cps.toList p e)).length = e - p) = false := decide_eq_false (by rw [beq_eq_false_iff_ne] at hl5; omega)
        k_steps
        have zhE : (((ins y.cps.toList (seg x.cps.toList p e)).length : Int) == (T.length : Int)) = isSpan x.cps.toList p e y.cps.toList := by
          unfold isSpan
          rw [hz3, hl6, hl5]; rfl
        exact retV hret 0 (by assumption) (ends_drop (by assumption) (fun _ hq => by repeat (first | exact hq | refine List.mem_cons_of_mem _ ?_))) (congrArg Value.bool zhE)
    | false =>
      have hz3 : decide (p < e) = false := decide_eq_false (by rw [text_ne, decide_eq_false_iff_not] at hz; omega)
      k_steps
      have zhE : (T != Str.ofString "") = isSpan x.cps.toList p e y.cps.toList := by
        unfold isSpan
        rw [hz3, hz]; rfl
      exact retV hret 0 (by assumption) (ends_drop (by assumption) (fun _ hq => by repeat (first | exact hq | refine List.mem_cons_of_mem _ ?_))) (congrArg Value.bool zhE)
theorem s_is_break (w : World) (x y : Str) (tx ty tk : Tok) (p e q : Nat) (ta te tm : Tok) (h1 : x.length ≤ 1000) (h2 : y.length ≤ 1000) (h3 : p ≤ e) (h4 : e ≤ x.length) (h5 : ∀ c ∈ x.cps.toList, c < 128) :
    SpecV w 197 [.str (Str.ofString "break") tk, .str x tx, .int p ta, .int e te, .str y ty, .int q tm] 10 (fun _ => .bool (isBreak x.cps.toList p e y.cps.toList)) := by
  have hl := len_toList x
  w_top off
  unfold SpecV
  k_fill
  intro dp un gd cn cs a ccd cl outer A₀ base h₀ L m news s mean mg mb Q E B F X N Tt hk hd hu hret
  refine wpAny_call ?_
  k_dflt (refine' code_defC ?k1 ?k2 ?k3 ?k4 ?k5 ?kA ?kF ?kK ?k6 ?k7 ?k8 ?k9 ?kB ?kD ?_ ?c2 ?c3 ?c4; (case kA => exact rfl); (case kF => exact rfl); (case kK => assumption); (case k1 => k_asm); (case k2 => k_asm); (case k3 => k_asm); (case k4 => k_asm); (case k5 => k_asm); (case k6 => k_is); (case k7 => k_is); (case k8 => ktr_room); (case k9 => exact BindsTo.of_eq rfl); (case kB => exact rfl); (case kD => decide +kernel); (case c2 => exact rfl); (case c3 => exact rfl); (case c4 => exact rfl); k_whole; intro g' L' h' tk' cells' FG' F' N' Y' B' X' T' l1; (try k_lt l1); k_cells Y'; (try simp only [List.cons_append, List.nil_append] at N'); (try dsimp only); (try k_lift B'); (try k_fold))
  k_steps
  unfold Stop
  rename Fr _ _ _ _ => F9
  rename News _ _ _ _ => N9
  k_dflt (refine assignCompS F9 (by rfl) (by with_unfolding_all rfl) (by with_unfolding_all rfl) (by decide) (by rfl) (by decide) (by rfl) (by rfl) (by rfl) ?_)
  k_steps
  unfold Stop
  have eT : (Txt.slice x (some (p : Int)) (some (e : Int))).cps.toList = seg x.cps.toList p e := slice_ss x (i := p) (j := e) (by omega) h3
  have eB : (Txt.slice x (some (e : Int)) (some ((e : Int) + 1))).cps.toList = (x.cps.toList.drop e).take 1 := by
    have := slice_ss x (i := e) (j := e + 1) h4 (Nat.le_succ _)
    rw [Nat.add_sub_cancel_left] at this
    exact this
  generalize hT : Txt.slice x (some (p : Int)) (some (e : Int)) = T at *
  generalize hB : Txt.slice x (some (e : Int)) (some ((e : Int) + 1)) = Bh at *
  have lT : T.length = e - p := by
    rw [← len_toList, eT]; unfold seg; rw [List.length_take, List.length_drop]; omega
  have lB : Bh.length = if e < x.length then 1 else 0 := by
    rw [← len_toList, eB, List.length_take, List.length_drop, hl]; split <;> omega
  obtain ⟨hB1, hB2, hB3⟩ := behind_in (y := y) eB
  refine SrcS.intro rfl F9 N9 (by show T.length ≤ _; rw [sizeLine_eq]; omega) fun g => ?_
  refine restT trivial (fun i => hits T.cps.toList y.cps.toList i) (fun i v => ∃ c t, T.cps.toList[i]? = some c ∧ v = .str ⟨#[c]⟩ t) (fun i ys => i ≤ T.length → StrsAre ys ((ins y.cps.toList (T.cps.toList.take i)).map fun n => (⟨#[n]⟩ : Str))) (fun _ => .nil) (fun i ys v g hp hv hi => ins_yes (g (by omega)) hp hv) (fun i ys g hp hi => ins_no (g (by omega)) (by rw [len_toList]; omega) hp) ?_ ?_
  · clear F9 N9
    intro i v I oI C oC D m₂ ys h tk E' hi hP hC hx F9 N9 off ne
    obtain ⟨c, u, hc, rfl⟩ := hP
    have hc' : T.cps.toList[i]? = some c := by simpa using hc
    cases hin : (occurrences y ⟨#[c]⟩ 0 y.length 1).isEmpty with
    | true =>
      have hin2 : (!(occurrences y ⟨#[c]⟩ 0 y.length 1).isEmpty) = false := by rw [hin]; rfl
      k_steps
      unfold Stop
      rw [in_one] at hin
      exact CBack.intro (by rw [hits_of hc']; simpa using hin) (by assumption) N9 (fun _ hq => hq)
    | false =>
      have hin2 : (!(occurrences y ⟨#[c]⟩ 0 y.length 1).isEmpty) = true := by rw [hin]; rfl
      k_steps
      unfold Stop
      rw [in_one] at hin
      exact CBack.intro ⟨by rw [hits_of hc']; simpa using hin, c, u, hc', rfl⟩ (by assumption) N9 (fun _ hq => hq)
  · clear F9 N9
    intro ys hys D h tk F9 N9 off
    have hys := hys (Nat.le_refl _)
    rw [show T.cps.size = T.cps.toList.length from (Array.length_toList).symm, List.take_length, eT] at hys
    have h9 : ∀ c ∈ ins y.cps.toList (seg x.cps.toList p e), c < 128 := fun c hc => h5 c (List.mem_of_mem_drop (List.mem_of_mem_take (List.mem_filter.mp hc).1))
    have hln := hys.length
    rw [List.length_map] at hln
    have hlb : (ins y.cps.toList (seg x.cps.toList p e)).length ≤ e - p := by
      have h8 := List.length_filter_le (fun c => decide (c ∈ y.cps.toList)) (seg x.cps.toList p e)
      rw [← eT, len_toList, lT] at h8
      rw [← eT]; exact h8
    have hlc : ys.length ≤ 1000 := by omega
    have hld : (ins y.cps.toList (seg x.cps.toList p e)).length ≤ 1000 := by omega
    (try k_fold)
    cases hi5 : decide (ins y.cps.toList (seg x.cps.toList p e) = []) with
    | true =>
      have hi6 := of_decide_eq_true hi5
      cases hb5 : (Bh != Str.ofString "") with
      | true =>
        have hb7 : (Bh == Str.ofString "") = false := by
          cases h8 : (Bh == Str.ofString "") with
          | true => rw [bne, h8] at hb5; cases hb5
          | false => rfl
        have hb6 : e < x.length := by rw [hB1, decide_eq_false_iff_not] at hb7; omega
        k_steps
        have zhE : (!(occurrences y Bh 0 y.length 1).isEmpty) = isBreak x.cps.toList p e y.cps.toList := by
          unfold isBreak
          rw [hi5, hB2 hb6, Bool.not_not]; rfl
        exact retV hret 0 (by assumption) (ends_drop (by assumption) (fun _ hq => by repeat (first | exact hq | refine List.mem_cons_of_mem _ ?_))) (congrArg Value.bool zhE)
      | false =>
        have hb7 : (Bh == Str.ofString "") = true := by
          cases h8 : (Bh == Str.ofString "") with
          | true => rfl
          | false => rw [bne, h8] at hb5; cases hb5
        have hb6 : x.length ≤ e := by rw [hB1, decide_eq_true_eq] at hb7; exact hb7
        k_steps
        have zhE : (Bh != Str.ofString "") = isBreak x.cps.toList p e y.cps.toList := by
          unfold isBreak
          rw [hB3 hb6, hb5, Bool.and_false]
        exact retV hret 0 (by assumption) (ends_drop (by assumption) (fun _ hq => by repeat (first | exact hq | refine List.mem_cons_of_mem _ ?_))) (congrArg Value.bool zhE)
    | false =>
      have hi6 := of_decide_eq_false hi5
      k_steps
      have zhE : decide (ins y.cps.toList (seg x.cps.toList p e) = []) = isBreak x.cps.toList p e y.cps.toList := by
        unfold isBreak
        rw [hi5, Bool.false_and]
      exact retV hret 0 (by assumption) (ends_drop (by assumption) (fun _ hq => by repeat (first | exact hq | refine List.mem_cons_of_mem _ ?_))) (congrArg Value.bool zhE)
theorem s_is_bal (w : World) (x y : Str) (tx ty tk : Tok) (p e q : Nat) (ta te tm : Tok) (h1 : x.length ≤ 1000) (h2 : y.length ≤ 1000) (h3 : p ≤ e) (h4 : e ≤ x.length) (h5 : ∀ c ∈ x.cps.toList, c < 128) :
    SpecV w 197 [.str (Str.ofString "bal") tk, .str x tx, .int p ta, .int e te, .str y ty, .int q tm] 10 (fun _ => .bool (isBal x.cps.toList p e)) := by
  have hl := len_toList x
  w_top off
  unfold SpecV
  k_fill
  intro dp un gd cn cs a ccd cl outer A₀ base h₀ L m news s mean mg mb Q E B F X N Tt hk hd hu hret
  refine wpAny_call ?_
  k_dflt (refine' code_defC ?k1 ?k2 ?k3 ?k4 ?k5 ?kA ?kF ?kK ?k6 ?k7 ?k8 ?k9 ?kB ?kD ?_ ?c2 ?c3 ?c4; (case kA => exact rfl); (case kF => exact rfl); (case kK => assumption); (case k1 => k_asm); (case k2 => k_asm); (case k3 => k_asm); (case k4 => k_asm); (case k5 => k_asm); (case k6 => k_is); (case k7 => k_is); (case k8 => ktr_room); (case k9 => exact BindsTo.of_eq rfl); (case kB => exact rfl); (case kD => decide +kernel); (case c2 => exact rfl); (case c3 => exact rfl); (case c4 => exact rfl); k_whole; intro g' L' h' tk' cells' FG' F' N' Y' B' X' T' l1; (try k_lt l1); k_cells Y'; (try simp only [List.cons_append, List.nil_append] at N'); (try dsimp only); (try k_lift B'); (try k_fold))
  k_steps
  unfold Stop
  rename Fr _ _ _ _ => F9
  rename News _ _ _ _ => N9
  k_dflt (refine assignCompS F9 (by rfl) (by with_unfolding_all rfl) (by with_unfolding_all rfl) (by decide) (by rfl) (by decide) (by rfl) (by rfl) (by rfl) ?_)
  k_steps
  unfold Stop
  have eT : (Txt.slice x (some (p : Int)) (some (e : Int))).cps.toList = seg x.cps.toList p e := slice_ss x (i := p) (j := e) (by omega) h3
  have eB : (Txt.slice x (some (e : Int)) (some ((e : Int) + 1))).cps.toList = (x.cps.toList.drop e).take 1 := by
    have := slice_ss x (i := e) (j := e + 1) h4 (Nat.le_succ _)
    rw [Nat.add_sub_cancel_left] at this
    exact this
  generalize hT : Txt.slice x (some (p : Int)) (some (e : Int)) = T at *
  generalize hB : Txt.slice x (some (e : Int)) (some ((e : Int) + 1)) = Bh at *
  have lT : T.length = e - p := by
    rw [← len_toList, eT]; unfold seg; rw [List.length_take, List.length_drop]; omega
  have lB : Bh.length = if e < x.length then 1 else 0 := by
    rw [← len_toList, eB, List.length_take, List.length_drop, hl]; split <;> omega
  obtain ⟨hB1, hB2, hB3⟩ := behind_in (y := y) eB
  refine SrcS.intro rfl F9 N9 (by show T.length ≤ _; rw [sizeLine_eq]; omega) fun g => ?_
  refine restT trivial (fun i => hits T.cps.toList y.cps.toList i) (fun i v => ∃ c t, T.cps.toList[i]? = some c ∧ v = .str ⟨#[c]⟩ t) (fun i ys => i ≤ T.length → StrsAre ys ((ins y.cps.toList (T.cps.toList.take i)).map fun n => (⟨#[n]⟩ : Str))) (fun _ => .nil) (fun i ys v g hp hv hi => ins_yes (g (by omega)) hp hv) (fun i ys g hp hi => ins_no (g (by omega)) (by rw [len_toList]; omega) hp) ?_ ?_
  · clear F9 N9
    intro i v I oI C oC D m₂ ys h tk E' hi hP hC hx F9 N9 off ne
    obtain ⟨c, u, hc, rfl⟩ := hP
    have hc' : T.cps.toList[i]? = some c := by simpa using hc
    cases hin : (occurrences y ⟨#[c]⟩ 0 y.length 1).isEmpty with
    | true =>
      have hin2 : (!(occurrences y ⟨#[c]⟩ 0 y.length 1).isEmpty) = false := by rw [hin]; rfl
      k_steps
      unfold Stop
      rw [in_one] at hin
      exact CBack.intro (by rw [hits_of hc']; simpa using hin) (by assumption) N9 (fun _ hq => hq)
    | false =>
      have hin2 : (!(occurrences y ⟨#[c]⟩ 0 y.length 1).isEmpty) = true := by rw [hin]; rfl
      k_steps
      unfold Stop
      rw [in_one] at hin
      exact CBack.intro ⟨by rw [hits_of hc']; simpa using hin, c, u, hc', rfl⟩ (by assumption) N9 (fun _ hq => hq)
  · clear F9 N9
    intro ys hys D h tk F9 N9 off
    have hys := hys (Nat.le_refl _)
    rw [show T.cps.size = T.cps.toList.length from (Array.length_toList).symm, List.take_length, eT] at hys
    have h9 : ∀ c ∈ ins y.cps.toList (seg x.cps.toList p e), c < 128 := fun c hc => h5 c (List.mem_of_mem_drop (List.mem_of_mem_take (List.mem_filter.mp hc).1))
    have hln := hys.length
    rw [List.length_map] at hln
    have hlb : (ins y.cps.toList (seg x.cps.toList p e)).length ≤ e - p := by
      have h8 := List.length_filter_le (fun c => decide (c ∈ y.cps.toList)) (seg x.cps.toList p e)
      rw [← eT, len_toList, lT] at h8
      rw [← eT]; exact h8
    have hlc : ys.length ≤ 1000 := by omega
    have hld : (ins y.cps.toList (seg x.cps.toList p e)).length ≤ 1000 := by omega
    (try k_fold)
    cases hz : (T != Str.ofString "") with
    | true =>
      have hz3 : decide (p < e) = true := decide_eq_true (by rw [text_ne, decide_eq_true_eq] at hz; omega)
      k_steps
      have zhE : isBalGo 0 T.cps.toList = isBal x.cps.toList p e := by
        unfold isBal
        rw [hz3, eT]; rfl
      exact retV hret 0 (by assumption) (ends_drop (by assumption) (fun _ hq => by repeat (first | exact hq | refine List.mem_cons_of_mem _ ?_))) (congrArg Value.bool zhE)
    | false =>
      have hz3 : decide (p < e) = false := decide_eq_false (by rw [text_ne, decide_eq_false_iff_not] at hz; omega)
      k_steps
      have zhE : (T != Str.ofString "") = isBal x.cps.toList p e := by
        unfold isBal
        rw [hz3, hz]; rfl
      exact retV hret 0 (by assumption) (ends_drop (by assumption) (fun _ hq => by repeat (first | exact hq | refine List.mem_cons_of_mem _ ?_))) (congrArg Value.bool zhE)
theorem s_is_arb (w : World) (x y : Str) (tx ty tk : Tok) (p e q : Nat) (ta te tm : Tok) (h1 : x.length ≤ 1000) (h2 : y.length ≤ 1000) (h3 : p ≤ e) (h4 : e ≤ x.length) (h5 : ∀ c ∈ x.cps.toList, c < 128) :
    SpecV w 197 [.str (Str.ofString "arb") tk, .str x tx, .int p ta, .int e te, .str y ty, .int q tm] 10 (fun _ => .bool (true)) := by
  have hl := len_toList x
  w_top off
  unfold SpecV
  k_fill
  intro dp un gd cn cs a ccd cl outer A₀ base h₀ L m news s mean mg mb Q E B F X N Tt hk hd hu hret
  refine wpAny_call ?_
  k_dflt (refine' code_defC ?k1 ?k2 ?k3 ?k4 ?k5 ?kA ?kF ?kK ?k6 ?k7 ?k8 ?k9 ?kB ?kD ?_ ?c2 ?c3 ?c4; (case kA => exact rfl); (case kF => exact rfl); (case kK => assumption); (case k1 => k_asm); (case k2 => k_asm); (case k3 => k_asm); (case k4 => k_asm); (case k5 => k_asm); (case k6 => k_is); (case k7 => k_is); (case k8 => ktr_room); (case k9 => exact BindsTo.of_eq rfl); (case kB => exact rfl); (case kD => decide +kernel); (case c2 => exact rfl); (case c3 => exact rfl); (case c4 => exact rfl); k_whole; intro g' L' h' tk' cells' FG' F' N' Y' B' X' T' l1; (try k_lt l1); k_cells Y'; (try simp only [List.cons_append, List.nil_append] at N'); (try dsimp only); (try k_lift B'); (try k_fold))
  k_steps
  unfold Stop
  rename Fr _ _ _ _ => F9
  rename News _ _ _ _ => N9
  k_dflt (refine assignCompS F9 (by rfl) (by with_unfolding_all rfl) (by with_unfolding_all rfl) (by decide) (by rfl) (by decide) (by rfl) (by rfl) (by rfl) ?_)
  k_steps
  unfold Stop
  have eT : (Txt.slice x (some (p : Int)) (some (e : Int))).cps.toList = seg x.cps.toList p e := slice_ss x (i := p) (j := e) (by omega) h3
  have eB : (Txt.slice x (some (e : Int)) (some ((e : Int) + 1))).cps.toList = (x.cps.toList.drop e).take 1 := by
    have := slice_ss x (i := e) (j := e + 1) h4 (Nat.le_succ _)
    rw [Nat.add_sub_cancel_left] at this
    exact this
  generalize hT : Txt.slice x (some (p : Int)) (some (e : Int)) = T at *
  generalize hB : Txt.slice x (some (e : Int)) (some ((e : Int) + 1)) = Bh at *
  have lT : T.length = e - p := by
    rw [← len_toList, eT]; unfold seg; rw [List.length_take, List.length_drop]; omega
  have lB : Bh.length = if e < x.length then 1 else 0 := by
    rw [← len_toList, eB, List.length_take, List.length_drop, hl]; split <;> omega
  obtain ⟨hB1, hB2, hB3⟩ := behind_in (y := y) eB
  refine SrcS.intro rfl F9 N9 (by show T.length ≤ _; rw [sizeLine_eq]; omega) fun g => ?_
  refine restT trivial (fun i => hits T.cps.toList y.cps.toList i) (fun i v => ∃ c t, T.cps.toList[i]? = some c ∧ v = .str ⟨#[c]⟩ t) (fun i ys => i ≤ T.length → StrsAre ys ((ins y.cps.toList (T.cps.toList.take i)).map fun n => (⟨#[n]⟩ : Str))) (fun _ => .nil) (fun i ys v g hp hv hi => ins_yes (g (by omega)) hp hv) (fun i ys g hp hi => ins_no (g (by omega)) (by rw [len_toList]; omega) hp) ?_ ?_
  · clear F9 N9
    intro i v I oI C oC D m₂ ys h tk E' hi hP hC hx F9 N9 off ne
    obtain ⟨c, u, hc, rfl⟩ := hP
    have hc' : T.cps.toList[i]? = some c := by simpa using hc
    cases hin : (occurrences y ⟨#[c]⟩ 0 y.length 1).isEmpty with
    | true =>
      have hin2 : (!(occurrences y ⟨#[c]⟩ 0 y.length 1).isEmpty) = false := by rw [hin]; rfl
      k_steps
      unfold Stop
      rw [in_one] at hin
      exact CBack.intro (by rw [hits_of hc']; simpa using hin) (by assumption) N9 (fun _ hq => hq)
    | false =>
      have hin2 : (!(occurrences y ⟨#[c]⟩ 0 y.length 1).isEmpty) = true := by rw [hin]; rfl
      k_steps
      unfold Stop
      rw [in_one] at hin
      exact CBack.intro ⟨by rw [hits_of hc']; simpa using hin, c, u, hc', rfl⟩ (by assumption) N9 (fun _ hq => hq)
  · clear F9 N9
    intro ys hys D h tk F9 N9 off
    have hys := hys (Nat.le_refl _)
    rw [show T.cps.size = T.cps.toList.length from (Array.length_toList).symm, List.take_length, eT] at hys
    have h9 : ∀ c ∈ ins y.cps.toList (seg x.cps.toList p e), c < 128 := fun c hc => h5 c (List.mem_of_mem_drop (List.mem_of_mem_take (List.mem_filter.mp hc).1))
    have hln := hys.length
    rw [List.length_map] at hln
    have hlb : (ins y.cps.toList (seg x.cps.toList p e)).length ≤ e - p := by
      have h8 := List.length_filter_le (fun c => decide (c ∈ y.cps.toList)) (seg x.cps.toList p e)
      rw [← eT, len_toList, lT] at h8
      rw [← eT]; exact h8
    have hlc : ys.length ≤ 1000 := by omega
    have hld : (ins y.cps.toList (seg x.cps.toList p e)).length ≤ 1000 := by omega
    (try k_fold)
    k_steps
    have zhE : (Str.ofString "arb" == Str.ofString "arb") = true := by
      decide +kernel
    exact retV hret 0 (by assumption) (ends_drop (by assumption) (fun _ hq => by repeat (first | exact hq | refine List.mem_cons_of_mem _ ?_))) (congrArg Value.bool zhE)
theorem s_is_rem (w : World) (x y : Str) (tx ty tk : Tok) (p e q : Nat) (ta te tm : Tok) (h1 : x.length ≤ 1000) (h2 : y.length ≤ 1000) (h3 : p ≤ e) (h4 : e ≤ x.length) (h5 : ∀ c ∈ x.cps.toList, c < 128) :
    SpecV w 197 [.str (Str.ofString "rem") tk, .str x tx, .int p ta, .int e te, .str y ty, .int q tm] 10 (fun _ => .bool (isRem x.length e)) := by
  have hl := len_toList x
  w_top off
  unfold SpecV
  k_fill
  intro dp un gd cn cs a ccd cl outer A₀ base h₀ L m news s mean mg mb Q E B F X N Tt hk hd hu hret
  refine wpAny_call ?_
  k_dflt (refine' code_defC ?k1 ?k2 ?k3 ?k4 ?k5 ?kA ?kF ?kK ?k6 ?k7 ?k8 ?k9 ?kB ?kD ?_ ?c2 ?c3 ?c4; (case kA => exact rfl); (case kF => exact rfl); (case kK => assumption); (case k1 => k_asm); (case k2 => k_asm); (case k3 => k_asm); (case k4 => k_asm); (case k5 => k_asm); (case k6 => k_is); (case k7 => k_is); (case k8 => ktr_room); (case k9 => exact BindsTo.of_eq rfl); (case kB => exact rfl); (case kD => decide +kernel); (case c2 => exact rfl); (case c3 => exact rfl); (case c4 => exact rfl); k_whole; intro g' L' h' tk' cells' FG' F' N' Y' B' X' T' l1; (try k_lt l1); k_cells Y'; (try simp only [List.cons_append, List.nil_append] at N'); (try dsimp only); (try k_lift B'); (try k_fold))
  k_steps
  unfold Stop
  rename Fr _ _ _ _ => F9
  rename News _ _ _ _ => N9
  k_dflt (refine assignCompS F9 (by rfl) (by with_unfolding_all rfl) (by with_unfolding_all rfl) (by decide) (by rfl) (by decide) (by rfl) (by rfl) (by rfl) ?_)
  k_steps
  unfold Stop
  have eT : (Txt.slice x (some (p : Int)) (some (e : Int))).cps.toList = seg x.cps.toList p e := slice_ss x (i := p) (j := e) (by omega) h3
  have eB : (Txt.slice x (some (e : Int)) (some ((e : Int) + 1))).cps.toList = (x.cps.toList.drop e).take 1 := by
    have := slice_ss x (i := e) (j := e + 1) h4 (Nat.le_succ _)
    rw [Nat.add_sub_cancel_left] at this
    exact this
  generalize hT : Txt.slice x (some (p : Int)) (some (e : Int)) = T at *
  generalize hB : Txt.slice x (some (e : Int)) (some ((e : Int) + 1)) = Bh at *
  have lT : T.length = e - p := by
    rw [← len_toList, eT]; unfold seg; rw [List.length_take, List.length_drop]; omega
  have lB : Bh.length = if e < x.length then 1 else 0 := by
    rw [← len_toList, eB, List.length_take, List.length_drop, hl]; split <;> omega
  obtain ⟨hB1, hB2, hB3⟩ := behind_in (y := y) eB
  refine SrcS.intro rfl F9 N9 (by show T.length ≤ _; rw [sizeLine_eq]; omega) fun g => ?_
  refine restT trivial (fun i => hits T.cps.toList y.cps.toList i) (fun i v => ∃ c t, T.cps.toList[i]? = some c ∧ v = .str ⟨#[c]⟩ t) (fun i ys => i ≤ T.length → StrsAre ys ((ins y.cps.toList (T.cps.toList.take i)).map fun n => (⟨#[n]⟩ : Str))) (fun _ => .nil) (fun i ys v g hp hv hi => ins_yes (g (by omega)) hp hv) (fun i ys g hp hi => ins_no (g (by omega)) (by rw [len_toList]; omega) hp) ?_ ?_
  · clear F9 N9
    intro i v I oI C oC D m₂ ys h tk E' hi hP hC hx F9 N9 off ne
    obtain ⟨c, u, hc, rfl⟩ := hP
    have hc' : T.cps.toList[i]? = some c := by simpa using hc
    cases hin : (occurrences y ⟨#[c]⟩ 0 y.length 1).isEmpty with
    | true =>
      have hin2 : (!(occurrences y ⟨#[c]⟩ 0 y.length 1).isEmpty) = false := by rw [hin]; rfl
      k_steps
      unfold Stop
      rw [in_one] at hin
      exact CBack.intro (by rw [hits_of hc']; simpa using hin) (by assumption) N9 (fun _ hq => hq)
    | false =>
      have hin2 : (!(occurrences y ⟨#[c]⟩ 0 y.length 1).isEmpty) = true := by rw [hin]; rfl
      k_steps
      unfold Stop
      rw [in_one] at hin
      exact CBack.intro ⟨by rw [hits_of hc']; simpa using hin, c, u, hc', rfl⟩ (by assumption) N9 (fun _ hq => hq)
  · clear F9 N9
    intro ys hys D h tk F9 N9 off
    have hys := hys (Nat.le_refl _)
    rw [show T.cps.size = T.cps.toList.length from (Array.length_toList).symm, List.take_length, eT] at hys
    have h9 : ∀ c ∈ ins y.cps.toList (seg x.cps.toList p e), c < 128 := fun c hc => h5 c (List.mem_of_mem_drop (List.mem_of_mem_take (List.mem_filter.mp hc).1))
    have hln := hys.length
    rw [List.length_map] at hln
    have hlb : (ins y.cps.toList (seg x.cps.toList p e)).length ≤ e - p := by
      have h8 := List.length_filter_le (fun c => decide (c ∈ y.cps.toList)) (seg x.cps.toList p e)
      rw [← eT, len_toList, lT] at h8
      rw [← eT]; exact h8
    have hlc : ys.length ≤ 1000 := by omega
    have hld : (ins y.cps.toList (seg x.cps.toList p e)).length ≤ 1000 := by omega
    (try k_fold)
    k_steps
    have zhE : ((e : Int) == (x.length : Int)) = isRem x.length e := by
      unfold isRem
      rw [Bool.eq_iff_iff, beq_iff_eq, decide_eq_true_eq]
      omega
    exact retV hret 0 (by assumption) (ends_drop (by assumption) (fun _ hq => by repeat (first | exact hq | refine List.mem_cons_of_mem _ ?_))) (congrArg Value.bool zhE)
end
end Mine
namespace Mine
open PySem.Builtin PySem.Builtin.Str
set_option maxHeartbeats 4000000
def cntK : List Str := [Str.ofString "len", Str.ofString "pos", Str.ofString "rpos", Str.ofString "tab", Str.ofString "rtab"]
def sgnK : List Str := [Str.ofString "any", Str.ofString "notany", Str.ofString "span", Str.ofString "break"]
theorem s_takes_count (w : World) (K : Str) (tk : Tok) : SpecV w 161 [.str K tk] 1 (fun _ => .bool (cntK.any fun x => x == K)) := by
  w_top off
  unfold SpecV
  k_fill
  intro dp un gd cn cs a ccd cl outer A₀ base h₀ L m news s mean mg mb Q E B F X N T hk hd hu hret
  refine wpAny_call ?_
  k_dflt cell_enter
  k_steps
  exact retV hret 0 (by assumption) (ends_drop (by assumption) (fun _ hq => List.mem_cons_of_mem _ hq)) rfl
theorem s_takes_signs (w : World) (K : Str) (tk : Tok) : SpecV w 168 [.str K tk] 1 (fun _ => .bool (sgnK.any fun x => x == K)) := by
  w_top off
  unfold SpecV
  k_fill
  intro dp un gd cn cs a ccd cl outer A₀ base h₀ L m news s mean mg mb Q E B F X N T hk hd hu hret
  refine wpAny_call ?_
  k_dflt cell_enter
  k_steps
  exact retV hret 0 (by assumption) (ends_drop (by assumption) (fun _ hq => List.mem_cons_of_mem _ hq)) rfl
theorem s_replaced (w : World) (x y : Str) (tx ty : Tok) (p e : Nat) (tp te : Tok) (h1 : x.length ≤ 1000) (h2 : y.length ≤ 1000) (h4 : e ≤ x.length) :
    SpecV w 175 [.str x tx, .int p tp, .int e te, .str y ty] 1 (fun t => .str ⟨(x.cps.toList.take p ++ y.cps.toList ++ x.cps.toList.drop e).toArray⟩ t) := by
  w_top off
  unfold SpecV
  k_fill
  intro dp un gd cn cs a ccd cl outer A₀ base h₀ L m news s mean mg mb Q E B F X N T hk hd hu hret
  refine wpAny_call ?_
  k_dflt cell_enter
  k_steps
  exact retV hret _ (by assumption) (by assumption) (congrArg (fun z => Value.str z _) (str_ext (by rw [PySem.Str.cps_append, PySem.Str.cps_append, Array.toList_append, Array.toList_append, slice_ns, slice_sn x h4])))
end Mine
namespace Mine
open PySem.Builtin PySem.Builtin.Str
set_option maxHeartbeats 4000000

/-- a def over a tuple of the ledger's -/
@[reducible] def SpecN (w : World) (f b : Addr) (nv vs : List Value) (D : Nat) (R : Tok → Value) : Prop :=
  ∀ (dp un : Nat) (gd : Option (List Code)) (cn : Str) (cs : Scope) (a : Addr) (ccd : Value) (cl : List (Str × Addr)) (outer : List Env) (A₀ : Around) (base h₀ : Heap) (L : Addr) (m : Str → Option Value) (news : List (Addr × Obj)) (s : Shared) (mean : ExcName → Option Value) (mg mb : Str → Option Value) (Q E : Value → Shared → Prop),
    Below A₀ base outer h₀ → Fr h₀ L s.heap m → (hd.heap_39 w.params).In h₀ → News h₀ L s.heap ((b, { cls := .type "tuple", data := .seq nv.toArray }) :: news) → Top hd.view_39 (looseW hd.view_39 []) mean mg mb h₀ → cs.kind = .function →
    dp + D < recursionLimit → un + 8 * D < cLine →
    (∀ (t : Tok) (h' : Heap) (tk' : Nat), Fr h₀ L h' m → News h₀ L h' ((b, { cls := .type "tuple", data := .seq nv.toArray }) :: news) → Q (R t) { s with heap := h', toks := tk' }) →
    wpAny (model Challenge.rw_np0291_01.row.prog w) (ktrTop dp un gd cn cs L a ccd cl outer) (call (.ref f) (.ref b :: vs)) Q E s

section
local macro_rules | `(tactic| walk_at "ite") => `(tactic| (k_here; first | refine ite_t (by with_reducible assumption) ?_ | refine ite_f (by with_reducible assumption) ?_))
local macro_rules | `(tactic| walk_at "ite") => `(tactic| (k_closed; first | refine ite_t (by decide +kernel) ?_ | refine ite_f (by decide +kernel) ?_))
local macro_rules | `(tactic| walk_at "call ref") => `(tactic| (k_here; k_dflt ((refine useV (s_rem_end _ _ _ (by omega)) (ret := ?_)); intro _ _ _ _ _; (try dsimp only); (try k_fold))))
theorem s_plain_rem (w : World) (b : Addr) (x : Str) (tx tk : Tok) (gv : Value) (p : Nat) (ta : Tok) (h1 : x.length ≤ 1000) :
    SpecN w 147 b [.str (Str.ofString "rem") tk, gv] [.str x tx, .int p ta] 2 (fun t => .int x.length t) := by
  w_top off
  unfold SpecN
  k_fill
  intro dp un gd cn cs a ccd cl outer A₀ base h₀ L m news s mean mg mb Q E B F X N T hk hd hu hret
  refine wpAny_call ?_
  k_dflt cell_enter
  k_steps
  exact hret _ _ _ (by assumption) (by assumption)
end
section
local macro_rules | `(tactic| walk_at "zz") => `(tactic| fail "zz")
local macro_rules | `(tactic| walk_at "ite") => `(tactic| (k_here; first | refine ite_t (by with_reducible assumption) ?_ | refine ite_f (by with_reducible assumption) ?_))
local macro_rules | `(tactic| walk_at "ite") => `(tactic| (k_closed; first | refine ite_t (by decide +kernel) ?_ | refine ite_f (by decide +kernel) ?_))
local macro_rules | `(tactic| walk_at "call ref") => `(tactic| (k_here; k_dflt ((rename (∀ _, ∀ _, ∀ _, SpecV _ _ _ _ _) => hS9); (refine useV (hS9 _ _ _) (ret := ?_)); intro _ _ _ _ _; (try dsimp only); (try k_fold))))
theorem s_plain (w : World) (b : Addr) (x K : Str) (tx tk : Tok) (gv : Value) (p : Nat) (ta : Tok) (o : Option Nat) (hne : (K == Str.ofString "rem") = false)
    (S : ∀ tk tx ta, SpecV w 140 [.str K tk, .str x tx, .int p ta, gv] 3 (ovn o)) :
    SpecN w 147 b [.str K tk, gv] [.str x tx, .int p ta] 4 (ovn o) := by
  w_top off
  unfold SpecN
  k_fill
  intro dp un gd cn cs a ccd cl outer A₀ base h₀ L m news s mean mg mb Q E B F X N T hk hd hu hret
  refine wpAny_call ?_
  k_dflt cell_enter
  k_steps
  exact hret _ _ _ (by assumption) (by assumption)
end
end Mine
namespace Mine
def giv (c : Bool) (q : Nat) (y : Str) (t : Tok) : Value := match c with | true => .int (q : Int) t | false => .str y t
def balK : List Str := [Str.ofString "bal", Str.ofString "arb"]
structure KindOk (w : World) (x y : Str) (p q : Nat) (K : Str) (c g n : Bool) (f : Nat → Bool) : Prop where
  cnt : (cntK.any fun z => z == K) = c
  sgn : (sgnK.any fun z => z == K) = g
  nba : (balK.any fun z => z == K) = n
  is : ∀ tk tx ta te ty tm (e : Nat), p ≤ e → e ≤ x.length → SpecV w 197 [.str K tk, .str x tx, .int p ta, .int e te, .str y ty, .int q tm] 10 (fun _ => .bool (f e))
  ends : ∀ tk tx ta tg, SpecL w 154 [.str K tk, .str x tx, .int p ta, giv c q y tg] 5 ((List.range' p (x.length + 1 - p)).filter f)
  plain : n = false → ∀ b tk tx ta tg, SpecN w 147 b [.str K tk, giv c q y tg] [.str x tx, .int p ta] 5 (ovn ((List.range' p (x.length + 1 - p)).filter f).head?)
theorem SpecV.up {w : World} {f : Addr} {vs : List Value} {D D' : Nat} {R : Tok → Value} (S : SpecV w f vs D R) (h : D ≤ D') : SpecV w f vs D' R :=
  fun dp un gd cn cs a ccd cl outer A₀ base h₀ L m news s mean mg mb Q E B F X N T hk hd hu hret => S dp un gd cn cs a ccd cl outer A₀ base h₀ L m news s mean mg mb Q E B F X N T hk (by omega) (by omega) hret
theorem SpecL.up {w : World} {f : Addr} {vs : List Value} {D D' : Nat} {R : List Nat} (S : SpecL w f vs D R) (h : D ≤ D') : SpecL w f vs D' R :=
  fun dp un gd cn cs a ccd cl outer A₀ base h₀ L m news s mean mg mb Q E B F X N T hk hd hu hret => S dp un gd cn cs a ccd cl outer A₀ base h₀ L m news s mean mg mb Q E B F X N T hk (by omega) (by omega) hret
theorem SpecN.up {w : World} {f b : Addr} {nv vs : List Value} {D D' : Nat} {R : Tok → Value} (S : SpecN w f b nv vs D R) (h : D ≤ D') : SpecN w f b nv vs D' R :=
  fun dp un gd cn cs a ccd cl outer A₀ base h₀ L m news s mean mg mb Q E B F X N T hk hd hu hret => S dp un gd cn cs a ccd cl outer A₀ base h₀ L m news s mean mg mb Q E B F X N T hk (by omega) (by omega) hret
theorem head_opt (o : Option Nat) : o.toList.head? = o := by cases o <;> rfl
section
variable (w : World) (x y : Str) (p q : Nat) (h1 : x.length ≤ 1000) (h2 : y.length ≤ 1000) (h3 : p ≤ x.length) (h5 : ∀ c ∈ x.cps.toList, c < 128)
include h1 h2 h3 h5
theorem k_len : KindOk w x y p q (Str.ofString "len") true false false (fun e => isLen p e q) := by
  have hl := len_toList x
  have hw := law_len (n := x.length) (q := q) h3
  refine ⟨by decide +kernel, by decide +kernel, by decide +kernel, fun tk tx ta te ty tm e h6 h7 => s_is_len w x y tx ty tk p e q ta te tm h1 h2 h6 h7 h5, fun tk tx ta tg => ?_, fun hn b tk tx ta tg => ?_⟩
  · rw [hw]
    exact (s_ends_one w x (Str.ofString "len") tx tk (.int (q : Int) tg) p ta _ (by decide +kernel) (by decide +kernel) (by decide +kernel) (fun tk tx ta => (s_one_len w x tx tk p q ta tg h1 h3).up (by omega))).up (by omega)
  · rw [hw, head_opt]
    exact (s_plain w b x (Str.ofString "len") tx tk (.int (q : Int) tg) p ta _ (by decide +kernel) (fun tk tx ta => (s_one_len w x tx tk p q ta tg h1 h3).up (by omega))).up (by omega)
theorem k_pos : KindOk w x y p q (Str.ofString "pos") true false false (fun e => isPos p e q) := by
  have hl := len_toList x
  have hw := law_pos (n := x.length) (q := q) h3
  refine ⟨by decide +kernel, by decide +kernel, by decide +kernel, fun tk tx ta te ty tm e h6 h7 => s_is_pos w x y tx ty tk p e q ta te tm h1 h2 h6 h7 h5, fun tk tx ta tg => ?_, fun hn b tk tx ta tg => ?_⟩
  · rw [hw]
    exact (s_ends_one w x (Str.ofString "pos") tx tk (.int (q : Int) tg) p ta _ (by decide +kernel) (by decide +kernel) (by decide +kernel) (fun tk tx ta => (s_one_pos w x tx tk p q ta tg h1 h3).up (by omega))).up (by omega)
  · rw [hw, head_opt]
    exact (s_plain w b x (Str.ofString "pos") tx tk (.int (q : Int) tg) p ta _ (by decide +kernel) (fun tk tx ta => (s_one_pos w x tx tk p q ta tg h1 h3).up (by omega))).up (by omega)
theorem k_rpos : KindOk w x y p q (Str.ofString "rpos") true false false (fun e => isRpos x.length p e q) := by
  have hl := len_toList x
  have hw := law_rpos (n := x.length) (q := q) h3
  refine ⟨by decide +kernel, by decide +kernel, by decide +kernel, fun tk tx ta te ty tm e h6 h7 => s_is_rpos w x y tx ty tk p e q ta te tm h1 h2 h6 h7 h5, fun tk tx ta tg => ?_, fun hn b tk tx ta tg => ?_⟩
  · rw [hw]
    exact (s_ends_one w x (Str.ofString "rpos") tx tk (.int (q : Int) tg) p ta _ (by decide +kernel) (by decide +kernel) (by decide +kernel) (fun tk tx ta => (s_one_rpos w x tx tk p q ta tg h1 h3).up (by omega))).up (by omega)
  · rw [hw, head_opt]
    exact (s_plain w b x (Str.ofString "rpos") tx tk (.int (q : Int) tg) p ta _ (by decide +kernel) (fun tk tx ta => (s_one_rpos w x tx tk p q ta tg h1 h3).up (by omega))).up (by omega)
theorem k_tab : KindOk w x y p q (Str.ofString "tab") true false false (fun e => isTab e q) := by
  have hl := len_toList x
  have hw := law_tab (n := x.length) (q := q) h3
  refine ⟨by decide +kernel, by decide +kernel, by decide +kernel, fun tk tx ta te ty tm e h6 h7 => s_is_tab w x y tx ty tk p e q ta te tm h1 h2 h6 h7 h5, fun tk tx ta tg => ?_, fun hn b tk tx ta tg => ?_⟩
  · rw [hw]
    exact (s_ends_one w x (Str.ofString "tab") tx tk (.int (q : Int) tg) p ta _ (by decide +kernel) (by decide +kernel) (by decide +kernel) (fun tk tx ta => (s_one_tab w x tx tk p q ta tg h1 h3).up (by omega))).up (by omega)
  · rw [hw, head_opt]
    exact (s_plain w b x (Str.ofString "tab") tx tk (.int (q : Int) tg) p ta _ (by decide +kernel) (fun tk tx ta => (s_one_tab w x tx tk p q ta tg h1 h3).up (by omega))).up (by omega)
theorem k_rtab : KindOk w x y p q (Str.ofString "rtab") true false false (fun e => isRtab x.length e q) := by
  have hl := len_toList x
  have hw := law_rtab (n := x.length) (q := q) h3
  refine ⟨by decide +kernel, by decide +kernel, by decide +kernel, fun tk tx ta te ty tm e h6 h7 => s_is_rtab w x y tx ty tk p e q ta te tm h1 h2 h6 h7 h5, fun tk tx ta tg => ?_, fun hn b tk tx ta tg => ?_⟩
  · rw [hw]
    exact (s_ends_one w x (Str.ofString "rtab") tx tk (.int (q : Int) tg) p ta _ (by decide +kernel) (by decide +kernel) (by decide +kernel) (fun tk tx ta => (s_one_rtab w x tx tk p q ta tg h1 h3).up (by omega))).up (by omega)
  · rw [hw, head_opt]
    exact (s_plain w b x (Str.ofString "rtab") tx tk (.int (q : Int) tg) p ta _ (by decide +kernel) (fun tk tx ta => (s_one_rtab w x tx tk p q ta tg h1 h3).up (by omega))).up (by omega)
theorem k_any : KindOk w x y p q (Str.ofString "any") false true false (fun e => isAny x.cps.toList p e y.cps.toList) := by
  have hl := len_toList x
  have hw := law_any (l := x.cps.toList) (y := y.cps.toList) (p := p) (by omega)
  rw [hl] at hw
  refine ⟨by decide +kernel, by decide +kernel, by decide +kernel, fun tk tx ta te ty tm e h6 h7 => s_is_any w x y tx ty tk p e q ta te tm h1 h2 h6 h7 h5, fun tk tx ta tg => ?_, fun hn b tk tx ta tg => ?_⟩
  · rw [hw]
    exact (s_ends_one w x (Str.ofString "any") tx tk (.str y tg) p ta _ (by decide +kernel) (by decide +kernel) (by decide +kernel) (fun tk tx ta => (s_one_any w x y tx tg tk p ta h1 h2 h3).up (by omega))).up (by omega)
  · rw [hw, head_opt]
    exact (s_plain w b x (Str.ofString "any") tx tk (.str y tg) p ta _ (by decide +kernel) (fun tk tx ta => (s_one_any w x y tx tg tk p ta h1 h2 h3).up (by omega))).up (by omega)
theorem k_notany : KindOk w x y p q (Str.ofString "notany") false true false (fun e => isNot x.cps.toList p e y.cps.toList) := by
  have hl := len_toList x
  have hw := law_notany (l := x.cps.toList) (y := y.cps.toList) (p := p) (by omega)
  rw [hl] at hw
  refine ⟨by decide +kernel, by decide +kernel, by decide +kernel, fun tk tx ta te ty tm e h6 h7 => s_is_notany w x y tx ty tk p e q ta te tm h1 h2 h6 h7 h5, fun tk tx ta tg => ?_, fun hn b tk tx ta tg => ?_⟩
  · rw [hw]
    exact (s_ends_one w x (Str.ofString "notany") tx tk (.str y tg) p ta _ (by decide +kernel) (by decide +kernel) (by decide +kernel) (fun tk tx ta => (s_one_notany w x y tx tg tk p ta h1 h2 h3).up (by omega))).up (by omega)
  · rw [hw, head_opt]
    exact (s_plain w b x (Str.ofString "notany") tx tk (.str y tg) p ta _ (by decide +kernel) (fun tk tx ta => (s_one_notany w x y tx tg tk p ta h1 h2 h3).up (by omega))).up (by omega)
theorem k_span : KindOk w x y p q (Str.ofString "span") false true false (fun e => isSpan x.cps.toList p e y.cps.toList) := by
  have hl := len_toList x
  have hw := law_span (l := x.cps.toList) (y := y.cps.toList) (p := p) (by omega)
  rw [hl] at hw
  refine ⟨by decide +kernel, by decide +kernel, by decide +kernel, fun tk tx ta te ty tm e h6 h7 => s_is_span w x y tx ty tk p e q ta te tm h1 h2 h6 h7 h5, fun tk tx ta tg => ?_, fun hn b tk tx ta tg => ?_⟩
  · rw [hw]
    exact (s_ends_one w x (Str.ofString "span") tx tk (.str y tg) p ta _ (by decide +kernel) (by decide +kernel) (by decide +kernel) (fun tk tx ta => (s_one_span w x y tx tg tk p ta h1 h2 h3).up (by omega))).up (by omega)
  · rw [hw, head_opt]
    exact (s_plain w b x (Str.ofString "span") tx tk (.str y tg) p ta _ (by decide +kernel) (fun tk tx ta => (s_one_span w x y tx tg tk p ta h1 h2 h3).up (by omega))).up (by omega)
theorem k_break : KindOk w x y p q (Str.ofString "break") false true false (fun e => isBreak x.cps.toList p e y.cps.toList) := by
  have hl := len_toList x
  have hw := law_break (l := x.cps.toList) (y := y.cps.toList) (p := p) (by omega)
  rw [hl] at hw
  refine ⟨by decide +kernel, by decide +kernel, by decide +kernel, fun tk tx ta te ty tm e h6 h7 => s_is_break w x y tx ty tk p e q ta te tm h1 h2 h6 h7 h5, fun tk tx ta tg => ?_, fun hn b tk tx ta tg => ?_⟩
  · rw [hw]
    exact (s_ends_one w x (Str.ofString "break") tx tk (.str y tg) p ta _ (by decide +kernel) (by decide +kernel) (by decide +kernel) (fun tk tx ta => (s_one_break w x y tx tg tk p ta h1 h2 h3).up (by omega))).up (by omega)
  · rw [hw, head_opt]
    exact (s_plain w b x (Str.ofString "break") tx tk (.str y tg) p ta _ (by decide +kernel) (fun tk tx ta => (s_one_break w x y tx tg tk p ta h1 h2 h3).up (by omega))).up (by omega)
theorem k_bal : KindOk w x y p q (Str.ofString "bal") false false true (fun e => isBal x.cps.toList p e) := by
  have hl := len_toList x
  have hw := law_bal (l := x.cps.toList) (p := p) (by omega)
  rw [hl] at hw
  refine ⟨by decide +kernel, by decide +kernel, by decide +kernel, fun tk tx ta te ty tm e h6 h7 => s_is_bal w x y tx ty tk p e q ta te tm h1 h2 h6 h7 h5, fun tk tx ta tg => ?_, fun hn b tk tx ta tg => ?_⟩
  · rw [hw]
    exact (s_ends_bal w x tx tk (.str y tg) p ta h1 h3).up (by omega)
  · cases hn
theorem k_arb : KindOk w x y p q (Str.ofString "arb") false false true (fun e => true) := by
  have hl := len_toList x
  have hw := law_arb (n := x.length) (p := p)
  refine ⟨by decide +kernel, by decide +kernel, by decide +kernel, fun tk tx ta te ty tm e h6 h7 => s_is_arb w x y tx ty tk p e q ta te tm h1 h2 h6 h7 h5, fun tk tx ta tg => ?_, fun hn b tk tx ta tg => ?_⟩
  · rw [hw]
    exact (s_ends_arb w x tx tk (.str y tg) p ta h1 h3).up (by omega)
  · cases hn
theorem k_rem : KindOk w x y p q (Str.ofString "rem") false false false (fun e => isRem x.length e) := by
  have hl := len_toList x
  have hw := law_rem (n := x.length) h3
  refine ⟨by decide +kernel, by decide +kernel, by decide +kernel, fun tk tx ta te ty tm e h6 h7 => s_is_rem w x y tx ty tk p e q ta te tm h1 h2 h6 h7 h5, fun tk tx ta tg => ?_, fun hn b tk tx ta tg => ?_⟩
  · rw [hw]
    exact (s_ends_rem w x tx tk (.str y tg) p ta h1 h3).up (by omega)
  · rw [hw]
    exact (s_plain_rem w b x tx tk (.str y tg) p ta h1).up (by omega)
end
def kinds : List Str := [Str.ofString "len", Str.ofString "pos", Str.ofString "rpos", Str.ofString "tab", Str.ofString "rtab", Str.ofString "any", Str.ofString "notany", Str.ofString "span", Str.ofString "break", Str.ofString "bal", Str.ofString "arb", Str.ofString "rem"]
theorem kinds_ok (w : World) (x y : Str) (p q : Nat) (h1 : x.length ≤ 1000) (h2 : y.length ≤ 1000) (h3 : p ≤ x.length) (h5 : ∀ c ∈ x.cps.toList, c < 128) : ∀ K ∈ kinds, ∃ c g n f, KindOk w x y p q K c g n f := by
  intro K hK
  simp only [kinds, List.mem_cons, List.not_mem_nil, or_false] at hK
  rcases hK with rfl | rfl | rfl | rfl | rfl | rfl | rfl | rfl | rfl | rfl | rfl | rfl
  · exact ⟨_, _, _, _, k_len w x y p q h1 h2 h3 h5⟩
  · exact ⟨_, _, _, _, k_pos w x y p q h1 h2 h3 h5⟩
  · exact ⟨_, _, _, _, k_rpos w x y p q h1 h2 h3 h5⟩
  · exact ⟨_, _, _, _, k_tab w x y p q h1 h2 h3 h5⟩
  · exact ⟨_, _, _, _, k_rtab w x y p q h1 h2 h3 h5⟩
  · exact ⟨_, _, _, _, k_any w x y p q h1 h2 h3 h5⟩
  · exact ⟨_, _, _, _, k_notany w x y p q h1 h2 h3 h5⟩
  · exact ⟨_, _, _, _, k_span w x y p q h1 h2 h3 h5⟩
  · exact ⟨_, _, _, _, k_break w x y p q h1 h2 h3 h5⟩
  · exact ⟨_, _, _, _, k_bal w x y p q h1 h2 h3 h5⟩
  · exact ⟨_, _, _, _, k_arb w x y p q h1 h2 h3 h5⟩
  · exact ⟨_, _, _, _, k_rem w x y p q h1 h2 h3 h5⟩
end Mine
namespace Mine
open PySem.Builtin PySem.Builtin.Str

/-! ### a loop over a tuple whose name is a cell -/
def CPost {σ : Type} (h₀ : Heap) (L : Addr) (s : Shared) (fr : σ → Str → Option Value) (nx own : List (Addr × Obj)) (I : σ → Prop) (Q : Flow → Shared → Prop) (f : Flow) (s₂ : Shared) : Prop :=
  match f with
  | .ret v => Q (.ret v) s₂
  | .brk => Q .next s₂
  | _ => ∃ (c' : σ) (h' : Heap) (tk : Nat), s₂ = { s with heap := h', toks := tk } ∧ Fr h₀ L h' (fr c') ∧ News h₀ L h' (nx ++ own) ∧ I c'
theorem CPost.ret {σ : Type} {h₀ : Heap} {L : Addr} {s s₂ : Shared} {fr : σ → Str → Option Value} {nx own : List (Addr × Obj)} {I : σ → Prop} {Q : Flow → Shared → Prop} {v : Value} (h : Q (.ret v) s₂) : CPost h₀ L s fr nx own I Q (.ret v) s₂ := h
theorem CPost.on {σ : Type} {h₀ : Heap} {L : Addr} {s : Shared} {fr : σ → Str → Option Value} {nx own news' : List (Addr × Obj)} {I : σ → Prop} {Q : Flow → Shared → Prop} {h' : Heap} {tk : Nat} {m' : Str → Option Value} (c' : σ)
    (F : Fr h₀ L h' m') (N : News h₀ L h' news') (e1 : m' = fr c') (hn : ∀ p ∈ nx ++ own, p ∈ news') (hI : I c') : CPost h₀ L s fr nx own I Q .next { s with heap := h', toks := tk } :=
  ⟨c', h', tk, rfl, e1 ▸ F, fun p hp => N p (hn p hp), hI⟩

section
variable {prog : Program} {w : World} {A : Around} {E : Value → Shared → Prop} {Q : Flow → Shared → Prop} {s : Shared} {env : Env} {h₀ : Heap} {x : Str} {px : Pos} {body : List Stmt}
theorem turnsTupC {σ : Type} {ax cK : Addr} {its : Array Value} {o₀ : Obj} {v₀ : Option Value} {m₀ : Str → Option Value} {led : Obj → List (Addr × Obj)} {nws : List (Addr × Obj)} (hh : A.handled = none) (ht : s.heap.IsTuple ax its)
    (F : Fr h₀ env.locals s.heap m₀) (N : News h₀ env.locals s.heap nws) (hz : nws = led o₀) (hd₀ : o₀.data = .cell v₀) (hm : ∀ o, (cK, o) ∈ led o) (hup : ∀ o o' p, p ∈ led o' → p = (cK, o') ∨ (p ∈ led o ∧ @Ne Nat p.1 cK))
    (hk : env.scope.kind = .function) (hx : env.kindOf x = some .cell) (hc : env.cells.lookup x = some cK)
    (fr : (Str → Option Value) → σ → Str → Option Value) (I : Nat → σ → Prop) (c₀ : σ) (e1 : m₀ = fr m₀ c₀) (hI : I 0 c₀)
    (turn : ∀ (i : Nat) v o c h tk own, its[i]? = some v → o.data = .cell (some v) → I i c → Fr h₀ env.locals h (fr m₀ c) → News h₀ env.locals h (led o ++ own) →
      wpAny (model prog w) A (execs body env) (CPost h₀ env.locals { s with heap := h, toks := tk } (fr m₀) (led o) own (I (i + 1)) Q) E { s with heap := h, toks := tk })
    (done : ∀ o v c h tk, o.data = .cell v → I its.size c → Fr h₀ env.locals h (fr m₀ c) → News h₀ env.locals h (led o) → Q .next { s with heap := h, toks := tk }) :
    wpAny (model prog w) A (pyIter (.ref ax)) (fun it s₂ => TurnsAt prog w A h₀ env (.Name x px) body Q E it s₂) E s := by
  subst hz
  refine wpAny_pyIter_tuple ht ?_
  have hlt : ax < s.heap.objs.size := by obtain ⟨_, e, _⟩ := ht; exact Heap.lt_size e
  have hcl : cK < s.heap.objs.size := Heap.lt_size (N _ (hm o₀)).1
  have W := Walks.tuple (prog := prog) (w := w) hh s.heap.objs.size ax (Nat.ne_of_lt hlt) its
  refine ⟨_, _, _, its.size, _, _, _, m₀, led o₀, (fun i m nx => ∃ o v c, nx = led o ∧ o.data = .cell v ∧ m = fr m₀ c ∧ I i c), rfl, KTurns.ofWalks W (fun i v s' Q' E' _ q => ?_), ?_, ?_, ?_, ⟨⟨_, Heap.get?_push_size _ rfl, rfl, rfl⟩, ?_⟩, F.push _, (fun p hp => ⟨Heap.get?_push_of_some _ (N p hp).1, (N p hp).2⟩), ⟨o₀, v₀, c₀, rfl, hd₀, e1, hI⟩, ?_, ?_⟩
  · exact wpAny_pure q
  · intro hm'
    have hL := F.ns.lt
    rcases List.mem_cons.mp hm' with e | e
    · exact absurd hL (e ▸ Nat.lt_irrefl _)
    · have e' : env.locals = ax := List.mem_singleton.mp e
      obtain ⟨oL, a1, a2, hoL, hLd, _⟩ := F.ns
      obtain ⟨oT, b1, b2, n, b3⟩ := ht
      rw [← e', hoL] at b1
      cases b1
      rw [b3] at hLd
      cases hLd
  · intro b' hb
    rw [List.mem_singleton.mp hb]
    exact next_is_new F
  · intro p hp hI'
    exact absurd (Heap.lt_size (N p hp).1) ((List.mem_singleton.mp hI') ▸ Nat.lt_irrefl _)
  · obtain ⟨oT, b1, b2⟩ := ht
    exact ⟨oT, Heap.get?_push_of_some _ b1, b2⟩
  · rintro i v m₁ nx h₁ tk₁ own hi hv ⟨o, vo, c, rfl, hdo, rfl, hI'⟩ hoff hown hget _ hst F₁ N₁
    have hg := (N₁ (cK, o) (List.mem_append_right _ (hm o)))
    refine wpAny_assign_Name (wpAny_storeName_cell hk hx hc ⟨o, hg.1, hdo⟩ (fun h₂ hv₂ hs₂ => ?_))
    obtain ⟨o', ho', hd'⟩ := hv₂
    have F₂ : Fr h₀ env.locals h₂ (fr m₀ c) := F₁.change hs₂ hg.2.1 hg.2.2
    have off : ∀ p ∈ own, @Ne Nat p.1 cK := fun p hp e => by
      rcases List.mem_cons.mp (hown p hp) with e2 | e2
      · exact absurd hcl ((e.symm.trans e2 : cK = s.heap.objs.size) ▸ Nat.lt_irrefl _)
      · have e3 : cK = ax := e.symm.trans (List.mem_singleton.mp e2)
        obtain ⟨oT, b1, b2, n, b3⟩ := hst.2
        rw [← e3, hg.1] at b1
        cases b1
        rw [hdo] at b3
        cases b3
    have N₂ : News h₀ env.locals h₂ (led o' ++ own) := fun p hp => by
      rcases List.mem_append.mp hp with hp | hp
      · rcases hup o o' p hp with rfl | ⟨h3, h4⟩
        · exact ⟨ho', hg.2⟩
        · have z := N₁ p (List.mem_append_right _ h3)
          exact ⟨(hs₂.2 _ h4).trans z.1, z.2⟩
      · have z := N₁ p (List.mem_append_left _ hp)
        exact ⟨(hs₂.2 _ (off p hp)).trans z.1, z.2⟩
    refine wpAny_mono (turn i v o' c h₂ tk₁ own hv hd' hI' F₂ N₂) (fun f s₂ p => ?_) fun _ _ e => e
    have hoff' : ∀ p ∈ led o', p.1 ∉ [s.heap.objs.size] := fun p hp => by
      rcases hup o o' p hp with rfl | ⟨h3, h4⟩
      · intro h5
        have := List.mem_singleton.mp h5
        exact absurd hcl (this ▸ Nat.lt_irrefl _)
      · exact hoff p h3
    have fin : (∃ (c' : σ) (h' : Heap) (tk' : Nat), s₂ = { s with heap := h', toks := tk' } ∧ Fr h₀ env.locals h' (fr m₀ c') ∧ News h₀ env.locals h' (led o' ++ own) ∧ I (i + 1) c') →
        LoopStepU h₀ env.locals [s.heap.objs.size] own (fun m nx' => ∃ o v c, nx' = led o ∧ o.data = .cell v ∧ m = fr m₀ c ∧ I (i + 1) c) { s with heap := h₁, toks := tk₁ } .next s₂ := by
      rintro ⟨c', h', tk', rfl, F', N', hI9⟩
      exact ⟨rfl, h', tk', _, led o', rfl, F', fun p hp => N' p ((List.mem_append.mp hp).elim (fun h => List.mem_append.mpr (.inr h)) fun h => List.mem_append.mpr (.inl h)), hoff', o', _, c', rfl, hd', rfl, hI9⟩
    cases f with
    | ret v => exact .ret p
    | brk => exact .brk p
    | next => exact .next (fin p)
    | cont => exact .cont (fin p)
  · rintro h' tk m₁ nx F₁ N₁ _ ⟨o, v, c, rfl, hdo, rfl, hI'⟩
    exact done o v c h' tk hdo hI' F₁ N₁
end
end Mine
namespace Mine
open PySem.Builtin PySem.Builtin.Str
set_option maxHeartbeats 4000000
structure Seal (P : Prop) : Prop where
  out : P
theorem For_turnsS {prog : Program} {w : World} {A : Around} {E : Value → Shared → Prop} {s : Shared} {env : Env} {h₀ : Heap} {target : Expr} {body : List Stmt} {Q : Flow → Shared → Prop} {iter : Expr} {pos : Pos} {m : Str → Option Value} (F : Fr h₀ env.locals s.heap m)
    (h : wpAny (model prog w) A (eval iter env) (fun xv s₁ => wpAny (model prog w) A (pyIter xv) (fun it s₂ => TurnsAt prog w A h₀ env target body Q E it s₂) E s₁) E s)
    (hs : ∀ x, foldedSetIterable iter env x = pure x := by intro _; rfl)
    (hE : PassesOwn (model prog w) A env E := by passes_own) :
    Seal (wpAny (model prog w) A (exec (.For target iter body [] pos) env) Q E s) := ⟨For_turns F h hs hE⟩
theorem ite_on {b : Bool} {P Q : Prop} (h : b = true → P) (g : b = false → Q) : if b = true then P else Q := by
  cases b with
  | true => exact h rfl
  | false => exact g rfl

theorem useN {w : World} {f b : Addr} {nv vs : List Value} {D : Nat} {R : Tok → Value} (S : SpecN w f b nv vs D R)
    {dp un : Nat} {gd : Option (List Code)} {cn : Str} {cs : Scope} {a : Addr} {ccd : Value} {cl : List (Str × Addr)} {outer : List Env} {A₀ : Around} {base h₀ : Heap} {L : Addr} {m : Str → Option Value} {news : List (Addr × Obj)} {s : Shared} {mean : ExcName → Option Value} {mg mb : Str → Option Value} {Q E : Value → Shared → Prop}
    (B : Below A₀ base outer h₀ := by k_asm) (F : Fr h₀ L s.heap m := by k_asm) (X : (hd.heap_39 w.params).In h₀ := by k_asm) (N : News h₀ L s.heap ((b, { cls := .type "tuple", data := .seq nv.toArray }) :: news) := by k_asm) (T : Top hd.view_39 (looseW hd.view_39 []) mean mg mb h₀ := by k_asm) (hk : cs.kind = .function := by first | exact rfl | assumption)
    (h1 : dp + D < recursionLimit := by ktr_room) (h2 : un + 8 * D < cLine := by ktr_units)
    (ret : ∀ (t : Tok) (h' : Heap) (tk' : Nat), Fr h₀ L h' m → News h₀ L h' ((b, { cls := .type "tuple", data := .seq nv.toArray }) :: news) → Q (R t) { s with heap := h', toks := tk' }) :
    wpAny (model Challenge.rw_np0291_01.row.prog w) (ktrTop dp un gd cn cs L a ccd cl outer) (call (.ref f) (.ref b :: vs)) Q E s :=
  S dp un gd cn cs a ccd cl outer A₀ base h₀ L m news s mean mg mb Q E B F X N T hk h1 h2 ret

theorem its_kinds {its : Array Value} {i : Nat} {v : Value} {t1 t2 t3 t4 t5 t6 t7 t8 t9 t10 t11 t12 : Tok}
    (e : its = #[.str (Str.ofString "len") t1, .str (Str.ofString "pos") t2, .str (Str.ofString "rpos") t3, .str (Str.ofString "tab") t4, .str (Str.ofString "rtab") t5, .str (Str.ofString "any") t6, .str (Str.ofString "notany") t7, .str (Str.ofString "span") t8, .str (Str.ofString "break") t9, .str (Str.ofString "bal") t10, .str (Str.ofString "arb") t11, .str (Str.ofString "rem") t12])
    (h : its[i]? = some v) : ∃ K tk, v = .str K tk ∧ K ∈ kinds := by
  subst e
  have h2 := Array.mem_of_getElem? h
  have h3 : ∀ v ∈ [Value.str (Str.ofString "len") t1, .str (Str.ofString "pos") t2, .str (Str.ofString "rpos") t3, .str (Str.ofString "tab") t4, .str (Str.ofString "rtab") t5, .str (Str.ofString "any") t6, .str (Str.ofString "notany") t7, .str (Str.ofString "span") t8, .str (Str.ofString "break") t9, .str (Str.ofString "bal") t10, .str (Str.ofString "arb") t11, .str (Str.ofString "rem") t12], ∃ K tk, v = .str K tk ∧ K ∈ kinds := by
    unfold kinds
    generalize Str.ofString "len" = k1
    generalize Str.ofString "pos" = k2
    generalize Str.ofString "rpos" = k3
    generalize Str.ofString "tab" = k4
    generalize Str.ofString "rtab" = k5
    generalize Str.ofString "any" = k6
    generalize Str.ofString "notany" = k7
    generalize Str.ofString "span" = k8
    generalize Str.ofString "break" = k9
    generalize Str.ofString "bal" = k10
    generalize Str.ofString "arb" = k11
    generalize Str.ofString "rem" = k12
    intro v hv
    simp only [List.mem_cons, List.not_mem_nil, or_false] at hv ⊢
    rcases hv with rfl | rfl | rfl | rfl | rfl | rfl | rfl | rfl | rfl | rfl | rfl | rfl
    all_goals exact ⟨_, _, rfl, by simp⟩
  exact h3 v (Array.mem_def.mp h2)

theorem due_yes {f : Nat → Bool} {p i : Nat} {ys : List Value} {v : Value} (g : IntsAre ys (((List.range' p i).filter f).map (fun (k : Nat) => (k : Int)))) (hp : f (p + i) = true) (hv : ∃ t, v = .int ((p + i : Nat) : Int) t) :
    IntsAre (ys ++ [v]) (((List.range' p (i + 1)).filter f).map (fun (k : Nat) => (k : Int))) := by
  obtain ⟨t, rfl⟩ := hv
  rw [range_split, List.filter_append, List.map_append]
  have e : (List.range' (p + i) 1).filter f = [p + i] := by show List.filter f [p + i] = _; simp [hp]
  rw [e]
  exact IntsAre.append g (.cons _ _ .nil)
theorem due_no {f : Nat → Bool} {p i : Nat} {ys : List Value} (g : IntsAre ys (((List.range' p i).filter f).map (fun (k : Nat) => (k : Int)))) (hp : f (p + i) = false) :
    IntsAre ys (((List.range' p (i + 1)).filter f).map (fun (k : Nat) => (k : Int))) := by
  rw [range_split, List.filter_append]
  have e : (List.range' (p + i) 1).filter f = [] := by show List.filter f [p + i] = _; simp [hp]
  rw [e, List.append_nil]
  exact g
theorem head_ovn {us : List Value} {R : List Nat} (h : IntsAre us (R.map (fun (k : Nat) => (k : Int)))) : ∃ t, (us ++ [Value.none])[0]? = some (ovn R.head? t) := by
  cases R with
  | nil => cases h; exact ⟨0, rfl⟩
  | cons a r =>
    cases h with
    | cons _ t _ => exact ⟨t, rfl⟩
section
variable {prog : Program} {w : World} {A : Around} {E : Value → Shared → Prop} {s : Shared} {h₀ : Heap} {L : Addr} {m : Str → Option Value} {news : List (Addr × Obj)}
theorem add_none {a b : Addr} {us vs : List Value} {R : List Nat} {Q : Value → Shared → Prop} (F : Fr h₀ L s.heap m) (N : News h₀ L s.heap news) (hl : s.heap.IsList a us.toArray) (hi : IntsAre us (R.map (fun (k : Nat) => (k : Int)))) (hb : s.heap.IsList b vs.toArray) (hv : vs = [.none]) (hz : us.length ≤ 10000)
    (h : ∀ D h' zs n t, Fr h₀ L h' m → News h₀ L h' ((D, listOf (List.toArray zs) n) :: news) → (∀ p ∈ news, p.1 < D) → zs[0]? = some (ovn R.head? t) → Q (.ref D) { s with heap := h' }) :
    wpAny (model prog w) A (binaryOp .Add (.ref a) (.ref b)) Q E s := by
  subst hv
  obtain ⟨t, ht⟩ := head_ovn hi
  refine add_arrays F N hl hb (fun h' F' N' => h s.heap.objs.size h' (us ++ [.none]) 0 t F' (by simpa using N') (fun p hp => Heap.lt_size (N p hp).1) ht) ?_
  rw [sizeLine_eq, List.size_toArray, List.size_toArray]
  simp only [List.length_cons, List.length_nil]
  omega
theorem item_first {value slice : Expr} {l : Addr} {vs : List Value} {u : Tok} {v : Value} {Q : Value → Shared → Prop}
    (hl : s.heap.IsList l vs.toArray) (hx : vs[0]? = some v) (h : Q v s)
    (hs : subscripted slice false (.ref l) (.int 0 u) = operate [.ref l, .int 0 u] (getItem (.ref l) (.int 0 u)) := by with_unfolding_all rfl) :
    wpAny (model prog w) A (subscriptTail value slice (.ref l) (.int 0 u)) Q E s :=
  tail_any hl.typeIs slot_list_getitem.lookup (wpAny_getItem_list hl (Int.le_refl _) (by decide) (by simpa using hx) h) hs
theorem ne_ovn {o : Option Nat} {t u : Tok} {Q : Value → Shared → Prop} (h : Q (.bool false) s) : wpAny (model prog w) A (compareOp .NotEq (ovn o t) (ovn o u)) Q E s := by
  cases o with
  | none => exact EqNone.ne_none_none h
  | some n => exact ne_int (by simpa using h)
end
theorem updC {x y : Str} {v o u o2 : Option Value} {m : Str → Option Value} : (fun z => if z = x then v else if z = y then o else if z = x then u else if z = y then o2 else m z) = fun z => if z = x then v else if z = y then o else m z := by
  funext z
  by_cases h : z = x
  · rw [if_pos h, if_pos h]
  · rw [if_neg h, if_neg h, if_neg h]
    by_cases h2 : z = y
    · rw [if_pos h2, if_pos h2]
    · rw [if_neg h2, if_neg h2, if_neg h2]
end Mine
namespace Mine
open PySem.Builtin PySem.Builtin.Str
set_option maxHeartbeats 4000000
section
local macro_rules | `(tactic| walk_at "CPost") => `(tactic| refine CPost.ret ?_)
local macro_rules | `(tactic| walk_at "CBack") => `(tactic| refine Stop.of ?_)
local macro_rules | `(tactic| walk_at "exec For Name Tuple cons nil") => `(tactic| refine Stop.of ?_)
local macro_rules | `(tactic| walk_at "pyIter ref") => `(tactic| refine Stop.of ?_)
local macro_rules | `(tactic| walk_at "CompSrcT") => `(tactic| refine Stop.of ?_)
local macro_rules | `(tactic| walk_at "ite") => `(tactic| (k_here; refine ite_on ?_ ?_ <;> intro _))
local macro_rules | `(tactic| walk_at "ite") => `(tactic| (k_here; first | refine ite_t (by with_reducible assumption) ?_ | refine ite_f (by with_reducible assumption) ?_))
local macro_rules | `(tactic| walk_at "ite") => `(tactic| (k_closed; first | refine ite_t (by decide +kernel) ?_ | refine ite_f (by decide +kernel) ?_))
local macro_rules | `(tactic| walk_at "call ref") => `(tactic| (k_here; k_dflt ((rename (∀ _, ∀ _, ∀ _, ∀ _, ∀ _, ∀ _, ∀ _, _ → _ → SpecV _ 197 _ _ _) => hS1); (refine useV (hS1 _ _ _ _ _ _ _ (by omega) (by omega)) (ret := ?_)); intro _ _ _ _ _; (try dsimp only); (try k_fold))))
local macro_rules | `(tactic| walk_at "call ref") => `(tactic| (k_here; k_dflt ((rename (∀ _, SpecV _ 161 _ _ _) => hS2); (refine useV (hS2 _) (ret := ?_)); intro _ _ _ _ _; (try dsimp only); (try k_fold))))
local macro_rules | `(tactic| walk_at "call ref") => `(tactic| (k_here; k_dflt ((rename (∀ _, SpecV _ 168 _ _ _) => hS3); (refine useV (hS3 _) (ret := ?_)); intro _ _ _ _ _; (try dsimp only); (try k_fold))))
local macro_rules | `(tactic| walk_at "call ref") => `(tactic| (k_here; k_dflt ((rename (∀ _, ∀ _, ∀ _, ∀ _, SpecL _ 154 _ _ _) => hS4); (refine useL (hS4 _ _ _ _) (ret := ?_)); intro _ _ _ _ _ _ _ _ _; (try dsimp only); (try k_fold))))
local macro_rules | `(tactic| walk_at "call ref") => `(tactic| (k_here; k_dflt ((rename (_ → ∀ _, ∀ _, ∀ _, ∀ _, ∀ _, SpecN _ _ _ _ _ _ _) => hS5); (refine useN (hS5 (by with_reducible assumption) _ _ _ _ _) (ret := ?_)); intro _ _ _ _ _; (try dsimp only); (try k_fold))))
local macro_rules | `(tactic| walk_at "binaryOp Add ref ref") => `(tactic| (k_here; k_dflt ((refine' add_none ?zh1 ?zh2 ?zh3 ?zh4 ?zh5 ?zh6 ?zh7 ?_); (case zh1 => k_asm); (case zh2 => k_asm); (case zh3 => is_list); (case zh4 => assumption); (case zh5 => is_list); (case zh6 => exact rfl); (case zh7 => omega); intro D9 h9 zs9 n9 t9 F9 N9 l9 z9; (try dsimp only); (try k_fold))))
local macro_rules | `(tactic| walk_at "subscriptTail") => `(tactic| (k_here; (with_reducible show wpAny _ _ (subscriptTail _ _ (Value.ref _) (Value.int 0 _)) _ _ _); (with_unfolding_all refine' item_first ?zh1 ?zh2 ?_ ?zh4; (case zh1 => is_list); (case zh2 => assumption); (case zh4 => with_unfolding_all rfl); k_whole)))
local macro_rules | `(tactic| walk_at "compareOp NotEq") => `(tactic| (k_here; k_dflt (refine ne_ovn ?_)))
local macro_rules | `(tactic| units_room) => `(tactic| ktr_units)
theorem s_ends_right (w : World) (x y : Str) (tx ty : Tok) (p q : Nat) (ta tm : Tok) (h1 : x.length ≤ 1000) (h2 : y.length ≤ 1000) (h3 : p ≤ x.length) (h5 : ∀ c ∈ x.cps.toList, c < 128) :
    SpecV w 202 [.str x tx, .int p ta, .str y ty, .int q tm] 20 (fun _ => .bool true) := by
  have hl := len_toList x
  w_top off
  unfold SpecV
  k_fill
  intro dp un gd cn cs a ccd cl outer A₀ base h₀ L m news s mean mg mb Q E B F X N Tt hk hd hu hret
  refine wpAny_call ?_
  k_dflt (refine' code_defC ?k1 ?k2 ?k3 ?k4 ?k5 ?kA ?kF ?kK ?k6 ?k7 ?k8 ?k9 ?kB ?kD ?_ ?c2 ?c3 ?c4; (case kA => exact rfl); (case kF => exact rfl); (case kK => assumption); (case k1 => k_asm); (case k2 => k_asm); (case k3 => k_asm); (case k4 => k_asm); (case k5 => k_asm); (case k6 => k_is); (case k7 => k_is); (case k8 => ktr_room); (case k9 => exact BindsTo.of_eq rfl); (case kB => exact rfl); (case kD => decide +kernel); (case c2 => exact rfl); (case c3 => exact rfl); (case c4 => exact rfl); k_whole; intro g' L' h' tk' cells' FG' F' N' Y' B' X' T' l1; (try k_lt l1); k_cells Y'; (try simp only [List.cons_append, List.nil_append] at N'); (try dsimp only); (try k_lift B'); (try k_fold))
  k_steps
  unfold Stop
  rename Fr _ _ _ _ => F9
  rename News _ _ _ _ => N9
  with_reducible refine Seal.out ?_
  refine For_turnsS F9 ?_
  k_steps
  unfold Stop
  rename Fr _ _ _ _ => F9
  rename News _ _ _ _ => N9
  rename_i o1 o2 o3 o4 o5 d1 d2 d3 d4 d5 D9 h9 l9
  have hap : ∀ r ∈ news, @Ne Nat r.1 (L' + 1 + 1 + 1 + 1 + 1) := fun r hr => Nat.ne_of_lt (Nat.lt_of_lt_of_le (l1 r hr) (by show @LE.le Nat _ L' _; omega))
  refine' turnsTupC (led := fun o => (_, _) :: (_, o) :: _) rfl ?zht F9 N9 rfl d1 (fun _ => List.mem_cons_of_mem _ List.mem_cons_self) ?zhup rfl rfl ?zhc
    (fun m₀ (c : Option Value × Option Value) z => if z = Str.ofString "given" then c.2 else if z = Str.ofString "due" then c.1 else m₀ z) (fun _ _ => True) (none, none) ?zhe trivial ?zht2 ?zhd
  case zht => exact News.isTup N9 List.mem_cons_self
  case zhc => rfl
  case zhe =>
    funext z
    by_cases e1 : z = Str.ofString "given"
    · rw [if_pos e1, e1]; rfl
    · rw [if_neg e1]
      by_cases e2 : z = Str.ofString "due"
      · rw [if_pos e2, e2]; rfl
      · rw [if_neg e2]
  case zhup =>
    intro o o' r hr
    rcases List.mem_cons.mp hr with rfl | hr
    · exact .inr ⟨List.mem_cons_self, by show @Ne Nat _ _; omega⟩
    rcases List.mem_cons.mp hr with rfl | hr
    · exact .inl rfl
    refine .inr ⟨List.mem_cons_of_mem _ (List.mem_cons_of_mem _ hr), ?_⟩
    rcases List.mem_cons.mp hr with rfl | hr
    · show @Ne Nat _ _; omega
    rcases List.mem_cons.mp hr with rfl | hr
    · show @Ne Nat _ _; omega
    rcases List.mem_cons.mp hr with rfl | hr
    · show @Ne Nat _ _; omega
    rcases List.mem_cons.mp hr with rfl | hr
    · show @Ne Nat _ _; omega
    exact hap r hr
  case zhd =>
    clear F9 N9
    intro o v c h tk hdo _ F9 N9
    k_steps
    exact retV hret 0 (by assumption) (ends_drop (by assumption) (fun _ hq => by repeat (first | exact hq | refine List.mem_cons_of_mem _ ?_))) rfl
  case zht2 =>
    clear F9 N9
    intro i v o c h tk own hv hdo _ F9 N9
    obtain ⟨K, tK, rfl, hK⟩ := its_kinds rfl hv
    obtain ⟨c9, g, n, f, OK⟩ := kinds_ok w x y p q h1 h2 h3 h5 K hK
    have hTc : ∀ tk, SpecV w 161 [.str K tk] 1 (fun _ => .bool c9) := fun tk => by have z := s_takes_count w K tk; rw [OK.cnt] at z; exact z
    have hTs : ∀ tk, SpecV w 168 [.str K tk] 1 (fun _ => .bool g) := fun tk => by have z := s_takes_signs w K tk; rw [OK.sgn] at z; exact z
    have hIs := fun tk tx ta te tm ty (e : Nat) (a : p ≤ e) b => OK.is tk tx ta te ty tm e a b
    have hEn := OK.ends
    have hPl : (!(balK.any fun z => z == K)) = true → ∀ b tk tx ta tg, SpecN w 147 b [.str K tk, giv c9 q y tg] [.str x tx, .int p ta] 5 (ovn ((List.range' p (x.length + 1 - p)).filter f).head?) := fun e => OK.plain (by rw [← OK.nba]; simpa using e)
    have hC3 : (c9 != (cntK.any fun z => z == K)) = false := by rw [OK.cnt]; simp
    have hG3 : (g != (sgnK.any fun z => z == K)) = false := by rw [OK.sgn]; simp
    unfold balK at hPl
    unfold cntK at hC3
    unfold sgnK at hG3
    cases c9 <;> dsimp only [giv] at hEn hPl
    all_goals
      k_steps
      unfold Stop
      rename Fr _ _ _ _ => F9
      rename News _ _ _ _ => N9
      rename IsRange _ _ _ _ _ _ _ _ => R9
      refine LCt.CompSrcT.range (n := x.length + 1 - p) rfl F9 N9 R9 (small_one (by omega) (by omega) (by omega) (by omega)) (by rw [rangeSize_nat]; omega) (by rw [sizeLine_eq]; omega) fun g9 => ?_
      refine restT trivial (fun i => f (p + i)) (fun i v => ∃ t, v = .int ((p + i : Nat) : Int) t) (fun i ys => IntsAre ys (((List.range' p i).filter f).map (fun (k : Nat) => (k : Int)))) .nil (fun i ys v g hp hv => due_yes g hp hv) (fun i ys g hp => due_no g hp) ?_ ?_
      · clear F9 N9
        intro i v I oI C oC D m₂ ys h tk E' hi hP hC hx F9 N9 off ne
        obtain ⟨t, rfl⟩ := hP
        rw [show (p : Int) + (i : Int) = ((p + i : Nat) : Int) from (Int.natCast_add p i).symm] at hx
        k_steps
        · unfold Stop
          rename (f _ = true) => hf
          exact CBack.intro ⟨hf, _, rfl⟩ (by assumption) (by assumption) (fun _ hq => hq)
        · unfold Stop
          rename (f _ = false) => hf
          exact CBack.intro hf (by assumption) (by assumption) (fun _ hq => hq)
      · clear F9 N9
        intro ys hys D h tk F9 N9 off
        have hyl : ys.length ≤ 1001 := by have := ints_le hys; omega
        (try k_fold)
        k_steps
        all_goals
          rename Fr _ _ _ _ => F8
          rename News _ _ _ _ => N8
          refine' CPost.on (_, _) F8 N8 updC (fun _ hq => ?_) trivial
          repeat (first | exact hq | refine List.mem_cons_of_mem _ ?_)
end
end Mine
namespace Mine
open PySem.Builtin PySem.Builtin.Str
set_option maxHeartbeats 4000000

/-- the deal: its list of numbers, the place in it, the seed -/
abbrev dealAt (nl : Addr) (i : Nat) (ti : Tok) (sd : Int) (ts : Tok) (n : Nat) : Obj := listOf (List.toArray [.ref nl, .int (i : Int) ti, .int sd ts]) n
@[reducible] def SpecT (w : World) (m₉ : Int) : Prop :=
  ∀ (dp un : Nat) (gd : Option (List Code)) (cn : Str) (cs : Scope) (a : Addr) (ccd : Value) (cl : List (Str × Addr)) (outer : List Env) (A₀ : Around) (base h₀ : Heap) (L : Addr) (m : Str → Option Value) (news : List (Addr × Obj)) (s : Shared) (mean : ExcName → Option Value) (mg mb : Str → Option Value) (Q E : Value → Shared → Prop)
    (dl nl : Addr) (i : Nat) (ti : Tok) (sd : Int) (ts : Tok) (n : Nat) (us : List Value) (n' : Nat) (ks : List Int) (tm : Tok),
    Below A₀ base outer h₀ → Fr h₀ L s.heap m → (hd.heap_39 w.params).In h₀ → News h₀ L s.heap ((dl, dealAt nl i ti sd ts n) :: (nl, listOf us.toArray n') :: news) → Top hd.view_39 (looseW hd.view_39 []) mean mg mb h₀ → cs.kind = .function →
    OwnOff news [dl] → @Ne Nat nl dl → IntsAre us ks → (∀ z ∈ ks, 0 ≤ z ∧ z < 1000003) → ks.length ≤ 40 → i ≤ 40 → 0 ≤ sd → sd < 2147483647 →
    dp + 2 < recursionLimit → un + 8 * 2 < cLine →
    (∀ (r : Nat) (t : Tok) (h' : Heap) (tk' : Nat) (i : Nat) (ti : Tok) (sd : Int) (ts : Tok), (r : Int) < m₉ → i ≤ 40 → 0 ≤ sd → sd < 2147483647 → Fr h₀ L h' m → News h₀ L h' ((dl, dealAt nl i ti sd ts n) :: (nl, listOf us.toArray n') :: news) → Q (.int (r : Int) t) { s with heap := h', toks := tk' }) →
    wpAny (model Challenge.rw_np0291_01.row.prog w) (ktrTop dp un gd cn cs L a ccd cl outer) (call (.ref 187) [.ref dl, .int m₉ tm]) Q E s
theorem fm_ok (a m : Int) (h : 1 ≤ m) : ∃ r : Nat, a.fmod m = (r : Int) ∧ (r : Int) < m := by
  have e : a.fmod m = a % m := Int.fmod_eq_emod_of_nonneg a (by omega)
  have h1 := Int.emod_nonneg a (b := m) (by omega)
  have h2 := Int.emod_lt_of_pos a (b := m) (by omega)
  exact ⟨(a % m).toNat, by rw [e]; omega, by omega⟩
theorem s_take (w : World) (m₉ : Int) (hm1 : 1 ≤ m₉) (hm2 : m₉ ≤ 100) : SpecT w m₉ := by
  w_top off
  unfold SpecT
  k_fill
  intro dp un gd cn cs a ccd cl outer A₀ base h₀ L m news s mean mg mb Q E dl nl i ti sd ts n us n' ks tm B F X N T hk hO hne hI hks hkl hi hs1 hs2 hd hu hret
  refine wpAny_call ?_
  k_dflt cell_enter
  k_steps
  · obtain ⟨r, hr, hr2⟩ := fm_ok (ks.getD ((i : Int) + 1 - 1).toNat 0) m₉ hm1
    rw [hr]
    exact hret r _ _ _ (i + 1) _ sd ts hr2 (by omega) hs1 hs2 (by assumption) (by assumption)
  · obtain ⟨r, hr, hr2⟩ := fm_ok (((sd * 48271 + 5003).fmod 2147483647).fdiv 64) m₉ hm1
    rw [hr]
    have e : (sd * 48271 + 5003).fmod 2147483647 = (sd * 48271 + 5003) % 2147483647 := Int.fmod_eq_emod_of_nonneg _ (by omega)
    exact hret r _ _ _ i _ ((sd * 48271 + 5003).fmod 2147483647) _ hr2 hi (by omega) (by omega) (by assumption) (by assumption)
end Mine
namespace Mine
open PySem.Builtin PySem.Builtin.Str
set_option maxHeartbeats 4000000

theorem ints_item : ∀ {vs : List Value} {ns : List Int}, IntsAre vs ns → ∀ (i : Nat) (v : Value), vs[i]? = some v → ∃ k t, v = .int k t ∧ ns[i]? = some k
  | _, _, .nil, i, v, h => by cases h
  | _, _, .cons k t _, 0, v, h => by cases h; exact ⟨k, t, rfl, rfl⟩
  | _, _, .cons _ _ r, i + 1, v, h => ints_item r i v h
theorem allLt_mem {d : Addr} : ∀ {l : List (Addr × Obj)}, AllLt d l → ∀ p ∈ l, p.1 < d
  | [], _, _, hp => (nomatch hp)
  | q :: r, h, p, hp => by
    rcases List.mem_cons.mp hp with rfl | hp
    · exact h.1
    · exact allLt_mem h.2 p hp
section
variable {prog : Program} {w : World} {A : Around} {E : Value → Shared → Prop} {s : Shared} {h₀ : Heap} {L : Addr} {m : Str → Option Value} {env : Env}
theorem restU {elt : Expr} {x : Str} {scope : Scope} {cl : List (Str × Addr)} {S : List (Addr × Obj) → Prop} {P : Nat → Value → Prop} {Fin : List Value → List (Addr × Obj) → Prop} {n : Nat} {news : List (Addr × Obj)} (hS : S news)
    (J : Nat → List Value → List (Addr × Obj) → Prop) (j0 : J 0 [] news)
    (turn : ∀ i v I oI C oC D m₂ ys nws h tk (E' : Value → Shared → Prop), i < n → P i v → J i ys nws → S nws → LCg.NsObj oC m₂ → m₂ x = some v → Fr h₀ L h m → News h₀ L h ((I, oI) :: (C, oC) :: (D, LCg.lst ys) :: nws) → LCg.Off3 I C D nws → ((@Ne Nat I C) ∧ (@Ne Nat I D) ∧ (@Ne Nat C D)) →
      wpAny (model prog w) A (eval elt (compEnvC scope cl C env)) (LCg.CompEnd h₀ L m { s with heap := h, toks := tk } I oI C oC D (LCg.lst ys) S (fun y nws' => J (i + 1) (ys ++ [y]) nws')) E' { s with heap := h, toks := tk })
    (fin : ∀ ys nws, J n ys nws → S nws → Fin ys nws) : LCg.CompRest prog w A h₀ L m env elt x scope cl s S P Fin n 0 [] news := by
  have key : ∀ (j i : Nat) (ys : List Value) (nws : List (Addr × Obj)), i + j = n → S nws → J i ys nws → LCg.CompRest prog w A h₀ L m env elt x scope cl s S P Fin j i ys nws := by
    intro j
    induction j with
    | zero =>
      intro i ys nws hi hs hj
      have e : i = n := by omega
      subst e
      exact LCg.CompRest.zero (fin ys nws hj hs)
    | succ j ih =>
      intro i ys nws hi hs hj
      refine LCg.CompRest.succ ?_
      intro v I oI C oC D m₂ h tk E' hv hC hx F N off ne
      refine wpAny_mono (turn i v I oI C oC D m₂ ys nws h tk E' (by omega) hv hj hs hC hx F N off ne) (fun y s' q => ?_) fun _ _ e => e
      obtain ⟨h', tk', news', e, F', N', off', hS', hJ⟩ := q
      exact ⟨h', tk', news', e, F', N', off', hS', ih (i + 1) _ _ (by omega) hS' hJ⟩
  exact key n 0 [] news (by omega) hS j0
end
section
variable {prog : Program} {w : World} {A : Around} {E : Value → Shared → Prop} {Q : Flow → Shared → Prop} {s : Shared} {env : Env} {h₀ : Heap} {x : Str} {px : Pos} {body : List Stmt}
theorem turnsList {σ : Type} {ax : Addr} {its : Array Value} {m₀ : Str → Option Value} {news : List (Addr × Obj)} (hh : A.handled = none) (ht : s.heap.IsList ax its)
    (F : Fr h₀ env.locals s.heap m₀) (N : News h₀ env.locals s.heap news)
    (hx : env.kindOf x = some .local) (hp : (env.scope.kind == .class || (env.scope.kind == .module && env.locals != env.globals)) = false)
    (fr : (Str → Option Value) → σ → Str → Option Value) (I : Nat → σ → Prop) (c₀ : σ) (e1 : m₀ = fr m₀ c₀) (hI : I 0 c₀)
    (turn : ∀ (i : Nat) v c h tk own, its[i]? = some v → I i c → Fr h₀ env.locals h (fun y => if y = x then some v else fr m₀ c y) → News h₀ env.locals h (news ++ own) →
      wpAny (model prog w) A (execs body env) (FPost h₀ env.locals { s with heap := h, toks := tk } x (fr m₀) news own (I (i + 1)) Q) E { s with heap := h, toks := tk })
    (done : ∀ c v h tk, I its.size c → Fr h₀ env.locals h (fun y => if y = x then v else fr m₀ c y) → News h₀ env.locals h news → Q .next { s with heap := h, toks := tk }) :
    wpAny (model prog w) A (pyIter (.ref ax)) (fun it s₂ => TurnsAt prog w A h₀ env (.Name x px) body Q E it s₂) E s := by
  refine wpAny_pyIter_list ht ?_
  have hlt : ax < s.heap.objs.size := by obtain ⟨_, e, _⟩ := ht; exact Heap.lt_size e
  have W := Walks.list (prog := prog) (w := w) hh s.heap.objs.size ax (Nat.ne_of_lt hlt) its
  refine ⟨_, _, _, its.size, _, _, _, m₀, news, (fun i m nx => nx = news ∧ ∃ c v, m = (fun y => if y = x then v else fr m₀ c y) ∧ I i c), rfl, KTurns.ofWalks W (fun i v s' Q' E' _ q => ?_), ?_, ?_, ?_, ⟨⟨_, Heap.get?_push_size _ rfl, rfl, rfl⟩, ?_⟩, F.push _, (fun p hp => ⟨Heap.get?_push_of_some _ (N p hp).1, (N p hp).2⟩), ⟨rfl, c₀, m₀ x, ?_, hI⟩, ?_, ?_⟩
  · exact wpAny_pure q
  · intro hm'
    have hL := F.ns.lt
    rcases List.mem_cons.mp hm' with e | e
    · exact absurd hL (e ▸ Nat.lt_irrefl _)
    · have e' : env.locals = ax := List.mem_singleton.mp e
      obtain ⟨oL, a1, a2, hoL, hLd, _⟩ := F.ns
      obtain ⟨oT, b1, b2, n, b3⟩ := ht
      rw [← e', hoL] at b1
      cases b1
      rw [b3] at hLd
      cases hLd
  · intro b' hb
    rw [List.mem_singleton.mp hb]
    exact next_is_new F
  · intro p hp hI'
    exact absurd (Heap.lt_size (N p hp).1) ((List.mem_singleton.mp hI') ▸ Nat.lt_irrefl _)
  · obtain ⟨oT, b1, b2⟩ := ht
    exact ⟨oT, Heap.get?_push_of_some _ b1, b2⟩
  · funext y
    by_cases hy : y = x
    · rw [if_pos hy, hy]
    · rw [if_neg hy]; exact congrFun e1 y
  · rintro i v m₁ nx h₁ tk₁ own hi hv ⟨rfl, c, v', rfl, hI'⟩ hoff hown _ _ _ F₁ N₁
    refine wpAny_assign_Name (wpAny_storeName_local hx F₁.ns (fun h₂ hn₂ hs₂ => ?_) hp)
    have F₂ : Fr h₀ env.locals h₂ (fun y => if y = x then some v else fr m₀ c y) := by
      have F₃ := F₁.set hn₂ hs₂
      have hm : (fun y => if y = x then some v else if y = x then v' else fr m₀ c y) = fun y => if y = x then some v else fr m₀ c y := by
        funext y
        by_cases hy : y = x
        · rw [if_pos hy, if_pos hy]
        · rw [if_neg hy, if_neg hy, if_neg hy]
      rw [hm] at F₃
      exact F₃
    have N₂ : News h₀ env.locals h₂ (nx ++ own) := fun p hp => (N₁.set hs₂) p ((List.mem_append.mp hp).elim (fun h => List.mem_append.mpr (.inr h)) fun h => List.mem_append.mpr (.inl h))
    refine wpAny_mono (turn i v c h₂ (tk₁ + 1) own hv hI' F₂ N₂) (fun f s₂ p => ?_) fun _ _ e => e
    have fin : (∃ (c' : σ) (v : Option Value) (h' : Heap) (tk' : Nat), s₂ = { s with heap := h', toks := tk' } ∧ Fr h₀ env.locals h' (fun y => if y = x then v else fr m₀ c' y) ∧ News h₀ env.locals h' (nx ++ own) ∧ I (i + 1) c') →
        LoopStepU h₀ env.locals [s.heap.objs.size] own (fun m nx' => nx' = nx ∧ ∃ c v, m = (fun y => if y = x then v else fr m₀ c y) ∧ I (i + 1) c) { s with heap := h₁, toks := tk₁ } .next s₂ := by
      rintro ⟨c', v, h', tk', rfl, F', N', hI9⟩
      exact ⟨rfl, h', tk', _, nx, rfl, F', fun p hp => N' p ((List.mem_append.mp hp).elim (fun h => List.mem_append.mpr (.inr h)) fun h => List.mem_append.mpr (.inl h)), hoff, rfl, c', v, rfl, hI9⟩
    cases f with
    | ret v => exact .ret p
    | brk => exact .brk p
    | next => exact .next (fin p)
    | cont => exact .cont (fin p)
  · rintro h' tk m₁ nx F₁ N₁ _ ⟨rfl, c, v, rfl, hI'⟩
    exact done c v h' tk hI' F₁ N₁
end
@[reducible] def SpecD (w : World) (sc : Addr) : Prop :=
  ∀ (dp un : Nat) (gd : Option (List Code)) (cn : Str) (cs : Scope) (a : Addr) (ccd : Value) (cl : List (Str × Addr)) (outer : List Env) (A₀ : Around) (base h₀ : Heap) (L : Addr) (m : Str → Option Value) (news : List (Addr × Obj)) (s : Shared) (mean : ExcName → Option Value) (mg mb : Str → Option Value) (Q E : Value → Shared → Prop)
    (vs : List Value) (ns : List Int),
    Below A₀ base outer h₀ → Fr h₀ L s.heap m → (hd.heap_39 w.params).In h₀ → News h₀ L s.heap news → Top hd.view_39 (looseW hd.view_39 []) mean mg mb h₀ → cs.kind = .function →
    h₀.IsList sc vs.toArray → IntsAre vs ns → ns.length ≤ 63 →
    dp + 2 < recursionLimit → un + 8 * 2 < cLine →
    (∀ (dl nl : Addr) (us : List Value) (ks : List Int) (sd : Int) (ti ts : Tok) (n n' : Nat) (h' : Heap) (tk' : Nat), IntsAre us ks → (∀ z ∈ ks, 0 ≤ z ∧ z < 1000003) → ks.length ≤ 40 → 0 ≤ sd → sd < 2147483647 → @LT.lt Nat _ nl dl → (∀ p ∈ news, p.1 < dl) → LCg.Off1 nl news → Fr h₀ L h' m → News h₀ L h' ((dl, dealAt nl 0 ti sd ts n) :: (nl, listOf us.toArray n') :: news) → Q (.ref dl) { s with heap := h', toks := tk' }) →
    wpAny (model Challenge.rw_np0291_01.row.prog w) (ktrTop dp un gd cn cs L a ccd cl outer) (call (.ref 180) [.ref sc]) Q E s
section
local macro_rules | `(tactic| walk_at "exec Assign cons ListComp") => `(tactic| refine Stop.of ?_)
local macro_rules | `(tactic| walk_at "CompSrc") => `(tactic| refine Stop.of ?_)
local macro_rules | `(tactic| walk_at "CompEnd") => `(tactic| refine Stop.of ?_)
local macro_rules | `(tactic| walk_at "exec For Name Name cons nil") => `(tactic| refine Stop.of ?_)
local macro_rules | `(tactic| walk_at "pyIter ref") => `(tactic| refine Stop.of ?_)
theorem s_deal (w : World) (sc : Addr) : SpecD w sc := by
  w_top off
  unfold SpecD
  k_fill
  intro dp un gd cn cs a ccd cl outer A₀ base h₀ L m news s mean mg mb Q E vs ns B F X N T hk hsc hns hnl hd hu hret
  refine wpAny_call ?_
  k_dflt cell_enter
  rename Fr h₀ L _ m => FG9
  have hsc2 := hsc
  obtain ⟨o9, e9, r9⟩ := hsc2
  have hsc2 : Heap.IsList _ sc vs.toArray := ⟨o9, FG9.keep _ _ e9, r9⟩
  clear e9 r9
  k_steps
  unfold Stop
  rename Fr _ _ _ _ => F9
  rename News _ _ _ _ => N9
  k_dflt (refine LCg.Assign_ListComp_U F9 (by rfl) (by with_unfolding_all rfl) (by with_unfolding_all rfl) (by decide) (by rfl) (by decide) (by rfl) (by rfl) (by rfl) ?_)
  k_steps
  unfold Stop
  rename Fr _ _ _ _ => F9
  rename News _ _ _ _ => N9
  rename IntsAre _ (List.take 40 ns) => hI9
  rename (∀ p ∈ news, p.1 < _) => l9
  have hlen := hI9.length
  rw [List.length_take] at hlen
  refine LCg.CompSrc.ledger rfl F9 N9 List.mem_cons_self (by rw [List.size_toArray, sizeLine_eq]; omega) fun g9 => ?_
  refine restU (.inr ⟨_, List.mem_cons_self, rfl, _, rfl⟩) (fun i ys nws => nws = (_, _) :: news ∧ ∃ ks, IntsAre ys ks ∧ (∀ z ∈ ks, 0 ≤ z ∧ z < 1000003) ∧ ks.length = i) ⟨rfl, [], .nil, (fun _ h => nomatch h), rfl⟩ ?_ ?_
  · clear F9 N9
    rintro i v I oI C oC D m₂ ys nws h tk E' hi hv ⟨rfl, ks, hk1, hk2, hk3⟩ hS hC hx F9 N9 off ne
    obtain ⟨k, t, rfl⟩ : ∃ k t, v = .int k t := by
      obtain ⟨k, t, e, _⟩ := ints_item hI9 i v (by simpa using hv)
      exact ⟨k, t, e⟩
    k_steps
    unfold Stop
    rename Fr _ _ _ _ => F8
    rename News _ _ _ _ => N8
    obtain ⟨r, hr, hr2⟩ := fm_ok (if k < 0 then -k else k) 1000003 (by decide)
    refine LCg.CompEnd.intro F8 N8 _ (fun _ hq => hq) off hS ⟨rfl, ks ++ [(r : Int)], ?_, ?_, ?_⟩
    · rw [← hr]
      exact IntsAre.append hk1 (.cons _ _ .nil)
    · intro z hz
      rcases List.mem_append.mp hz with hz | hz
      · exact hk2 z hz
      · rw [List.mem_singleton.mp hz]; exact ⟨by omega, hr2⟩
    · rw [List.length_append, hk3]; rfl
  · clear F9 N9
    rintro ys nws ⟨rfl, ks, hk1, hk2, hk3⟩ hS D h tk F9 N9 off
    rw [List.size_toArray] at hk3
    (try k_fold)
    k_steps
    unfold Stop
    rename Fr _ _ _ _ => F9
    rename News _ _ _ _ => N9
    with_reducible refine Seal.out ?_
    refine For_turnsS F9 ?_
    k_steps
    unfold Stop
    rename Fr _ _ _ _ => F9
    rename News _ _ _ _ => N9
    refine turnsList rfl (News.isList N9 List.mem_cons_self) F9 N9 (by rfl) (by rfl) (fun m₀ (c : Int × Tok) z => if z = Str.ofString "seed" then some (.int c.1 c.2) else m₀ z) (fun _ c => 0 ≤ c.1 ∧ c.1 < 2147483647) (7, _) (upd0 rfl) ⟨by show (0 : Int) ≤ 7; decide, by show (7 : Int) < 2147483647; decide⟩ ?_ ?_
    · clear F9 N9
      rintro i v ⟨sd, td⟩ h tk own hv ⟨hs1, hs2⟩ F9 N9
      dsimp only at hs1 hs2 F9 N9 ⊢
      obtain ⟨k, t, rfl, hk⟩ := ints_item hk1 i v (by simpa using hv)
      have hz := hk2 k (List.mem_of_getElem? hk)
      k_steps
      rename Fr _ _ _ _ => F8
      rename News _ _ _ _ => N8
      have e : ∀ a : Int, a.fmod 2147483647 = a % 2147483647 := fun a => Int.fmod_eq_emod_of_nonneg a (by omega)
      refine' FPost.on (_, _) _ F8 N8 (updF (by decide) rfl) (fun _ hp => hp) ?zhI
      case zhI => exact ⟨by show 0 ≤ Int.fmod _ _; rw [e]; omega, by show Int.fmod _ _ < _; rw [e]; omega⟩
    · clear F9 N9
      rintro ⟨sd, td⟩ v h tk ⟨hs1, hs2⟩ F9 N9
      dsimp only at hs1 hs2 F9 N9 ⊢
      k_steps
      rename (D < _ ∧ _) => hlt
      refine hret _ D ys ks sd tk td 0 ys.length _ _ hk1 hk2 (by omega) hs1 hs2 hlt.1 (allLt_mem hlt.2.2) off.2 (by assumption) (ends_drop (by assumption) (fun r hr => ?_))
      rcases List.mem_cons.mp hr with rfl | hr
      · exact List.mem_cons_self
      rcases List.mem_cons.mp hr with rfl | hr
      · exact List.mem_cons_of_mem _ List.mem_cons_self
      exact List.mem_cons_of_mem _ (List.mem_cons_of_mem _ (List.mem_cons_of_mem _ hr))
end
end Mine
namespace Mine
open PySem.Builtin PySem.Builtin.Str
set_option maxHeartbeats 4000000

theorem useD {w : World} {sc : Addr}
    {dp un : Nat} {gd : Option (List Code)} {cn : Str} {cs : Scope} {a : Addr} {ccd : Value} {cl : List (Str × Addr)} {outer : List Env} {A₀ : Around} {base h₀ : Heap} {L : Addr} {m : Str → Option Value} {news : List (Addr × Obj)} {s : Shared} {mean : ExcName → Option Value} {mg mb : Str → Option Value} {Q E : Value → Shared → Prop} {vs : List Value} {ns : List Int}
    (B : Below A₀ base outer h₀ := by k_asm) (F : Fr h₀ L s.heap m := by k_asm) (X : (hd.heap_39 w.params).In h₀ := by k_asm) (N : News h₀ L s.heap news := by k_asm) (T : Top hd.view_39 (looseW hd.view_39 []) mean mg mb h₀ := by k_asm) (hk : cs.kind = .function := by first | exact rfl | assumption)
    (hs : h₀.IsList sc vs.toArray := by k_asm) (hi : IntsAre vs ns := by k_asm) (hl : ns.length ≤ 63 := by omega)
    (h1 : dp + 2 < recursionLimit := by ktr_room) (h2 : un + 8 * 2 < cLine := by ktr_units)
    (ret : ∀ (dl nl : Addr) (us : List Value) (ks : List Int) (sd : Int) (ti ts : Tok) (n n' : Nat) (h' : Heap) (tk' : Nat), IntsAre us ks → (∀ z ∈ ks, 0 ≤ z ∧ z < 1000003) → ks.length ≤ 40 → 0 ≤ sd → sd < 2147483647 → @LT.lt Nat _ nl dl → (∀ p ∈ news, p.1 < dl) → LCg.Off1 nl news → Fr h₀ L h' m → News h₀ L h' ((dl, dealAt nl 0 ti sd ts n) :: (nl, listOf us.toArray n') :: news) → Q (.ref dl) { s with heap := h', toks := tk' }) :
    wpAny (model Challenge.rw_np0291_01.row.prog w) (ktrTop dp un gd cn cs L a ccd cl outer) (call (.ref 180) [.ref sc]) Q E s :=
  s_deal w sc dp un gd cn cs a ccd cl outer A₀ base h₀ L m news s mean mg mb Q E vs ns B F X N T hk hs hi hl h1 h2 ret
theorem useT {w : World} {m₉ : Int} (S : SpecT w m₉)
    {dp un : Nat} {gd : Option (List Code)} {cn : Str} {cs : Scope} {a : Addr} {ccd : Value} {cl : List (Str × Addr)} {outer : List Env} {A₀ : Around} {base h₀ : Heap} {L : Addr} {m : Str → Option Value} {all : List (Addr × Obj)} {s : Shared} {mean : ExcName → Option Value} {mg mb : Str → Option Value} {Q E : Value → Shared → Prop}
    {dl nl : Addr} {i : Nat} {ti : Tok} {sd : Int} {ts : Tok} {n : Nat} {us : List Value} {n' : Nat} {ks : List Int} {tm : Tok} {g : Obj → List (Addr × Obj)}
    (B : Below A₀ base outer h₀ := by k_asm) (F : Fr h₀ L s.heap m := by k_asm) (X : (hd.heap_39 w.params).In h₀ := by k_asm) (N : News h₀ L s.heap all := by k_asm) (T : Top hd.view_39 (looseW hd.view_39 []) mean mg mb h₀ := by k_asm) (hk : cs.kind = .function := by first | exact rfl | assumption)
    (U : UpdF dl (dealAt nl i ti sd ts n) all g := by k_updF) (hm : (nl, listOf us.toArray n') ∈ all := by k_mem) (hne : @Ne Nat nl dl := by show @Ne Nat _ _; omega) (hI : IntsAre us ks := by assumption) (hks : ∀ z ∈ ks, 0 ≤ z ∧ z < 1000003 := by assumption) (hkl : ks.length ≤ 40 := by assumption) (hi : i ≤ 40 := by first | assumption | omega) (hs1 : 0 ≤ sd := by assumption) (hs2 : sd < 2147483647 := by assumption)
    (h1 : dp + 2 < recursionLimit := by ktr_room) (h2 : un + 8 * 2 < cLine := by ktr_units)
    (ret : ∀ (r : Nat) (t : Tok) (h' : Heap) (tk' : Nat) (i : Nat) (ti : Tok) (sd : Int) (ts : Tok), (r : Int) < m₉ → i ≤ 40 → 0 ≤ sd → sd < 2147483647 → Fr h₀ L h' m → News h₀ L h' (g (dealAt nl i ti sd ts n)) → Q (.int (r : Int) t) { s with heap := h', toks := tk' }) :
    wpAny (model Challenge.rw_np0291_01.row.prog w) (ktrTop dp un gd cn cs L a ccd cl outer) (call (.ref 187) [.ref dl, .int m₉ tm]) Q E s := by
  obtain ⟨pre, post, e1, e2, e3, e4⟩ := U.split
  subst e1
  refine S dp un gd cn cs a ccd cl outer A₀ base h₀ L m (pre ++ post) s mean mg mb Q E dl nl i ti sd ts n us n' ks tm B F X (fun p hp => N p ?_) T hk (fun p hp b hb => ?_) hne hI hks hkl hi hs1 hs2 h1 h2 fun r t h' tk' i ti sd ts hr hi hs1 hs2 F' N' => ret r t h' tk' i ti sd ts hr hi hs1 hs2 F' fun p hp => N' p ?_
  · rcases List.mem_cons.mp hp with rfl | hp
    · exact List.mem_append_right _ List.mem_cons_self
    rcases List.mem_cons.mp hp with rfl | hp
    · exact hm
    rcases List.mem_append.mp hp with hp | hp
    · exact List.mem_append_left _ hp
    · exact List.mem_append_right _ (List.mem_cons_of_mem _ hp)
  · rw [List.mem_singleton.mp hb]
    rcases List.mem_append.mp hp with hp | hp
    · exact e3 p hp
    · exact e4 p hp
  · rw [e2] at hp
    rcases List.mem_append.mp hp with hp | hp
    · exact List.mem_cons_of_mem _ (List.mem_cons_of_mem _ (List.mem_append_left _ hp))
    rcases List.mem_cons.mp hp with rfl | hp
    · exact List.mem_cons_self
    · exact List.mem_cons_of_mem _ (List.mem_cons_of_mem _ (List.mem_append_right _ hp))

section
variable {prog : Program} {w : World} {A : Around} {E : Value → Shared → Prop} {Q : Flow → Shared → Prop} {s : Shared} {env : Env} {h₀ : Heap} {x : Str} {px : Pos} {body : List Stmt}
theorem turnsRangeC {σ : Type} {r cK : Addr} {a b : Int} {t₀ u₀ w₀ : Tok} {n : Nat} {o₀ : Obj} {v₀ : Option Value} {m₀ : Str → Option Value} {led : Obj → List (Addr × Obj)} {nws : List (Addr × Obj)} (hh : A.handled = none) (hr : IsRange s.heap r a b 1 t₀ u₀ w₀) (hsmall : Builtin.Range.small a b 1 = true) (hn : Builtin.Range.rangeSize a b 1 = (n : Int))
    (F : Fr h₀ env.locals s.heap m₀) (N : News h₀ env.locals s.heap nws) (hz : nws = led o₀) (hd₀ : o₀.data = .cell v₀) (hm : ∀ o, (cK, o) ∈ led o) (hup : ∀ o o' p, p ∈ led o' → p = (cK, o') ∨ (p ∈ led o ∧ @Ne Nat p.1 cK))
    (hk : env.scope.kind = .function) (hx : env.kindOf x = some .cell) (hc : env.cells.lookup x = some cK)
    (fr : (Str → Option Value) → σ → Str → Option Value) (I : Nat → σ → Prop) (c₀ : σ) (e1 : m₀ = fr m₀ c₀) (hI : I 0 c₀)
    (turn : ∀ (i : Nat) t o c h tk own, i < n → o.data = .cell (some (.int (a + (i : Int)) t)) → I i c → Fr h₀ env.locals h (fr m₀ c) → News h₀ env.locals h (led o ++ own) →
      wpAny (model prog w) A (execs body env) (CPost h₀ env.locals { s with heap := h, toks := tk } (fr m₀) (led o) own (I (i + 1)) Q) E { s with heap := h, toks := tk })
    (done : ∀ o v c h tk, o.data = .cell v → I n c → Fr h₀ env.locals h (fr m₀ c) → News h₀ env.locals h (led o) → Q .next { s with heap := h, toks := tk }) :
    wpAny (model prog w) A (pyIter (.ref r)) (fun it s₂ => TurnsAt prog w A h₀ env (.Name x px) body Q E it s₂) E s := by
  subst hz
  refine wpAny_pyIter_range hr hsmall ?_
  have hcl : cK < s.heap.objs.size := Heap.lt_size (N _ (hm o₀)).1
  have W : Walks prog w A s.heap.objs.size [s.heap.objs.size] [s.heap.objs.size] n (fun i v => i < n ∧ ∃ t, v = .int (a + i * 1) t)
      (fun i h => IsRangeIter h s.heap.objs.size (a + (i : Nat) * 1) ((n : Int) - (i : Nat)) 1) := (Walks.range hh _ a 1 n).bound
  refine ⟨_, _, _, n, _, _, _, m₀, led o₀, (fun i m nx => ∃ o v c, nx = led o ∧ o.data = .cell v ∧ m = fr m₀ c ∧ I i c), rfl, KTurns.ofWalks W (fun i v s' Q' E' _ q => ?_), ?_, ?_, ?_, (by show IsRangeIter _ _ _ _ _; rw [hn]; simpa using Heap.get?_push_size _ rfl), F.push _, (fun p hp => ⟨Heap.get?_push_of_some _ (N p hp).1, (N p hp).2⟩), ⟨o₀, v₀, c₀, rfl, hd₀, e1, hI⟩, ?_, ?_⟩
  · exact wpAny_pure q
  · intro hm'
    exact absurd F.ns.lt ((List.mem_singleton.mp hm') ▸ Nat.lt_irrefl _)
  · intro b' hb
    rw [List.mem_singleton.mp hb]
    exact next_is_new F
  · intro p hp hI'
    exact absurd (Heap.lt_size (N p hp).1) ((List.mem_singleton.mp hI') ▸ Nat.lt_irrefl _)
  · rintro i v m₁ nx h₁ tk₁ own hi ⟨_, u, rfl⟩ ⟨o, vo, c, rfl, hdo, rfl, hI'⟩ hoff hown hget _ hst F₁ N₁
    have hg := (N₁ (cK, o) (List.mem_append_right _ (hm o)))
    refine wpAny_assign_Name (wpAny_storeName_cell hk hx hc ⟨o, hg.1, hdo⟩ (fun h₂ hv₂ hs₂ => ?_))
    obtain ⟨o', ho', hd'⟩ := hv₂
    rw [Int.mul_one] at hd'
    have F₂ : Fr h₀ env.locals h₂ (fr m₀ c) := F₁.change hs₂ hg.2.1 hg.2.2
    have off : ∀ p ∈ own, @Ne Nat p.1 cK := fun p hp e => by
      have e2 := List.mem_singleton.mp (hown p hp)
      exact absurd hcl ((e.symm.trans e2 : cK = s.heap.objs.size) ▸ Nat.lt_irrefl _)
    have N₂ : News h₀ env.locals h₂ (led o' ++ own) := fun p hp => by
      rcases List.mem_append.mp hp with hp | hp
      · rcases hup o o' p hp with rfl | ⟨h3, h4⟩
        · exact ⟨ho', hg.2⟩
        · have z := N₁ p (List.mem_append_right _ h3)
          exact ⟨(hs₂.2 _ h4).trans z.1, z.2⟩
      · have z := N₁ p (List.mem_append_left _ hp)
        exact ⟨(hs₂.2 _ (off p hp)).trans z.1, z.2⟩
    refine wpAny_mono (turn i u o' c h₂ tk₁ own hi hd' hI' F₂ N₂) (fun f s₂ p => ?_) fun _ _ e => e
    have hoff' : ∀ p ∈ led o', p.1 ∉ [s.heap.objs.size] := fun p hp => by
      rcases hup o o' p hp with rfl | ⟨h3, h4⟩
      · intro h5
        have := List.mem_singleton.mp h5
        exact absurd hcl (this ▸ Nat.lt_irrefl _)
      · exact hoff p h3
    have fin : (∃ (c' : σ) (h' : Heap) (tk' : Nat), s₂ = { s with heap := h', toks := tk' } ∧ Fr h₀ env.locals h' (fr m₀ c') ∧ News h₀ env.locals h' (led o' ++ own) ∧ I (i + 1) c') →
        LoopStepU h₀ env.locals [s.heap.objs.size] own (fun m nx' => ∃ o v c, nx' = led o ∧ o.data = .cell v ∧ m = fr m₀ c ∧ I (i + 1) c) { s with heap := h₁, toks := tk₁ } .next s₂ := by
      rintro ⟨c', h', tk', rfl, F', N', hI9⟩
      exact ⟨rfl, h', tk', _, led o', rfl, F', fun p hp => N' p ((List.mem_append.mp hp).elim (fun h => List.mem_append.mpr (.inr h)) fun h => List.mem_append.mpr (.inl h)), hoff', o', _, c', rfl, hd', rfl, hI9⟩
    cases f with
    | ret v => exact .ret p
    | brk => exact .brk p
    | next => exact .next (fin p)
    | cont => exact .cont (fin p)
  · rintro h' tk m₁ nx F₁ N₁ _ ⟨o, v, c, rfl, hdo, rfl, hI'⟩
    exact done o v c h' tk hdo hI' F₁ N₁
end

/-- what stands between the signs drawn: the deal, and the signs so far -/
def DealJ (dl nl : Addr) (n : Nat) (rest : List (Addr × Obj)) (i : Nat) (ys : List Value) (nws : List (Addr × Obj)) : Prop :=
  ∃ (i' : Nat) (ti : Tok) (sd : Int) (ts : Tok) (L : List Nat), nws = (dl, dealAt nl i' ti sd ts n) :: rest ∧ i' ≤ 40 ∧ 0 ≤ sd ∧ sd < 2147483647 ∧ StrsAre ys (L.map fun n => (⟨#[n]⟩ : Str)) ∧ (∀ c ∈ L, c < 128) ∧ L.length = i
theorem DealJ.start {dl nl : Addr} {n : Nat} {rest : List (Addr × Obj)} {i' : Nat} {ti : Tok} {sd : Int} {ts : Tok} (h1 : i' ≤ 40) (h2 : 0 ≤ sd) (h3 : sd < 2147483647) : DealJ dl nl n rest 0 [] ((dl, dealAt nl i' ti sd ts n) :: rest) :=
  ⟨i', ti, sd, ts, [], rfl, h1, h2, h3, .nil, (fun _ h => nomatch h), rfl⟩
theorem DealJ.more {dl nl : Addr} {n : Nat} {rest : List (Addr × Obj)} {i' i : Nat} {ti : Tok} {sd : Int} {ts t : Tok} {ys : List Value} {L : List Nat} {c : Nat} (h1 : i' ≤ 40) (h2 : 0 ≤ sd) (h3 : sd < 2147483647) (h4 : StrsAre ys (L.map fun n => (⟨#[n]⟩ : Str))) (h5 : ∀ c ∈ L, c < 128) (h6 : L.length = i) (h7 : c < 128) :
    DealJ dl nl n rest (i + 1) (ys ++ [.str ⟨#[c]⟩ t]) ((dl, dealAt nl i' ti sd ts n) :: rest) := by
  refine ⟨i', ti, sd, ts, L ++ [c], rfl, h1, h2, h3, ?_, fun z hz => ?_, by rw [List.length_append, h6]; rfl⟩
  · rw [List.map_append]
    exact StrsAre.append' h4 (.cons _ _ .nil)
  · rcases List.mem_append.mp hz with hz | hz
    · exact h5 z hz
    · rw [List.mem_singleton.mp hz]; exact h7

/-! ### texts made of signs -/
theorem ones_sum : ∀ L : List Nat, ((L.map fun n => (⟨#[n]⟩ : Str)).map (·.length)).sum = L.length
  | [] => rfl
  | n :: r => by
    rw [List.map_cons, List.map_cons, List.sum_cons, ones_sum r, List.length_cons]
    show 1 + _ = _
    omega
section
variable {prog : Program} {w : World} {A : Around} {E : Value → Shared → Prop} {s : Shared} {h₀ : Heap} {L₀ : Addr} {m : Str → Option Value} {news : List (Addr × Obj)} {Q : Value → Shared → Prop}
theorem join_call {D : Addr} {ys : List Value} {L : List Nat} {t : Tok} (hl : s.heap.IsList D ys.toArray) (hc : StrsAre ys (L.map fun n => (⟨#[n]⟩ : Str))) (hz : L.length ≤ 1000)
    (h : ∀ X t k, X.cps.toList = L → Q (.str X t) { s with toks := k }) : wpAny (model prog w) A (call (.builtin "str.join") [.str (Str.ofString "") t, .ref D]) Q E s := by
  refine join_listW (ys := L.map fun n => (⟨#[n]⟩ : Str)) hl (by simpa using hc) (by decide) ?_ (fun t' k => h _ t' k (join_signs L))
  rw [ones_sum, List.length_map]
  omega
theorem item_word {value slice : Expr} {W : Str} {t u : Tok} {r : Nat} (hr : r < W.length) (hz : W.length ≤ 1000) (hW : ∀ c ∈ W.cps.toList, c < 128)
    (h : ∀ c t' k, c < 128 → Q (.str ⟨#[c]⟩ t') { s with toks := k })
    (hs : subscripted slice false (.str W t) (.int (r : Int) u) = operate [.str W t, .int (r : Int) u] (getItem (.str W t) (.int (r : Int) u)) := by with_unfolding_all rfl)
    (ht : ∀ r, letTemporaryGo value (.str W t) r = pure () := by intro _; with_unfolding_all rfl) :
    wpAny (model prog w) A (subscriptTail value slice (.str W t) (.int (r : Int) u)) Q E s := by
  obtain ⟨c, e1, e2⟩ := item_eq W hr
  refine item_str (fitsSsize_of (N := 9223372036854775808) (by omega) (by omega) (Int.le_refl _)) (by omega) (by omega) (fun _ => ?_) hs ht
  rw [e2]
  exact h c _ _ (hW c (List.mem_of_getElem? e1))
theorem strs_get : ∀ (ys : List Value) (L : List Nat), ys.length = L.length → (∀ (j : Nat) (v : Value), ys[j]? = some v → ∃ (c : Nat) (u : Tok), L[j]? = some c ∧ v = Value.str ⟨#[c]⟩ u) → StrsAre ys (L.map fun n => (⟨#[n]⟩ : Str))
  | [], [], _, _ => .nil
  | [], _ :: _, h, _ => by cases h
  | _ :: _, [], h, _ => by cases h
  | y :: ys, c :: L, h, g => by
    obtain ⟨c', u, e1, rfl⟩ := g 0 y rfl
    cases e1
    exact .cons _ u (strs_get ys L (Nat.succ.inj h) fun j v hj => g (j + 1) v hj)
theorem list_signs {x : Str} {t : Tok} (hh : A.handled = none) (F : Fr h₀ L₀ s.heap m) (N : News h₀ L₀ s.heap news) (hz : x.length ≤ 1000)
    (h : ∀ D ys n h' tk, Fr h₀ L₀ h' m → News h₀ L₀ h' ((D, listOf (List.toArray ys) n) :: news) → (∀ p ∈ news, p.1 < D) → StrsAre ys (x.cps.toList.map fun n => (⟨#[n]⟩ : Str)) → Q (.ref D) { s with heap := h', toks := tk }) :
    wpAny (model prog w) A (call (.type "list") [.str x t]) Q E s := by
  have hz9 : x.cps.size ≤ sizeLine := by rw [sizeLine_eq]; have : x.cps.size ≤ 1000 := hz; omega
  refine call_list_str (hn := hz9) hh x t fun h' tk acc c hk hS hacc => ?_
  have F' := F.keeps hk
  refine h s.heap.objs.size acc.toList c h' tk F' (fun p hp => ?_) (fun p hp => Heap.lt_size (N p hp).1) (strs_get _ _ (by simp [hacc.1]) fun j v hj => ?_)
  · rcases List.mem_cons.mp hp with rfl | hp
    · refine ⟨by rw [hS], Nat.ne_of_gt F.ns.lt, ?_⟩
      cases e : h₀.get? s.heap.objs.size with
      | none => rfl
      | some o => exact absurd (Heap.lt_size (F.keep _ _ e)) (Nat.lt_irrefl _)
    · exact ⟨hk _ _ (N p hp).1, (N p hp).2⟩
  · obtain ⟨c, u, hc, rfl⟩ := hacc.2 j v (by simpa using hj)
    exact ⟨c, u, by simpa using hc, rfl⟩
theorem pick_upto {vs : List Value} {y : Nat} : (slicePick vs.toArray none (some (y : Int)) none).toList = vs.take y := by
  have e : sliceBounds none (some (y : Int)) none vs.toArray.size = (((0 : Nat) : Int), ((min y vs.toArray.size : Nat) : Int), 1) := by
    simp only [sliceBounds, Option.getD_none, show (1 : Int) > 0 by decide, if_true, if_neg (show ¬ ((y : Int) < 0) by omega)]
    congr 1
    congr 1
    omega
  rw [kmk_pick_nat _ e]
  show (vs.drop 0).take (min y vs.toArray.size - 0) = _
  rw [List.drop_zero, Nat.sub_zero, List.size_toArray, kmk_take_min]
theorem pick_from {vs : List Value} {x : Nat} : (slicePick vs.toArray (some (x : Int)) none none).toList = vs.drop x := by
  have e : sliceBounds (some (x : Int)) none none vs.toArray.size = (((min x vs.toArray.size : Nat) : Int), ((vs.toArray.size : Nat) : Int), 1) := by
    simp only [sliceBounds, Option.getD_none, show (1 : Int) > 0 by decide, if_true, if_neg (show ¬ ((x : Int) < 0) by omega)]
    congr 1
    omega
  rw [kmk_pick_nat _ e]
  show (vs.drop (min x vs.toArray.size)).take (vs.toArray.size - min x vs.toArray.size) = _
  rw [List.size_toArray, kmk_drop_min]
  exact List.take_of_length_le (by rw [List.length_drop]; omega)
theorem strs_take : ∀ {vs : List Value} {xs : List Str}, StrsAre vs xs → ∀ k, StrsAre (vs.take k) (xs.take k)
  | _, _, .nil, k => by simpa using StrsAre.nil
  | _, _, .cons n t r, 0 => .nil
  | _, _, .cons n t r, k + 1 => .cons n t (strs_take r k)
theorem strs_drop : ∀ {vs : List Value} {xs : List Str}, StrsAre vs xs → ∀ k, StrsAre (vs.drop k) (xs.drop k)
  | _, _, .nil, k => by simpa using StrsAre.nil
  | _, _, .cons n t r, 0 => .cons n t r
  | _, _, .cons _ _ r, k + 1 => strs_drop r k
end
theorem ne_ovn2 {prog : Program} {w : World} {A : Around} {E : Value → Shared → Prop} {s : Shared} {o o' : Option Nat} {t u : Tok} {Q : Value → Shared → Prop} (e : o = o') (h : Q (.bool false) s) : wpAny (model prog w) A (compareOp .NotEq (ovn o t) (ovn o' u)) Q E s := by
  subst e
  exact ne_ovn h
theorem if_cutS {M : Model} {A : Around} {E : Value → Shared → Prop} {s : Shared} {h₀ : Heap} {L : Addr} {m : Str → Option Value} {led : List (Addr × Obj)} {env : Env} {test : Expr} {body orelse : List Stmt} {pos : Pos} {Q : Flow → Shared → Prop} (_F : Fr h₀ L s.heap m) (_N : News h₀ L s.heap led)
    (h : wpAny M A (isTrue test env (eval test env)) (fun b s' => CBack h₀ L m s led (b = false) s') E s)
    (next : ∀ h' tk, Fr h₀ L h' m → News h₀ L h' led → wpAny M A (execs orelse env) Q E { s with heap := h', toks := tk }) : Seal (wpAny M A (exec (.If test body orelse pos) env) Q E s) := by
  refine ⟨wpAny_If (wpAny_mono h (fun b s₂ q => ?_) fun _ _ e => e)⟩
  obtain ⟨rfl, h', tk', rfl, F', N'⟩ := q
  simpa using next h' tk' F' N'
theorem starts_eq (x y : Str) {p : Nat} (hp : p ≤ x.length) : Txt.startswith (Txt.slice x (some (p : Int)) none) y = decide ((x.cps.toList.drop p).take y.cps.toList.length = y.cps.toList) := by
  have h1 := slice_sn x hp
  have h2 : (Txt.slice x (some (p : Int)) none).length = x.length - p := by rw [← len_toList, h1, List.length_drop, len_toList]
  unfold Txt.startswith
  rw [StrLaws.subAt_eq, h1, List.drop_zero, h2, Nat.zero_add, len_toList]
  rw [Bool.eq_iff_iff, Bool.and_eq_true, decide_eq_true_eq, decide_eq_true_eq, beq_iff_eq]
  constructor
  · exact fun h => h.2
  · intro h
    refine ⟨?_, h⟩
    have := congrArg List.length h
    rw [List.length_take, List.length_drop, len_toList, len_toList] at this
    omega
theorem chars_yes {w : World} {x y : Str} {p : Nat} (h1 : x.length ≤ 1000) (h2 : y.length ≤ 1000) (h3 : p ≤ x.length) (h : decide ((x.cps.toList.drop p).take y.cps.toList.length = y.cps.toList) = true) (tx ta ty : Tok) : SpecV w 21 [.str x tx, .int (p : Int) ta, .str y ty] 1 (fun t => .int ((p : Int) + (y.length : Int)) t) := by
  have z := s_chars_end w x y tx ty p ta h1 h2 h3
  unfold charsEnd at z
  rw [if_pos (of_decide_eq_true h), len_toList] at z
  exact z
theorem chars_no {w : World} {x y : Str} {p : Nat} (h1 : x.length ≤ 1000) (h2 : y.length ≤ 1000) (h3 : p ≤ x.length) (h : decide ((x.cps.toList.drop p).take y.cps.toList.length = y.cps.toList) = false) (tx ta ty : Tok) : SpecV w 21 [.str x tx, .int (p : Int) ta, .str y ty] 1 (fun _ => .none) := by
  have z := s_chars_end w x y tx ty p ta h1 h2 h3
  unfold charsEnd at z
  rw [if_neg (of_decide_eq_false h)] at z
  exact z
section
variable {prog : Program} {w : World} {A : Around} {E : Value → Shared → Prop} {s : Shared} {h₀ : Heap} {L l : Addr} {m : Str → Option Value} {news : List (Addr × Obj)} {value slice : Expr} {vs : List Value} {K : List Nat} {vl vu : Value} {Q : Value → Shared → Prop}
theorem sl_upto {y : Int} (F : Fr h₀ L s.heap m) (N : News h₀ L s.heap news) (hl : s.heap.IsList l vs.toArray) (hc : StrsAre vs (K.map fun n => (⟨#[n]⟩ : Str))) (h0 : 0 ≤ y) (pl : IsPart vl none) (pu : IsPart vu (some y))
    (h : ∀ D ws h', Fr h₀ L h' m → News h₀ L h' ((D, listOf (List.toArray ws) 0) :: news) → (∀ p ∈ news, p.1 < D) → StrsAre ws ((K.take y.toNat).map fun n => (⟨#[n]⟩ : Str)) → Q (.ref D) { s with heap := h' })
    (hs : subscripted slice false (.ref l) (.ref s.heap.objs.size) = operate [.ref s.heap.objs.size, .ref l] (getItem (.ref l) (.ref s.heap.objs.size))) (ht : ∀ r, letTemporaryGo value (.ref l) r = pure ()) (hz : K.length ≤ 1000) :
    wpAny (model prog w) A (subscriptTail value slice (.ref l) (.ref s.heap.objs.size)) Q E { s with heap := s.heap.push { cls := .type "slice", data := .fields #[vl, vu, .none] } } := by
  obtain ⟨k, rfl⟩ := Int.eq_ofNat_of_zero_le h0
  have hlen := hc.length
  rw [List.length_map] at hlen
  refine kmk_slice_lit F N hl pl pu (pick_upto (y := k)) (fun D h' F' N' l1 => h D _ h' F' N' l1 ?_) hs ht (by rw [List.size_toArray, sizeLine_eq]; omega)
  have z := strs_take hc k
  rw [← List.map_take] at z
  exact z
theorem sl_from {y : Int} (F : Fr h₀ L s.heap m) (N : News h₀ L s.heap news) (hl : s.heap.IsList l vs.toArray) (hc : StrsAre vs (K.map fun n => (⟨#[n]⟩ : Str))) (h0 : 0 ≤ y) (pl : IsPart vl (some y)) (pu : IsPart vu none)
    (h : ∀ D ws h', Fr h₀ L h' m → News h₀ L h' ((D, listOf (List.toArray ws) 0) :: news) → (∀ p ∈ news, p.1 < D) → StrsAre ws ((K.drop y.toNat).map fun n => (⟨#[n]⟩ : Str)) → Q (.ref D) { s with heap := h' })
    (hs : subscripted slice false (.ref l) (.ref s.heap.objs.size) = operate [.ref s.heap.objs.size, .ref l] (getItem (.ref l) (.ref s.heap.objs.size))) (ht : ∀ r, letTemporaryGo value (.ref l) r = pure ()) (hz : K.length ≤ 1000) :
    wpAny (model prog w) A (subscriptTail value slice (.ref l) (.ref s.heap.objs.size)) Q E { s with heap := s.heap.push { cls := .type "slice", data := .fields #[vl, vu, .none] } } := by
  obtain ⟨k, rfl⟩ := Int.eq_ofNat_of_zero_le h0
  have hlen := hc.length
  rw [List.length_map] at hlen
  refine kmk_slice_lit F N hl pl pu (pick_from (x := k)) (fun D h' F' N' l1 => h D _ h' F' N' l1 ?_) hs ht (by rw [List.size_toArray, sizeLine_eq]; omega)
  have z := strs_drop hc k
  rw [← List.map_drop] at z
  exact z
theorem add_signs {a b : Addr} {us ws : List Value} {K' : List Nat} (F : Fr h₀ L s.heap m) (N : News h₀ L s.heap news) (hl : s.heap.IsList a us.toArray) (hc : StrsAre us (K.map fun n => (⟨#[n]⟩ : Str))) (hb : s.heap.IsList b ws.toArray) (hd : StrsAre ws (K'.map fun n => (⟨#[n]⟩ : Str))) (hz : K.length ≤ 1000) (hz' : K'.length ≤ 1000)
    (h : ∀ D zs n h', Fr h₀ L h' m → News h₀ L h' ((D, listOf (List.toArray zs) n) :: news) → (∀ p ∈ news, p.1 < D) → StrsAre zs ((K ++ K').map fun n => (⟨#[n]⟩ : Str)) → Q (.ref D) { s with heap := h' }) :
    wpAny (model prog w) A (binaryOp .Add (.ref a) (.ref b)) Q E s := by
  have h1 := hc.length
  have h2 := hd.length
  rw [List.length_map] at h1 h2
  refine add_arrays F N hl hb (fun h' F' N' => h s.heap.objs.size (us ++ ws) 0 h' F' (by simpa using N') (fun p hp => Heap.lt_size (N p hp).1) (by rw [List.map_append]; exact StrsAre.append' hc hd)) ?_
  rw [sizeLine_eq, List.size_toArray, List.size_toArray]
  omega
end
theorem s_replacedI (w : World) (x y : Str) (tx ty : Tok) (p e : Int) (tp te : Tok) (h1 : x.length ≤ 1000) (h2 : y.length ≤ 1000) (h3 : 0 ≤ p) (h4 : 0 ≤ e) (h5 : e ≤ x.length) :
    SpecV w 175 [.str x tx, .int p tp, .int e te, .str y ty] 1 (fun t => .str ⟨(x.cps.toList.take p.toNat ++ y.cps.toList ++ x.cps.toList.drop e.toNat).toArray⟩ t) := by
  obtain ⟨p', rfl⟩ := Int.eq_ofNat_of_zero_le h3
  obtain ⟨e', rfl⟩ := Int.eq_ofNat_of_zero_le h4
  exact s_replaced w x y tx ty p' e' tp te h1 h2 (by omega)
theorem same_text (l : List Nat) (Z : Str) (h : Z.cps.toList = l) : ((⟨l.toArray⟩ : Str) == Z) = true := by
  subst h
  rw [str_beq]
  simp
theorem eq_same {prog : Program} {w : World} {A : Around} {E : Value → Shared → Prop} {s : Shared} {l : List Nat} {Z : Str} {t u : Tok} {Q : Value → Shared → Prop} (e : Z.cps.toList = l) (h : Q (.bool true) s) : wpAny (model prog w) A (compareOp .Eq (.str ⟨l.toArray⟩ t) (.str Z u)) Q E s :=
  eq_str (by rw [same_text l Z e]; exact h)
end Mine
namespace Mine
open PySem.Builtin PySem.Builtin.Str
section
local macro_rules | `(tactic| walk_at "eval ListComp") => `(tactic| refine Stop.of ?_)
local macro_rules | `(tactic| walk_at "CompSrc") => `(tactic| refine Stop.of ?_)
local macro_rules | `(tactic| walk_at "CompEnd") => `(tactic| refine Stop.of ?_)
local macro_rules | `(tactic| walk_at "exec For Name Call cons nil") => `(tactic| refine Stop.of ?_)
local macro_rules | `(tactic| walk_at "call ref") => `(tactic| (k_here; k_dflt ((refine useV (s_is_balanced _ _ _ (by omega)) (ret := ?_)); intro _ _ _ _ _; (try dsimp only); (try k_fold))))
local macro_rules | `(tactic| walk_at "call ref") => `(tactic| (k_here; k_dflt ((refine useV (s_evens _ _ _ (by omega)) (ret := ?_)); intro _ _ _ _ _; (try dsimp only); (try k_fold))))
local macro_rules | `(tactic| walk_at "call ref") => `(tactic| (k_here; k_dflt ((refine useV (s_bal_end _ _ _ _ _ (by omega) (by omega)) (ret := ?_)); intro _ _ _ _ _; (try dsimp only); (try k_fold))))
local macro_rules | `(tactic| walk_at "call ref") => `(tactic| (k_here; k_dflt ((refine useL (s_breakx_ends _ _ _ _ _ _ _ (by omega) (by omega) (by omega)) (ret := ?_)); intro _ _ _ _ _ _ _ _ _; (try dsimp only); (try k_fold))))
local macro_rules | `(tactic| walk_at "call ref") => `(tactic| (k_here; k_dflt ((rename (∀ _, ∀ _, ∀ _, ∀ _, SpecV _ 21 _ _ _) => hSc); (refine useV (hSc _ _ _ _) (ret := ?_)); intro _ _ _ _ _; (try dsimp only); (try k_fold))))
local macro_rules | `(tactic| walk_at "exec Assign cons ListComp") => `(tactic| refine Stop.of ?_)
local macro_rules | `(tactic| walk_at "CompSrcT") => `(tactic| refine Stop.of ?_)
local macro_rules | `(tactic| walk_at "CBack") => `(tactic| refine Stop.of ?_)
local macro_rules | `(tactic| walk_at "CPost") => `(tactic| refine CPost.ret ?_)
local macro_rules | `(tactic| walk_at "exec If") => `(tactic| ((with_reducible show wpAny _ _ (exec (Stmt.If (Expr.Compare (Expr.Call (Expr.Name (Str.ofString "chars_end") _) _ _ _) _ _ _) _ _ _) _) _ _ _); refine Stop.of ?_))
local macro_rules | `(tactic| walk_at "binaryOp Add ref ref") => `(tactic| (k_here; k_dflt ((refine' add_none ?zh1 ?zh2 ?zh3 ?zh4 ?zh5 ?zh6 ?zh7 ?_); (case zh1 => k_asm); (case zh2 => k_asm); (case zh3 => is_list); (case zh4 => assumption); (case zh5 => is_list); (case zh6 => exact rfl); (case zh7 => omega); intro D9 h9 zs9 n9 t9 F9 N9 l9 z9; (try dsimp only); (try k_fold))))
local macro_rules | `(tactic| walk_at "subscriptTail") => `(tactic| (k_here; (with_reducible show wpAny _ _ (subscriptTail _ _ (Value.ref _) (Value.int 0 _)) _ _ _); (with_unfolding_all refine' item_first ?zh1 ?zh2 ?_ ?zh4; (case zh1 => is_list); (case zh2 => assumption); (case zh4 => with_unfolding_all rfl); k_whole)))
local macro_rules | `(tactic| walk_at "compareOp NotEq") => `(tactic| (k_here; k_dflt (refine ne_ovn2 ?zh ?_; (case zh => assumption))))
local macro_rules | `(tactic| walk_at "binaryOp Add ref ref") => `(tactic| (k_here; k_dflt ((refine' add_signs ?zh1 ?zh2 ?zh3 ?zh4 ?zh5 ?zh6 ?zh7 ?zh8 ?_); (case zh1 => k_asm); (case zh2 => k_asm); (case zh3 => is_list); (case zh4 => assumption); (case zh5 => is_list); (case zh6 => assumption); (case zh7 => (simp only [List.length_append, List.length_take, List.length_drop, len_toList]; omega)); (case zh8 => (simp only [List.length_append, List.length_take, List.length_drop, len_toList]; omega)); intro D9 zs9 n9 h9 F9 N9 l9 c9; (try k_lt l9); (try dsimp only); (try k_fold))))
local macro_rules | `(tactic| walk_at "call type:list") => `(tactic| (k_here; (with_reducible show wpAny _ _ (call (Value.type _) [Value.str _ _]) _ _ _); k_dflt ((refine' list_signs ?zh1 ?zh2 ?zh3 ?zh4 ?_); (case zh1 => exact rfl); (case zh2 => k_asm); (case zh3 => k_asm); (case zh4 => omega); intro D9 ys9 n9 h9 tk9 F9 N9 l9 c9; (try k_lt l9); (try dsimp only); (try k_fold))))
local macro_rules | `(tactic| walk_at "subscriptTail Call") => `(tactic| (k_here; (with_reducible show wpAny _ _ (subscriptTail (PySem.Expr.Call _ _ _ _) (PySem.Expr.Slice _ _ none _) (Value.ref _) (Value.ref _)) _ _ _); k_dflt (refine kba_turn (value' := PySem.Expr.Name (PySem.Str.ofString "_") ⟨0, 0, 0, 0⟩) (fun _ => rfl) ?_)))
local macro_rules | `(tactic| walk_at "compareOp Eq str str") => `(tactic| (k_here; k_dflt (refine eq_same ?zh ?_; (case zh => assumption))))
local macro_rules | `(tactic| walk_at "subscriptTail Name Slice ref ref") => `(tactic| (k_here; (with_reducible show wpAny _ _ (subscriptTail _ (PySem.Expr.Slice none _ none _) (Value.ref _) (Value.ref _)) _ _ _); k_dflt ((refine' sl_upto ?zh1 ?zh2 ?zh3 ?zh4 ?zh5 ?zh6 ?zh7 ?_ ?zh8 ?zh9 ?zhz); (case zh1 => k_asm); (case zh2 => k_asm); (case zh3 => kmk_list); (case zh4 => assumption); (case zh6 => kmk_part); (case zh7 => kmk_part); (case zh5 => omega); (case zh8 => with_unfolding_all rfl); (case zh9 => kmk_pure); (case zhz => (simp only [List.length_append, List.length_take, List.length_drop, len_toList]; omega)); intro D9 ws9 h9 F9 N9 l9 c9; (try k_lt l9); (try dsimp only); (try k_fold))))
local macro_rules | `(tactic| walk_at "subscriptTail Name Slice ref ref") => `(tactic| (k_here; (with_reducible show wpAny _ _ (subscriptTail _ (PySem.Expr.Slice (some _) none none _) (Value.ref _) (Value.ref _)) _ _ _); k_dflt ((refine' sl_from ?zh1 ?zh2 ?zh3 ?zh4 ?zh5 ?zh6 ?zh7 ?_ ?zh8 ?zh9 ?zhz); (case zh1 => k_asm); (case zh2 => k_asm); (case zh3 => kmk_list); (case zh4 => assumption); (case zh6 => kmk_part); (case zh7 => kmk_part); (case zh5 => omega); (case zh8 => with_unfolding_all rfl); (case zh9 => kmk_pure); (case zhz => (simp only [List.length_append, List.length_take, List.length_drop, len_toList]; omega)); intro D9 ws9 h9 F9 N9 l9 c9; (try k_lt l9); (try dsimp only); (try k_fold))))
local macro_rules | `(tactic| walk_at "call ref") => `(tactic| (k_here; k_dflt ((refine useV (s_replacedI _ _ _ _ _ _ _ _ _ (by omega) (by omega) (by omega) (by omega) (by omega)) (ret := ?_)); intro _ _ _ _ _; (try dsimp only); (try k_fold))))
local macro_rules | `(tactic| walk_at "pyIter ref") => `(tactic| refine Stop.of ?_)
local macro_rules | `(tactic| walk_at "call ref") => `(tactic| (k_here; k_dflt ((refine useV (s_ends_right _ _ _ _ _ _ _ _ _ (by omega) (by omega) (by omega) (by assumption)) (ret := ?_)); intro _ _ _ _ _; (try dsimp only); (try k_fold))))
local macro_rules | `(tactic| walk_at "ite") => `(tactic| (k_here; first | refine ite_t (by with_reducible assumption) ?_ | refine ite_f (by with_reducible assumption) ?_))
local macro_rules | `(tactic| walk_at "ite") => `(tactic| (k_closed; first | refine ite_t (by decide +kernel) ?_ | refine ite_f (by decide +kernel) ?_))
local macro_rules | `(tactic| walk_at "call ref") => `(tactic| (k_here; k_dflt ((refine useD  (ret := ?_)); intro dl9 nl9 us9 ks9 sd9 ti9 ts9 n9 n9' h9 tk9 hI9 hks9 hkl9 hs1 hs2 hlt9 l9 off9 F9 N9; (try k_lt l9); (try simp only [LCg.Off1, and_true] at off9); (try dsimp only); (try k_fold))))
local macro_rules | `(tactic| walk_at "call ref") => `(tactic| (k_here; k_dflt ((refine useT (s_take _ _ (by omega) (by omega)) (ret := ?_)); intro r9 t9 h9 tk9 i9 ti9 sd9 ts9 hr9 hi9 hsa9 hsb9 F9 N9; (try dsimp only at N9); (try dsimp only); (try k_fold))))
local macro_rules | `(tactic| walk_at "subscriptTail") => `(tactic| (k_here; (with_reducible show wpAny _ _ (subscriptTail _ _ (Value.str (Str.ofString _) _) (Value.int _ _)) _ _ _); k_dflt ((refine' item_word ?zh1 ?zh2 ?zh3 ?_ ?zh5 ?zh6); (case zh1 => first | exact Nat.lt_of_lt_of_le (show _ < 3 by omega) (by decide +kernel) | exact Nat.lt_of_lt_of_le (show _ < 5 by omega) (by decide +kernel)); (case zh2 => decide +kernel); (case zh3 => decide +kernel); (case zh5 => with_unfolding_all rfl); (case zh6 => (intro _; with_unfolding_all rfl))); intro c9 t9 k9 hc9; (try dsimp only)))
local macro_rules | `(tactic| walk_at "call builtin:str.join") => `(tactic| (k_here; k_dflt ((refine' join_call ?zh1 ?zh2 ?zh3 ?_); (case zh1 => is_list); (case zh2 => assumption); (case zh3 => first | omega | (simp only [List.length_append, List.length_take, List.length_drop, len_toList]; omega))); intro X9 t9 k9 hX9; (have hXl9 := (len_toList X9).symm.trans (congrArg List.length hX9)); (try dsimp only)))
set_option maxHeartbeats 16000000
theorem law_holds : PySem.Challenge.rw_np0291_01.Holds := hd (by
  w_top off
  k_go0
  all_goals try k_fold
  rename Heap.CodeRec _ _ _ => hcd
  rename Glob _ _ _ _ _ _ _ _ => hGL
  rename TopE _ _ _ _ => hTE
  rename TopW _ _ _ => hTW
  clear hcd hGL hTE hTW
  k_steps
  unfold Stop
  rename_i o4 o3 o2 o1 e4 e3 e2 e1 N0 X0 dl nl us ks sd ti ts n n' h9 tk9 hI hks hkl hs1 hs2 hlt l9 off9 h8 oD F9 N9 dD
  refine Stop.of ?_
  unfold Stop
  rename Fr _ _ _ _ => F9
  rename News _ _ _ _ => N9
  obtain ⟨rest, hrest, N9⟩ : ∃ rest, rest = _ ∧ News _ _ _ ((dl, dealAt nl _ _ _ _ n) :: rest) := ⟨_, rfl, N9⟩
  k_dflt (refine LCg.ListComp_U F9 (by with_unfolding_all rfl) (by decide) (by rfl) (by decide) (by rfl) ?_)
  subst hrest
  k_steps
  unfold Stop
  rename_i  r t9 h9' tk9' i9 ti9 sd9 ts9 hr9 hi9 hsa9 hsb9 F' N' h' tk' t1 u1 v1 a3 a2 a1 a0
  rename Fr _ _ _ _ => F9
  rename News _ _ _ _ => N9
  rename IsRange _ _ _ _ _ _ _ _ => R9
  clear hs1 hs2
  obtain ⟨rest, hrest, N9⟩ : ∃ rest, rest = _ ∧ News _ _ _ ((dl, dealAt nl _ _ _ _ n) :: rest) := ⟨_, rfl, N9⟩
  refine LCg.CompSrc.range (n := r) rfl F9 N9 R9 (small_one (by omega) (by omega) (by omega) (by omega)) (by rw [rangeSize_nat]; omega) (by rw [sizeLine_eq]; omega) fun g9 => ?_
  refine restU trivial (DealJ dl nl n rest) (DealJ.start hi9 hsa9 hsb9) ?_ ?_
  · clear F9 N9 R9 F' N' hr9 hi9 hsa9 hsb9
    rintro i v I oI C oC D m₂ ys nws h tk E' hi hP ⟨i', ti, sd, ts, L, rfl, j1, j2, j3, j4, j5, j6⟩ hS hC hx F9 N9 off ne
    subst hrest
    have off0 := off
    simp only [LCg.Off3, and_true] at off
    k_steps
    unfold Stop
    rename Fr _ _ _ _ => F8
    rename News _ _ _ _ => N8
    exact LCg.CompEnd.intro F8 N8 _ (fun _ hq => hq) off0 trivial (DealJ.more (by assumption) (by assumption) (by assumption) j4 j5 j6 (by assumption))
  clear F9 N9 R9 F' N' hi9 hsa9 hsb9
  rintro ys1 nws ⟨i1, ti1, sd1, ts1, L1, rfl, j1, j2, j3, js1, jL1, jl1⟩ - D1 h tk F9 N9 off1
  subst hrest
  simp only [LCg.Off1, and_true] at off1
  (try k_fold)
  k_steps
  unfold Stop
  rename_i X1 tX1 k1 hX1 hXl1 h8 oS F9 N9 dS
  have hz1 : X1.length ≤ 8 := by omega
  have hc1 : ∀ c ∈ X1.cps.toList, c < 128 := by rw [hX1]; exact jL1
  clear js1 jL1 jl1 hX1 hXl1 off1 hr9
  refine Stop.of ?_
  unfold Stop
  rename Fr _ _ _ _ => F9
  rename News _ _ _ _ => N9
  obtain ⟨rest, hrest, N9⟩ : ∃ rest, rest = _ ∧ News _ _ _ ((dl, dealAt nl _ _ _ _ n) :: rest) := ⟨_, rfl, ends_drop N9 (fun p hp => List.mem_cons_of_mem _ hp)⟩
  k_dflt (refine LCg.ListComp_U F9 (by with_unfolding_all rfl) (by decide) (by rfl) (by decide) (by rfl) ?_)
  subst hrest
  k_steps
  unfold Stop
  rename_i  r t9 h9' tk9' i9 ti9 sd9 ts9 hr9 hi9 hsa9 hsb9 F' N' h' tk' t1 u1 v1 a3 a2 a1 a0
  rename Fr _ _ _ _ => F9
  rename News _ _ _ _ => N9
  rename IsRange _ _ _ _ _ _ _ _ => R9
  clear j1 j2 j3
  obtain ⟨rest, hrest, N9⟩ : ∃ rest, rest = _ ∧ News _ _ _ ((dl, dealAt nl _ _ _ _ n) :: rest) := ⟨_, rfl, N9⟩
  refine LCg.CompSrc.range (n := r) rfl F9 N9 R9 (small_one (by omega) (by omega) (by omega) (by omega)) (by rw [rangeSize_nat]; omega) (by rw [sizeLine_eq]; omega) fun g9 => ?_
  refine restU trivial (DealJ dl nl n rest) (DealJ.start hi9 hsa9 hsb9) ?_ ?_
  · clear F9 N9 R9 F' N' hr9 hi9 hsa9 hsb9
    rintro i v I oI C oC D m₂ ys nws h tk E' hi hP ⟨i', ti, sd, ts, L, rfl, j1, j2, j3, j4, j5, j6⟩ hS hC hx F9 N9 off ne
    subst hrest
    have off0 := off
    simp only [LCg.Off3, and_true] at off
    k_steps
    unfold Stop
    rename Fr _ _ _ _ => F8
    rename News _ _ _ _ => N8
    exact LCg.CompEnd.intro F8 N8 _ (fun _ hq => hq) off0 trivial (DealJ.more (by assumption) (by assumption) (by assumption) j4 j5 j6 (by assumption))
  clear F9 N9 R9 F' N' hi9 hsa9 hsb9
  rintro ys2 nws ⟨i2, ti2, sd2, ts2, L2, rfl, j1, j2, j3, js2, jL2, jl2⟩ - D2 h tk F9 N9 off2
  subst hrest
  simp only [LCg.Off1, and_true] at off2
  (try k_fold)
  k_steps
  unfold Stop
  rename_i X2 tX2 k2 hX2 hXl2 h8 oG F8 N8 dG q tq h9 tk9 i9 ti9 sd9 ts9 hq hi8 hsa8 hsb8 F9 N9
  have hz2 : X2.length ≤ 3 := by omega
  clear js2 jL2 jl2 hX2 hXl2 off2 hr9 F8 N8
  refine Stop.of ?_
  unfold Stop
  rename Fr _ _ _ _ => F9
  rename News _ _ _ _ => N9
  obtain ⟨rest, hrest, N9⟩ : ∃ rest, rest = _ ∧ News _ _ _ ((dl, dealAt nl _ _ _ _ n) :: rest) := ⟨_, rfl, ends_drop N9 (fun p hp => List.mem_cons_of_mem _ hp)⟩
  k_dflt (refine LCg.ListComp_U F9 (by with_unfolding_all rfl) (by decide) (by rfl) (by decide) (by rfl) ?_)
  subst hrest
  k_steps
  unfold Stop
  rename_i  r t9 h9' tk9' i9 ti9 sd9 ts9 hr9 hi9 hsa9 hsb9 F' N' h' tk' t1 u1 v1 a3 a2 a1 a0
  rename Fr _ _ _ _ => F9
  rename News _ _ _ _ => N9
  rename IsRange _ _ _ _ _ _ _ _ => R9
  clear j1 j2 j3 hi8 hsa8 hsb8
  obtain ⟨rest, hrest, N9⟩ : ∃ rest, rest = _ ∧ News _ _ _ ((dl, dealAt nl _ _ _ _ n) :: rest) := ⟨_, rfl, N9⟩
  refine LCg.CompSrc.range (n := r) rfl F9 N9 R9 (small_one (by omega) (by omega) (by omega) (by omega)) (by rw [rangeSize_nat]; omega) (by rw [sizeLine_eq]; omega) fun g9 => ?_
  refine restU trivial (DealJ dl nl n rest) (DealJ.start hi9 hsa9 hsb9) ?_ ?_
  · clear F9 N9 R9 F' N' hr9 hi9 hsa9 hsb9
    rintro i v I oI C oC D m₂ ys nws h tk E' hi hP ⟨i', ti, sd, ts, L, rfl, j1, j2, j3, j4, j5, j6⟩ hS hC hx F9 N9 off ne
    subst hrest
    have off0 := off
    simp only [LCg.Off3, and_true] at off
    k_steps
    unfold Stop
    rename Fr _ _ _ _ => F8
    rename News _ _ _ _ => N8
    exact LCg.CompEnd.intro F8 N8 _ (fun _ hq => hq) off0 trivial (DealJ.more (by assumption) (by assumption) (by assumption) j4 j5 j6 (by assumption))
  clear F9 N9 R9 F' N' hi9 hsa9 hsb9
  rintro ys3 nws ⟨i3, ti3, sd3, ts3, L3, rfl, j1, j2, j3, js3, jL3, jl3⟩ - D3 h tk F9 N9 off3
  subst hrest
  simp only [LCg.Off1, and_true] at off3
  (try k_fold)
  k_steps
  unfold Stop
  rename_i X3 tX3 k3 hX3 hXl3 Dt h31 lt3 h32 h33 h34 F9 N9
  have hz3 : X3.length ≤ 2 := by omega
  have N9 : News _ _ _ ((dl, dealAt nl i3 ti3 sd3 ts3 n) :: _) := ends_drop N9 (fun p hp => List.mem_cons_of_mem _ (List.mem_cons_of_mem _ hp))
  clear js3 jL3 jl3 hX3 hXl3 off3 hr9 lt3
  with_reducible refine Seal.out ?_
  refine For_turnsS F9 ?_
  k_steps
  unfold Stop
  rename Fr _ _ _ _ => F9
  rename News _ _ _ _ => N9
  rename IsRange _ _ _ _ _ _ _ _ => R9
  refine' turnsRangeC (led := fun o => (_, _) :: (_, _) :: (_, o) :: _) (n := X1.length + 1) rfl R9 (small_one (by omega) (by omega) (by omega) (by omega)) (by rw [rangeSize_nat]; omega) F9 N9 rfl e4 (fun _ => List.mem_cons_of_mem _ (List.mem_cons_of_mem _ List.mem_cons_self)) ?zhup rfl rfl ?zhc
    (fun m₀ (c : Option Value × Option Value) z => if z = Str.ofString "balanced" then c.2 else if z = Str.ofString "due" then c.1 else m₀ z) (fun _ _ => True) (none, none) ?zhe trivial ?zht2 ?zhd
  case zhc => rfl
  case zhe =>
    funext z
    by_cases e1 : z = Str.ofString "balanced"
    · rw [if_pos e1, e1]; rfl
    · rw [if_neg e1]
      by_cases e2 : z = Str.ofString "due"
      · rw [if_pos e2, e2]; rfl
      · rw [if_neg e2]
  case zhup =>
    intro o o' r hr
    rcases List.mem_cons.mp hr with rfl | hr
    · exact .inr ⟨List.mem_cons_self, by show @Ne Nat _ _; omega⟩
    rcases List.mem_cons.mp hr with rfl | hr
    · exact .inr ⟨List.mem_cons_of_mem _ List.mem_cons_self, by show @Ne Nat _ _; omega⟩
    rcases List.mem_cons.mp hr with rfl | hr
    · exact .inl rfl
    refine .inr ⟨List.mem_cons_of_mem _ (List.mem_cons_of_mem _ (List.mem_cons_of_mem _ hr)), ?_⟩
    rcases List.mem_cons.mp hr with rfl | hr
    · show @Ne Nat _ _; omega
    rcases List.mem_cons.mp hr with rfl | hr
    · show @Ne Nat _ _; omega
    rcases List.mem_cons.mp hr with rfl | hr
    · show @Ne Nat _ _; omega
    cases hr
  case zht2 =>
    clear F9 N9 R9
    intro i t o c h tk own hi hdo _ F9 N9
    rw [Int.zero_add] at hdo
    k_steps
    unfold Stop
    rename Fr _ _ _ _ => F9
    rename News _ _ _ _ => N9
    with_reducible refine Seal.out ?_
    refine if_cutS F9 N9 ?_ ?_
    · cases hD : decide ((X1.cps.toList.drop i).take X3.cps.toList.length = X3.cps.toList) with
      | true =>
        have hsw := (starts_eq X1 X3 (p := i) (by omega)).trans hD
        have hCh : ∀ w tx ta ty, SpecV w 21 [.str X1 tx, .int (i : Int) ta, .str X3 ty] 1 (fun t => .int ((i : Int) + (X3.length : Int)) t) := fun w => chars_yes (by omega) (by omega) (by omega) hD
        k_steps
        unfold Stop
        exact CBack.intro (by simp) (by assumption) (by assumption) (fun _ hq => hq)
      | false =>
        have hsw := (starts_eq X1 X3 (p := i) (by omega)).trans hD
        have hCh : ∀ w tx ta ty, SpecV w 21 [.str X1 tx, .int (i : Int) ta, .str X3 ty] 1 (fun _ => .none) := fun w => chars_no (by omega) (by omega) (by omega) hD
        k_steps
        unfold Stop
        exact CBack.intro (by simp) (by assumption) (by assumption) (fun _ hq => hq)
    clear F9 N9
    intro h tk F9 N9
    k_steps
    unfold Stop
    rename Fr _ _ _ _ => F9
    rename News _ _ _ _ => N9
    k_dflt (refine LCt.Assign_ListComp_T F9 (by rfl) (by with_unfolding_all rfl) (by with_unfolding_all rfl) (by decide) (by rfl) (by decide) (by rfl) (by rfl) (by rfl) ?_)
    k_steps
    unfold Stop
    rename Fr _ _ _ _ => F9
    rename News _ _ _ _ => N9
    rename IsRange _ _ _ _ _ _ _ _ => R9
    refine LCt.CompSrcT.range (n := X1.length - i) rfl F9 N9 R9 (small_one (by omega) (by omega) (by omega) (by omega)) (by rw [rangeSize_nat]; omega) (by rw [sizeLine_eq]; omega) fun g9 => ?_
    refine restT trivial (fun j => hits X1.cps.toList X2.cps.toList (i + j)) (fun j v => ∃ t, v = .int ((i + j : Nat) : Int) t) (fun j ys => IntsAre ys (((List.range' i j).filter (hits X1.cps.toList X2.cps.toList)).map (fun (k : Nat) => (k : Int)))) .nil (fun j ys v g hp hv => due_yes g hp hv) (fun j ys g hp => due_no g hp) ?_ ?_
    · clear F9 N9 R9
      intro j v I oI C oC D m₂ ys h tk E' hj hP hC hx F9 N9 off ne
      obtain ⟨t, rfl⟩ := hP
      rw [show (i : Int) + (j : Int) = ((i + j : Nat) : Int) from (Int.natCast_add i j).symm] at hx
      obtain ⟨c, g1, g2⟩ := item_eq X1 (i := i + j) (by omega)
      have hin9 : (occurrences X2 (Txt.item X1 ((i + j : Nat) : Int)) 0 X2.length 1).isEmpty = !hits X1.cps.toList X2.cps.toList (i + j) := by rw [g2, in_one, hits_of g1]
      cases hh9 : hits X1.cps.toList X2.cps.toList (i + j) with
      | true =>
        have hin2 : (!(occurrences X2 (Txt.item X1 ((i + j : Nat) : Int)) 0 X2.length 1).isEmpty) = true := by rw [hin9, hh9]; rfl
        k_steps
        unfold Stop
        exact CBack.intro ⟨rfl, _, rfl⟩ (by assumption) N9 (fun _ hq => hq)
      | false =>
        have hin2 : (!(occurrences X2 (Txt.item X1 ((i + j : Nat) : Int)) 0 X2.length 1).isEmpty) = false := by rw [hin9, hh9]; rfl
        k_steps
        unfold Stop
        exact CBack.intro rfl (by assumption) N9 (fun _ hq => hq)
    clear F9 N9 R9
    intro ys hys D h tk F9 N9 off
    have hyl : ys.length ≤ 1001 := by have := ints_le hys; omega
    rw [show X1.length - i = X1.cps.toList.length - i by rw [len_toList], ← law_breakx] at hys
    have hbb : (isBalGo 0 (Txt.slice X1 (some (i : Int)) none).cps.toList != isBalGo 0 (Txt.slice X1 (some (i : Int)) none).cps.toList) = false := by simp
    (try k_fold)
    k_steps
    unfold Stop
    rename Fr _ _ _ _ => F9
    rename News _ _ _ _ => N9
    k_dflt (refine LCt.Assign_ListComp_T F9 (by rfl) (by with_unfolding_all rfl) (by with_unfolding_all rfl) (by decide) (by rfl) (by decide) (by rfl) (by rfl) (by rfl) ?_)
    k_steps
    unfold Stop
    rename Fr _ _ _ _ => F9
    rename News _ _ _ _ => N9
    rename IsRange _ _ _ _ _ _ _ _ => R9
    refine LCt.CompSrcT.range (n := X1.length - i) rfl F9 N9 R9 (small_one (by omega) (by omega) (by omega) (by omega)) (by rw [rangeSize_nat]; omega) (by rw [sizeLine_eq]; omega) fun g9 => ?_
    refine restT trivial (fun j => isBalGo 0 (seg X1.cps.toList i (i + 1 + j))) (fun j v => ∃ t, v = .int ((i + 1 + j : Nat) : Int) t) (fun j ys => IntsAre ys (((List.range' (i + 1) j).filter (fun e => isBalGo 0 (seg X1.cps.toList i e))).map (fun (k : Nat) => (k : Int)))) .nil (fun j ys v g hp hv => due_yes g hp hv) (fun j ys g hp => due_no g hp) ?_ ?_
    · clear F9 N9 R9
      intro j v I oI C oC D m₂ ys h tk E' hj hP hC hx F9 N9 off ne
      obtain ⟨t, rfl⟩ := hP
      rw [show (i : Int) + 1 + (j : Int) = ((i + 1 + j : Nat) : Int) by omega] at hx
      have eT : (Txt.slice X1 (some (i : Int)) (some ((i + 1 + j : Nat) : Int))).cps.toList = seg X1.cps.toList i (i + 1 + j) := slice_ss X1 (by omega) (by omega)
      cases hh9 : isBalGo 0 (seg X1.cps.toList i (i + 1 + j)) with
      | true =>
        have hin2 : isBalGo 0 (Txt.slice X1 (some (i : Int)) (some ((i + 1 + j : Nat) : Int))).cps.toList = true := by rw [eT, hh9]
        k_steps
        unfold Stop
        exact CBack.intro ⟨rfl, _, rfl⟩ (by assumption) (by assumption) (fun _ hq => hq)
      | false =>
        have hin2 : isBalGo 0 (Txt.slice X1 (some (i : Int)) (some ((i + 1 + j : Nat) : Int))).cps.toList = false := by rw [eT, hh9]
        k_steps
        unfold Stop
        exact CBack.intro rfl (by assumption) (by assumption) (fun _ hq => hq)
    clear F9 N9 R9
    intro ys' hys' D' h tk F9 N9 off'
    have hyl' : ys'.length ≤ 1001 := by have := ints_le hys'; omega
    have hF : balEnd X1.cps.toList i = ((List.range' (i + 1) (X1.length - i)).filter (fun e => isBalGo 0 (seg X1.cps.toList i e))).head? := by rw [← len_toList]; exact law_first.symm
    (try k_fold)
    k_steps
    rename Fr _ _ _ _ => F8
    rename News _ _ _ _ => N8
    refine' CPost.on (_, _) F8 N8 updC (fun _ hq => ?_) trivial
    repeat (first | exact hq | refine List.mem_cons_of_mem _ ?_)
  case zhd =>
    clear F9 N9 R9
    intro o v c h tk hdo _ F9 N9
    k_steps
  done)
end
end Mine
theorem PySem.Challenge.cw_np0291_01_holds : PySem.Challenge.rw_np0291_01.Holds := by
  exact Mine.law_holds
