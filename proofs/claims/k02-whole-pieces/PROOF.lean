import PyProof.Rows.All
import Wide.All
import OpenK.AllK
import Wide.FinOn
import HandS.ForMost
import HandS.Style
import HandS.TupAny
import HandS.IsInst
import HandS.Steps
import HandS.Walk
import HandS.Zip
import HandS.StrMore
import HandS.Defaults
import HandS.Flow
import PySem.Challenge.RW_quotewords_k02_whole_pieces
import HandS.ForExc
import HandS.ExcInit
import HandS.ExcField
import HandS.ExcIs
import HandS.EndBits
import HandS.HeadEnd
import PyProof.StrLawsFrom
import HandS.Conv
import PyProof.ListStr
import PyProof.StrOps2
import PyProof.SliceStr2
import KE.KRevSl
import KE.GoesZip
import KE.GoesMore
import KE.KExcIs
import HandS.Nested
import HandS.Lambda
import KE.KNestM
import KE.KLam
set_option Elab.async false
set_option linter.all false
set_option maxRecDepth 100000
set_option maxHeartbeats 4000000
namespace Qw
open PySem L2

/-! ### texts as lists of codes -/
abbrev Tx := List Nat
def S (l : Tx) : Str := ⟨l.toArray⟩
theorem S_tl (l : Tx) : (S l).cps.toList = l := rfl
theorem S_size (l : Tx) : (S l).cps.size = l.length := by simp [S]
theorem S_len (l : Tx) : (S l).length = l.length := by simp [S, Str.length]
theorem S_of (x : Str) : S x.cps.toList = x := by cases x; simp [S]
theorem S_app (a b : Tx) : S a ++ S b = S (a ++ b) := by
  show Str.append (S a) (S b) = _
  simp [S, Str.append]
theorem S_inj {a b : Tx} : S a = S b ↔ a = b := by
  constructor
  · intro h
    have := congrArg (fun x : Str => x.cps.toList) h
    simpa [S] using this
  · intro h; rw [h]
theorem S_beq (x y : Tx) : (S x == S y) = decide (x = y) := by
  by_cases h : x = y
  · subst h; simp
  · simp [h, S_inj]
theorem scal_ss (x y : Str) : scal (.str x) (.str y) = true := rfl
theorem scal_ii (x y : Int) : scal (.int x) (.int y) = true := rfl
theorem scal_bb (x y : Bool) : scal (.bl x) (.bl y) = true := rfl
theorem scal_nn : scal .non .non = true := rfl
theorem scal_in (x : Int) : scal (.int x) .non = true := rfl
theorem scal_ni (x : Int) : scal .non (.int x) = true := rfl
theorem S_one (c : Nat) : (⟨#[c]⟩ : Str) = S [c] := rfl

/-! ### heaps: what is kept -/
/-- all that was tracked, but at p, is as it was -/
def Kp (p : Addr) (H H' : Hp) : Prop := ∀ b o, H b = some o → b ≠ p → H' b = some o
theorem _root_.L2.Same.kp {H H' : Hp} (p : Addr) (h : Same H H') : Kp p H H' := fun b o e _ => h b o e
theorem Kp.trans {p : Addr} {H H1 H2 : Hp} (a : Kp p H H1) (b : Kp p H1 H2) : Kp p H H2 := fun c o e n => b c o (a c o e n) n
theorem same_new {H : Hp} {p : Addr} {o : HO} (h : H p = none) : Same H (upd H p o) := fun b u e => by
  rw [upd_ne (ne_of_none e h)]; exact e
theorem _root_.L2.Same.mut {H H' : Hp} {p : Addr} {o : HO} (e : Same H H') (h : H p = none) : Same H (upd H' p o) := fun a u ha => by
  rw [upd_ne (ne_of_none ha h)]; exact e a u ha
theorem kp_upd {H : Hp} {p : Addr} {o : HO} : Kp p H (upd H p o) := fun b u e n => by rw [upd_ne n]; exact e
theorem Kp.upd {p : Addr} {H H' : Hp} {o : HO} (a : Kp p H H') : Kp p H (L2.upd H' p o) := a.trans kp_upd
/-- the tuples stay -/
def Tk (H H' : Hp) : Prop := ∀ b xs, H b = some (.tup xs) → H' b = some (.tup xs)
theorem Tk.refl (H : Hp) : Tk H H := fun _ _ h => h
theorem Tk.trans {H H1 H2 : Hp} (a : Tk H H1) (b : Tk H1 H2) : Tk H H2 := fun c o e => b c o (a c o e)
theorem _root_.L2.Same.tk {H H' : Hp} (h : Same H H') : Tk H H' := fun b xs e => h b _ e
theorem Kp.tk {p : Addr} {H H' : Hp} (h : Kp p H H') {o : HO} (e : H p = some o) (no : ∀ xs, o ≠ .tup xs) : Tk H H' := fun b xs q => by
  refine h b _ q fun z => ?_
  subst z; rw [e] at q; exact no xs (Option.some.inj q)
theorem upd_old {H : Hp} {p q : Addr} {o u : HO} (h : H p = some o) (n : H q = none) : upd H q u p = some o := by
  rw [upd_ne (ne_of_none h n)]; exact h
theorem upd_old' {H : Hp} {p q : Addr} {o u : HO} (h : H p = some o) (n : p ≠ q) : upd H q u p = some o := by
  rw [upd_ne n]; exact h
theorem none_upd {H : Hp} {p q : Addr} {o : HO} (h : upd H p o q = none) : H q = none := by
  unfold upd at h; split at h
  · cases h
  · exact h
theorem none_upd' {H : Hp} {p q : Addr} {o : HO} (h : upd H p o q = none) (_ : q ≠ p) : H q = none := none_upd h
theorem ne_upd {H : Hp} {p q : Addr} {o : HO} (h : upd H p o q = none) : q ≠ p := by
  rintro rfl; rw [upd_same] at h; cases h

theorem small_line {n : Nat} (h : n ≤ 1000000) : (n ≤ sizeLine) = True := eq_true (Nat.le_trans h (by decide))
theorem small_lt {n : Nat} (h : n < 1000000) : (n < sizeLine) = True := eq_true (Nat.lt_of_lt_of_le h (by decide))
theorem pl2 {f : Str} {v : V} {fs : List (Str × V)} {k n : Nat} (h : fs.length + (k + 1) < n) : (putF f v fs).length + k < n := by have := length_putF f v fs; omega
end Qw

set_option Elab.async false
set_option linter.all false
set_option maxRecDepth 100000
set_option maxHeartbeats 4000000
namespace Qw
open PySem L2
theorem take_at {α : Type} : ∀ {l : List α} {i : Nat} {x : α}, l[i]? = some x → l.take (i + 1) = l.take i ++ [x]
  | [], i, x, h => by simp at h
  | a :: l, 0, x, h => by
    cases (Option.some.inj h : a = x)
    rfl
  | a :: l, i + 1, x, h => by
    have ih := take_at (l := l) (i := i) (x := x) h
    simp only [List.take_succ_cons, List.cons_append, List.cons.injEq, true_and]
    exact ih
/-- a comprehension that maps: each turn gives F of the i-th of as, and changes nothing that was there -/
theorem lc_map {α : Type} {J : It} {G : Hp → Prop} {Y : Nat → Hp → V → Hp → Prop} {g : TG} {tt : TT} {te : TE} {vs : List Nat} {σ : St} {H1 : Hp} {D : Addr} {Qd : Hp → Prop}
    (as : List α) (F : α → V) (w : Walk J as.length G Y) (hz : as.length ≤ 1000000) (h1 : H1 D = none) (hG : ∀ H, Same H1 H → G H)
    (hs : ∀ (R : VK) (R' : Hp → Prop) i a x H H', as[i]? = some a → Same H1 H → Y i H x H' → (∀ H4, Same H H4 → R (F a) H4) →
      g x (wipe σ vs) H' fun σ2 H2 => wipe σ2 vs = wipe σ vs ∧ tt σ2 H2 fun b H3 => if b = true then te σ2 H3 R else R' H3)
    (hd : ∀ H, Same H1 H → H D = some (.lst (as.map F)) → Qd H) :
    ∃ W : Nat → Nat → Hp → Prop, (∃ m, W 0 m (upd H1 D (.lst []))) ∧ ∀ i m H, W i m H →
      (J.stop i H ∧ Qd H) ∨ (J.go i H ∧ ∃ Nx : Hp → Prop, (∀ H', Nx H' → ∃ m', m' < m ∧ W (i + 1) m' H') ∧ ∀ x H', J.yld i H x H' → g x (wipe σ vs) H' fun σ2 H2 => wipe σ2 vs = wipe σ vs ∧ tt σ2 H2 fun b H3 =>
        if b = true then te σ2 H3 fun y H4 => ∃ acc, H4 D = some (.lst acc) ∧ acc.length < sizeLine ∧ Nx (upd H4 D (.lst (acc ++ [y]))) else Nx H3) := by
  refine lc_it w (fun i H => Same H1 H ∧ H D = some (.lst ((as.take i).map F))) ⟨same_new h1, upd_same⟩ (fun _ H _ p => hG H p.1) ?_ fun H p => hd H p.1 (by rw [List.take_length] at p; exact p.2)
  rintro i x H H' hi ⟨p1, p2⟩ y
  obtain ⟨a, ha⟩ : ∃ a, as[i]? = some a := ⟨as[i], List.getElem?_eq_getElem hi⟩
  refine hs _ _ i a x H H' ha p1 y fun H4 s4 => ⟨_, s4 _ _ p2, ?_, ?_, ?_⟩
  · rw [List.length_map, List.length_take]
    exact Nat.lt_of_lt_of_le (show min i as.length < 1000001 by omega) (by decide)
  · exact Same.mut (p1.trans s4) h1
  · rw [upd_same, take_at ha, List.map_append]
    rfl
theorem tlc_map {α : Type} {wi : TI} {J : It} {G : Hp → Prop} {Y : Nat → Hp → V → Hp → Prop} {g : TG} {tt : TT} {te : TE} {vs : List Nat} {σ : St} {H H1 : Hp} {Q : VK}
    (as : List α) (F : α → V) (hw : ∀ R : It → Hp → Prop, R J H1 → wi σ H R) (w : Walk J as.length G Y) (hz : as.length ≤ 1000000) (hG : ∀ H, Same H1 H → G H)
    (hs : ∀ (R : VK) (R' : Hp → Prop) i a x H H', as[i]? = some a → Same H1 H → Y i H x H' → (∀ H4, Same H H4 → R (F a) H4) →
      g x (wipe σ vs) H' fun σ2 H2 => wipe σ2 vs = wipe σ vs ∧ tt σ2 H2 fun b H3 => if b = true then te σ2 H3 R else R' H3)
    (hd : ∀ D H, H1 D = none → Same H1 H → H D = some (.lst (as.map F)) → Q (.ref D) H) : tLc wi g tt te vs σ H Q :=
  hw _ fun D hD => lc_map as F w hz hD hG hs fun H s e => hd D H hD s e
theorem walk_text {t : Tx} : Walk (Its (S t)) t.length (fun _ => True) (fun i H v H' => H' = H ∧ ∃ c, t[i]? = some c ∧ v = .str (S [c])) :=
  ⟨fun _ _ hi _ => (by show _ < (S t).cps.size; rw [S_size]; exact hi), fun _ _ => (by show (S t).cps.size ≤ _; rw [S_size]; exact Nat.le_refl _), fun _ _ _ _ _ _ y => by
    obtain ⟨e, c, h1, h2⟩ := y
    exact ⟨e, c, by simpa [S] using h1, h2⟩⟩
theorem ix_tupK {X : Cx} {K : PySem.W.Frag} (h : X.K = K) : IxR X (rIxT K) := by
  subst h
  exact ix_tup
theorem ix_listK {X : Cx} {K : PySem.W.Frag} (h : X.K = K) : IxR X (rIxL K) := by
  subst h
  exact ix_list
theorem op_eqDK {X : Cx} {K : PySem.W.Frag} (h : X.K = K) (hu : X.A.units + 64 < cLine) : OpR X (compareOp .Eq) (rEqD K) := by
  subst h
  exact op_eqD hu
theorem op_neDK {X : Cx} {K : PySem.W.Frag} (h : X.K = K) (hu : X.A.units + 64 < cLine) : OpR X (compareOp .NotEq) (rNeD K) := by
  subst h
  exact op_neD hu
theorem gen_new {H H1 : Hp} {p : Addr} {o : HO} (h : upd H p o = H1) (hp : H p = none) : Same H H1 ∧ H1 p = some o := by
  subst h
  exact ⟨same_new hp, upd_same⟩
theorem one_lt (x y : Nat) : ([x] < [y]) = (x < y) := by simp [List.cons_lt_cons_iff]
theorem join_flat0 : ∀ ls : List Tx, Str.join (S []) (ls.map S) = S ls.flatten
  | [] => rfl
  | [x] => by
    show S x = S [x].flatten
    simp
  | x :: y :: r => by
    show S x ++ S [] ++ Str.join (S []) ((y :: r).map S) = _
    rw [join_flat0 (y :: r), S_app, S_app]
    simp
theorem join_flat (ls : List Tx) : Txt.join (S []) (ls.map S) = S ls.flatten := by
  rw [show Txt.join (S []) (ls.map S) = Str.join (S []) (ls.map S) from StrLaws.glued_eq_join _ _]
  exact join_flat0 ls
end Qw

set_option Elab.async false
set_option linter.all false
set_option maxRecDepth 100000
set_option maxHeartbeats 4000000
namespace Qw
open PySem L2
def top (i : Nat) : Stmt := PySem.Challenge.pw_quotewords_k02_whole_pieces.main.body.getD i (.Pass ⟨0, 0, 0, 0⟩)
abbrev st_are_signs : Stmt := top 9
abbrev N_are_signs : List Str := ["thing", "sign"]
abbrev P_are_signs : List Str := ["thing"]
theorem sc_are_signs : FnScope N_are_signs P_are_signs (defScope st_are_signs) := ⟨rfl, rfl, rfl, by decide +kernel, rfl, by decide +kernel, by decide +kernel⟩
abbrev st_Rules_init : Stmt := inClass (top 10) 0
abbrev N_Rules_init : List Str := ["self", "breaks", "hard", "soft", "bend", "note", "parts", "every", "part", "most"]
abbrev P_Rules_init : List Str := ["self", "breaks", "hard", "soft", "bend", "note"]
theorem sc_Rules_init : FnScope N_Rules_init P_Rules_init (defScope st_Rules_init) := ⟨rfl, rfl, rfl, by decide +kernel, rfl, by decide +kernel, by decide +kernel⟩
abbrev st_Rules_told : Stmt := inClass (top 10) 1
abbrev N_Rules_told : List Str := ["self"]
abbrev P_Rules_told : List Str := ["self"]
theorem sc_Rules_told : FnScope N_Rules_told P_Rules_told (defScope st_Rules_told) := ⟨rfl, rfl, rfl, by decide +kernel, rfl, by decide +kernel, by decide +kernel⟩
abbrev st_Rules_quotes : Stmt := inClass (top 10) 2
abbrev N_Rules_quotes : List Str := ["self"]
abbrev P_Rules_quotes : List Str := ["self"]
theorem sc_Rules_quotes : FnScope N_Rules_quotes P_Rules_quotes (defScope st_Rules_quotes) := ⟨rfl, rfl, rfl, by decide +kernel, rfl, by decide +kernel, by decide +kernel⟩
abbrev st_Machine_init : Stmt := inClass (top 14) 0
abbrev N_Machine_init : List Str := ["self", "rules"]
abbrev P_Machine_init : List Str := ["self", "rules"]
theorem sc_Machine_init : FnScope N_Machine_init P_Machine_init (defScope st_Machine_init) := ⟨rfl, rfl, rfl, by decide +kernel, rfl, by decide +kernel, by decide +kernel⟩
abbrev st_Machine_begin : Stmt := inClass (top 14) 2
abbrev N_Machine_begin : List Str := ["self"]
abbrev P_Machine_begin : List Str := ["self"]
theorem sc_Machine_begin : FnScope N_Machine_begin P_Machine_begin (defScope st_Machine_begin) := ⟨rfl, rfl, rfl, by decide +kernel, rfl, by decide +kernel, by decide +kernel⟩
abbrev st_Machine_ended : Stmt := inClass (top 14) 3
abbrev N_Machine_ended : List Str := ["self", "found"]
abbrev P_Machine_ended : List Str := ["self"]
theorem sc_Machine_ended : FnScope N_Machine_ended P_Machine_ended (defScope st_Machine_ended) := ⟨rfl, rfl, rfl, by decide +kernel, rfl, by decide +kernel, by decide +kernel⟩
abbrev st_Machine_plain : Stmt := inClass (top 14) 4
abbrev N_Machine_plain : List Str := ["self", "sign", "rules"]
abbrev P_Machine_plain : List Str := ["self", "sign"]
theorem sc_Machine_plain : FnScope N_Machine_plain P_Machine_plain (defScope st_Machine_plain) := ⟨rfl, rfl, rfl, by decide +kernel, rfl, by decide +kernel, by decide +kernel⟩
abbrev st_Machine_quoted : Stmt := inClass (top 14) 5
abbrev N_Machine_quoted : List Str := ["self", "sign"]
abbrev P_Machine_quoted : List Str := ["self", "sign"]
theorem sc_Machine_quoted : FnScope N_Machine_quoted P_Machine_quoted (defScope st_Machine_quoted) := ⟨rfl, rfl, rfl, by decide +kernel, rfl, by decide +kernel, by decide +kernel⟩
abbrev st_Machine_step : Stmt := inClass (top 14) 6
abbrev N_Machine_step : List Str := ["self", "sign", "found"]
abbrev P_Machine_step : List Str := ["self", "sign"]
theorem sc_Machine_step : FnScope N_Machine_step P_Machine_step (defScope st_Machine_step) := ⟨rfl, rfl, rfl, by decide +kernel, rfl, by decide +kernel, by decide +kernel⟩
abbrev st_Machine_fault : Stmt := inClass (top 14) 7
abbrev N_Machine_fault : List Str := ["self"]
abbrev P_Machine_fault : List Str := ["self"]
theorem sc_Machine_fault : FnScope N_Machine_fault P_Machine_fault (defScope st_Machine_fault) := ⟨rfl, rfl, rfl, by decide +kernel, rfl, by decide +kernel, by decide +kernel⟩
abbrev st_Words_init : Stmt := inClass (top 17) 0
abbrev N_Words_init : List Str := ["self", "words", "places"]
abbrev P_Words_init : List Str := ["self", "words", "places"]
theorem sc_Words_init : FnScope N_Words_init P_Words_init (defScope st_Words_init) := ⟨rfl, rfl, rfl, by decide +kernel, rfl, by decide +kernel, by decide +kernel⟩
abbrev st_Fault_init : Stmt := inClass (top 18) 0
abbrev N_Fault_init : List Str := ["self", "place"]
abbrev P_Fault_init : List Str := ["self", "place"]
theorem sc_Fault_init : FnScope N_Fault_init P_Fault_init (defScope st_Fault_init) := ⟨rfl, rfl, rfl, by decide +kernel, rfl, by decide +kernel, by decide +kernel⟩
abbrev st_Splitter_init : Stmt := inClass (top 20) 0
abbrev N_Splitter_init : List Str := ["self", "rules"]
abbrev P_Splitter_init : List Str := ["self", "rules"]
theorem sc_Splitter_init : FnScope N_Splitter_init P_Splitter_init (defScope st_Splitter_init) := ⟨rfl, rfl, rfl, by decide +kernel, rfl, by decide +kernel, by decide +kernel⟩
abbrev st_Splitter_take : Stmt := inClass (top 20) 1
abbrev N_Splitter_take : List Str := ["self", "text", "before", "sign", "pair"]
abbrev P_Splitter_take : List Str := ["self", "text"]
theorem sc_Splitter_take : FnScope N_Splitter_take P_Splitter_take (defScope st_Splitter_take) := ⟨rfl, rfl, rfl, by decide +kernel, rfl, by decide +kernel, by decide +kernel⟩
abbrev st_Splitter_end : Stmt := inClass (top 20) 2
abbrev N_Splitter_end : List Str := ["self", "fault", "found", "pair"]
abbrev P_Splitter_end : List Str := ["self"]
theorem sc_Splitter_end : FnScope N_Splitter_end P_Splitter_end (defScope st_Splitter_end) := ⟨rfl, rfl, rfl, by decide +kernel, rfl, by decide +kernel, by decide +kernel⟩
abbrev st__law_cell_at : Stmt := top 22
abbrev N__law_cell_at : List Str := ["_law_script", "_law_k"]
abbrev P__law_cell_at : List Str := ["_law_script", "_law_k"]
theorem sc__law_cell_at : FnScope N__law_cell_at P__law_cell_at (defScope st__law_cell_at) := ⟨rfl, rfl, rfl, by decide +kernel, rfl, by decide +kernel, by decide +kernel⟩
abbrev st__law_draw : Stmt := top 23
abbrev N__law_draw : List Str := ["_law_cell", "_law_k", "_law_most", "_law_primes"]
abbrev P__law_draw : List Str := ["_law_cell", "_law_k", "_law_most"]
theorem sc__law_draw : FnScope N__law_draw P__law_draw (defScope st__law_draw) := ⟨rfl, rfl, rfl, by decide +kernel, rfl, by decide +kernel, by decide +kernel⟩
abbrev st__law_number : Stmt := top 24
abbrev N__law_number : List Str := ["_law_cell", "_law_k", "_law_limit", "_law_rest", "_law_turn", "_law_small"]
abbrev P__law_number : List Str := ["_law_cell", "_law_k", "_law_limit"]
theorem sc__law_number : FnScope N__law_number P__law_number (defScope st__law_number) := ⟨rfl, rfl, rfl, by decide +kernel, rfl, by decide +kernel, by decide +kernel⟩
abbrev st__law_next : Stmt := top 25
abbrev N__law_next : List Str := ["_law_state", "_law_limit", "_law_at", "_law_cell"]
abbrev P__law_next : List Str := ["_law_state", "_law_limit"]
theorem sc__law_next : FnScope N__law_next P__law_next (defScope st__law_next) := ⟨rfl, rfl, rfl, by decide +kernel, rfl, by decide +kernel, by decide +kernel⟩
abbrev st__law_told : Stmt := top 26
abbrev N__law_told : List Str := ["_law_state", "_law_left", "_law_found", "_law_most", "_law_part", "_law_least", "_law_k"]
abbrev P__law_told : List Str := ["_law_state"]
theorem sc__law_told : FnScope N__law_told P__law_told (defScope st__law_told) := ⟨rfl, rfl, rfl, by decide +kernel, rfl, by decide +kernel, by decide +kernel⟩
abbrev st__law_text : Stmt := top 27
abbrev N__law_text : List Str := ["_law_state", "_law_told_here", "_law_most", "_law_signs", "_law_found", "_law_k", "_law_some"]
abbrev P__law_text : List Str := ["_law_state", "_law_told_here", "_law_most"]
theorem sc__law_text : FnScope N__law_text P__law_text (defScope st__law_text) := ⟨rfl, rfl, rfl, by decide +kernel, rfl, by decide +kernel, by decide +kernel⟩
abbrev st__law_rules : Stmt := top 28
abbrev N__law_rules : List Str := ["_law_told_here"]
abbrev P__law_rules : List Str := ["_law_told_here"]
theorem sc__law_rules : FnScope N__law_rules P__law_rules (defScope st__law_rules) := ⟨rfl, rfl, rfl, by decide +kernel, rfl, by decide +kernel, by decide +kernel⟩
abbrev st__law_quoted : Stmt := top 29
abbrev N__law_quoted : List Str := ["_law_told_here", "_law_text_here", "_law_at", "_law_begin", "_law_sign", "_law_found"]
abbrev P__law_quoted : List Str := ["_law_told_here", "_law_text_here", "_law_at"]
theorem sc__law_quoted : FnScope N__law_quoted P__law_quoted (defScope st__law_quoted) := ⟨rfl, rfl, rfl, by decide +kernel, rfl, by decide +kernel, by decide +kernel⟩
abbrev st__law_word : Stmt := top 30
abbrev N__law_word : List Str := ["_law_told_here", "_law_text_here", "_law_at", "_law_found", "_law_part"]
abbrev P__law_word : List Str := ["_law_told_here", "_law_text_here", "_law_at"]
theorem sc__law_word : FnScope N__law_word P__law_word (defScope st__law_word) := ⟨rfl, rfl, rfl, by decide +kernel, rfl, by decide +kernel, by decide +kernel⟩
abbrev st__law_read : Stmt := top 31
abbrev N__law_read : List Str := ["_law_told_here", "_law_text_here", "_law_words", "_law_places", "_law_at", "_law_end", "_law_word_here"]
abbrev P__law_read : List Str := ["_law_told_here", "_law_text_here"]
theorem sc__law_read : FnScope N__law_read P__law_read (defScope st__law_read) := ⟨rfl, rfl, rfl, by decide +kernel, rfl, by decide +kernel, by decide +kernel⟩
abbrev st__law_over : Stmt := top 32
abbrev N__law_over : List Str := ["_law_told_here", "_law_text_here", "_law_found", "_law_words", "_law_places", "_law_open_word", "_law_begin"]
abbrev P__law_over : List Str := ["_law_told_here", "_law_text_here"]
theorem sc__law_over : FnScope N__law_over P__law_over (defScope st__law_over) := ⟨rfl, rfl, rfl, by decide +kernel, rfl, by decide +kernel, by decide +kernel⟩
abbrev st__law_ended : Stmt := top 33
abbrev N__law_ended : List Str := ["_law_told_here", "_law_text_here", "_law_fault", "_law_words", "_law_places", "_law_at", "_law_cut"]
abbrev P__law_ended : List Str := ["_law_told_here", "_law_text_here", "_law_fault"]
theorem sc__law_ended : FnScope N__law_ended P__law_ended (defScope st__law_ended) := ⟨rfl, rfl, rfl, by decide +kernel, rfl, by decide +kernel, by decide +kernel⟩
abbrev st__law_pieces : Stmt := top 34
abbrev N__law_pieces : List Str := ["_law_state", "_law_text_here", "_law_found", "_law_at", "_law_many"]
abbrev P__law_pieces : List Str := ["_law_state", "_law_text_here"]
theorem sc__law_pieces : FnScope N__law_pieces P__law_pieces (defScope st__law_pieces) := ⟨rfl, rfl, rfl, by decide +kernel, rfl, by decide +kernel, by decide +kernel⟩
abbrev st__law_refused : Stmt := top 35
abbrev N__law_refused : List Str := ["_law_splitter", "_law_found", "_law_ask", "error", "_law_one", "_law_other"]
abbrev P__law_refused : List Str := ["_law_splitter"]
theorem sc__law_refused : FnScope N__law_refused P__law_refused (defScope st__law_refused) := ⟨rfl, rfl, rfl, by decide +kernel, rfl, by decide +kernel, by decide +kernel⟩
abbrev st__law_end_right : Stmt := top 36
abbrev N__law_end_right : List Str := ["_law_told_here", "_law_text_here", "_law_splitter", "_law_found", "_law_due"]
abbrev P__law_end_right : List Str := ["_law_told_here", "_law_text_here", "_law_splitter"]
theorem sc__law_end_right : FnScope N__law_end_right P__law_end_right (defScope st__law_end_right) := ⟨rfl, rfl, rfl, by decide +kernel, rfl, by decide +kernel, by decide +kernel⟩
abbrev st_law : Stmt := top 37
abbrev N_law : List Str := ["_law_script", "_law_by", "_law_state", "_law_told_here", "_law_texts", "_law_text_here", "_law_one", "_law_came", "_law_other", "_law_so_far", "_law_piece", "_law_words", "_law_late", "_law_said"]
abbrev P_law : List Str := ["_law_script"]
theorem sc_law : FnScope N_law P_law (defScope st_law) := ⟨rfl, rfl, rfl, by decide +kernel, rfl, by decide +kernel, by decide +kernel⟩
structure Ad where
  k__law_refused : Addr
  p__law_refused : Addr
  c_QuoteError : Addr
  c_BadRules : Addr
  c_BadText : Addr
  c_Ended : Addr
  c_Rules : Addr
  c_Machine : Addr
  c_Answer : Addr
  c_Words : Addr
  c_Fault : Addr
  c_Splitter : Addr
  f_are_signs : Addr
  d_are_signs : FuncData
  f_Rules_init : Addr
  d_Rules_init : FuncData
  f_Rules_told : Addr
  d_Rules_told : FuncData
  f_Rules_quotes : Addr
  d_Rules_quotes : FuncData
  f_Machine_init : Addr
  d_Machine_init : FuncData
  f_Machine_begin : Addr
  d_Machine_begin : FuncData
  f_Machine_ended : Addr
  d_Machine_ended : FuncData
  f_Machine_plain : Addr
  d_Machine_plain : FuncData
  f_Machine_quoted : Addr
  d_Machine_quoted : FuncData
  f_Machine_step : Addr
  d_Machine_step : FuncData
  f_Machine_fault : Addr
  d_Machine_fault : FuncData
  f_Words_init : Addr
  d_Words_init : FuncData
  f_Fault_init : Addr
  d_Fault_init : FuncData
  f_Splitter_init : Addr
  d_Splitter_init : FuncData
  f_Splitter_take : Addr
  d_Splitter_take : FuncData
  f_Splitter_end : Addr
  d_Splitter_end : FuncData
  f__law_cell_at : Addr
  d__law_cell_at : FuncData
  f__law_draw : Addr
  d__law_draw : FuncData
  f__law_number : Addr
  d__law_number : FuncData
  f__law_next : Addr
  d__law_next : FuncData
  f__law_told : Addr
  d__law_told : FuncData
  f__law_text : Addr
  d__law_text : FuncData
  f__law_rules : Addr
  d__law_rules : FuncData
  f__law_quoted : Addr
  d__law_quoted : FuncData
  f__law_word : Addr
  d__law_word : FuncData
  f__law_read : Addr
  d__law_read : FuncData
  f__law_over : Addr
  d__law_over : FuncData
  f__law_ended : Addr
  d__law_ended : FuncData
  f__law_pieces : Addr
  d__law_pieces : FuncData
  f__law_refused : Addr
  d__law_refused : FuncData
  f__law_end_right : Addr
  d__law_end_right : FuncData
  f_law : Addr
  d_law : FuncData
  t_LINE_END : Tok
  a_MOST : Addr
  t_PLAIN : Tok
  t_NOTED : Tok
structure GF (K : PySem.W.Frag) (mg : Str → Option Value) (x : Str) (f : Addr) : Prop where
  g : mg x = some (.ref f)
  k : PySem.W.keepIn K (.ref f) = true
structure CF (K : PySem.W.Frag) (mg : Str → Option Value) (x : Str) (C f : Addr) : Prop where
  g : mg x = some (.ref C)
  cl : Cls K C
  mc : Mk K C f
structure CG (mg : Str → Option Value) (x : Str) (C : Addr) : Prop where
  g : mg x = some (.ref C)
/-- what isinstance asks of a class -/
structure IsF (K : PySem.W.Frag) (C : Addr) : Prop where
  ha : PySem.W.findIn K (.ref C) "__class__" = some (some (.builtin "object.__class__"))
  hn : PySem.W.specialIn K (.builtin "object.__class__") "__get__" = some (some (.builtin "getset_descriptor.__get__"))
  ht : PySem.W.takesIn K (.builtin "object.__class__") = some true
  hm : PySem.W.mroIn K C (.type "object") = some true
/-- a def whose code object stands at c -/
def CodeAt (K : PySem.W.Frag) (x qual : Str) (st : Stmt) (f : Addr) (fd : FuncData) (c : Addr) : Prop := ∃ (oc : Value) (od : Option Addr) (kV doc pm : Value) (an : Option Addr) (ct : Value) (osl : Array (Option Value)),
  fd = PySem.W.fnOf x qual (defArgs st) (defBody st) (defScope st) .none kV doc pm an (.ref c) ct ∧ K.lookup f = some ⟨oc, od, .func fd, osl⟩ ∧ PySem.W.codeIn K (.ref c) qual = true
structure Txt (K : PySem.W.Frag) (mg : Str → Option Value) (a : Ad) : Prop where
  F_are_signs : Fun K "are_signs" "are_signs" st_are_signs a.f_are_signs a.d_are_signs
  f_are_signs : GF K mg "are_signs" a.f_are_signs
  F_Rules_init : FunD K "__init__" "Rules.__init__" (defArgs st_Rules_init) (defBody st_Rules_init) (defScope st_Rules_init) [.str (" " : Str), .str ("'" : Str), .str ("\"" : Str), .str ("\\" : Str), .str ("#" : Str)] [] a.f_Rules_init a.d_Rules_init
  F_Rules_told : Fun K "told" "Rules.told" st_Rules_told a.f_Rules_told a.d_Rules_told
  m_Rules_told : Meth K a.c_Rules "told" a.f_Rules_told
  F_Rules_quotes : Fun K "quotes" "Rules.quotes" st_Rules_quotes a.f_Rules_quotes a.d_Rules_quotes
  m_Rules_quotes : Meth K a.c_Rules "quotes" a.f_Rules_quotes
  F_Machine_init : Fun K "__init__" "Machine.__init__" st_Machine_init a.f_Machine_init a.d_Machine_init
  F_Machine_begin : Fun K "begin" "Machine.begin" st_Machine_begin a.f_Machine_begin a.d_Machine_begin
  m_Machine_begin : Meth K a.c_Machine "begin" a.f_Machine_begin
  F_Machine_ended : Fun K "ended" "Machine.ended" st_Machine_ended a.f_Machine_ended a.d_Machine_ended
  m_Machine_ended : Meth K a.c_Machine "ended" a.f_Machine_ended
  F_Machine_plain : Fun K "plain" "Machine.plain" st_Machine_plain a.f_Machine_plain a.d_Machine_plain
  m_Machine_plain : Meth K a.c_Machine "plain" a.f_Machine_plain
  F_Machine_quoted : Fun K "quoted" "Machine.quoted" st_Machine_quoted a.f_Machine_quoted a.d_Machine_quoted
  m_Machine_quoted : Meth K a.c_Machine "quoted" a.f_Machine_quoted
  F_Machine_step : Fun K "step" "Machine.step" st_Machine_step a.f_Machine_step a.d_Machine_step
  m_Machine_step : Meth K a.c_Machine "step" a.f_Machine_step
  F_Machine_fault : Fun K "fault" "Machine.fault" st_Machine_fault a.f_Machine_fault a.d_Machine_fault
  m_Machine_fault : Meth K a.c_Machine "fault" a.f_Machine_fault
  F_Words_init : Fun K "__init__" "Words.__init__" st_Words_init a.f_Words_init a.d_Words_init
  F_Fault_init : Fun K "__init__" "Fault.__init__" st_Fault_init a.f_Fault_init a.d_Fault_init
  F_Splitter_init : Fun K "__init__" "Splitter.__init__" st_Splitter_init a.f_Splitter_init a.d_Splitter_init
  F_Splitter_take : Fun K "take" "Splitter.take" st_Splitter_take a.f_Splitter_take a.d_Splitter_take
  m_Splitter_take : Meth K a.c_Splitter "take" a.f_Splitter_take
  F_Splitter_end : Fun K "end" "Splitter.end" st_Splitter_end a.f_Splitter_end a.d_Splitter_end
  m_Splitter_end : Meth K a.c_Splitter "end" a.f_Splitter_end
  F__law_cell_at : Fun K "_law_cell_at" "_law_cell_at" st__law_cell_at a.f__law_cell_at a.d__law_cell_at
  f__law_cell_at : GF K mg "_law_cell_at" a.f__law_cell_at
  F__law_draw : Fun K "_law_draw" "_law_draw" st__law_draw a.f__law_draw a.d__law_draw
  f__law_draw : GF K mg "_law_draw" a.f__law_draw
  F__law_number : Fun K "_law_number" "_law_number" st__law_number a.f__law_number a.d__law_number
  f__law_number : GF K mg "_law_number" a.f__law_number
  F__law_next : Fun K "_law_next" "_law_next" st__law_next a.f__law_next a.d__law_next
  f__law_next : GF K mg "_law_next" a.f__law_next
  F__law_told : Fun K "_law_told" "_law_told" st__law_told a.f__law_told a.d__law_told
  f__law_told : GF K mg "_law_told" a.f__law_told
  F__law_text : Fun K "_law_text" "_law_text" st__law_text a.f__law_text a.d__law_text
  f__law_text : GF K mg "_law_text" a.f__law_text
  F__law_rules : Fun K "_law_rules" "_law_rules" st__law_rules a.f__law_rules a.d__law_rules
  f__law_rules : GF K mg "_law_rules" a.f__law_rules
  F__law_quoted : Fun K "_law_quoted" "_law_quoted" st__law_quoted a.f__law_quoted a.d__law_quoted
  f__law_quoted : GF K mg "_law_quoted" a.f__law_quoted
  F__law_word : Fun K "_law_word" "_law_word" st__law_word a.f__law_word a.d__law_word
  f__law_word : GF K mg "_law_word" a.f__law_word
  F__law_read : Fun K "_law_read" "_law_read" st__law_read a.f__law_read a.d__law_read
  f__law_read : GF K mg "_law_read" a.f__law_read
  F__law_over : Fun K "_law_over" "_law_over" st__law_over a.f__law_over a.d__law_over
  f__law_over : GF K mg "_law_over" a.f__law_over
  F__law_ended : Fun K "_law_ended" "_law_ended" st__law_ended a.f__law_ended a.d__law_ended
  f__law_ended : GF K mg "_law_ended" a.f__law_ended
  F__law_pieces : Fun K "_law_pieces" "_law_pieces" st__law_pieces a.f__law_pieces a.d__law_pieces
  f__law_pieces : GF K mg "_law_pieces" a.f__law_pieces
  F__law_refused : Fun K "_law_refused" "_law_refused" st__law_refused a.f__law_refused a.d__law_refused
  K__law_refused : CodeAt K "_law_refused" "_law_refused" st__law_refused a.f__law_refused a.d__law_refused a.k__law_refused
  f__law_refused : GF K mg "_law_refused" a.f__law_refused
  F__law_end_right : Fun K "_law_end_right" "_law_end_right" st__law_end_right a.f__law_end_right a.d__law_end_right
  f__law_end_right : GF K mg "_law_end_right" a.f__law_end_right
  F_law : Fun K "law" "law" st_law a.f_law a.d_law
  f_law : GF K mg "law" a.f_law
  c_Rules : CF K mg "Rules" a.c_Rules a.f_Rules_init
  n_Rules_breaks : NoAttr K a.c_Rules "breaks"
  n_Rules_hard : NoAttr K a.c_Rules "hard"
  n_Rules_soft : NoAttr K a.c_Rules "soft"
  n_Rules_bend : NoAttr K a.c_Rules "bend"
  n_Rules_note : NoAttr K a.c_Rules "note"
  c_Machine : CF K mg "Machine" a.c_Machine a.f_Machine_init
  n_Machine_rules : NoAttr K a.c_Machine "rules"
  n_Machine_state : NoAttr K a.c_Machine "state"
  n_Machine_bent : NoAttr K a.c_Machine "bent"
  n_Machine_word : NoAttr K a.c_Machine "word"
  n_Machine_begun : NoAttr K a.c_Machine "begun"
  n_Machine_opened : NoAttr K a.c_Machine "opened"
  n_Machine_place : NoAttr K a.c_Machine "place"
  c_Words : CF K mg "Words" a.c_Words a.f_Words_init
  n_Words_words : NoAttr K a.c_Words "words"
  n_Words_places : NoAttr K a.c_Words "places"
  c_Fault : CF K mg "Fault" a.c_Fault a.f_Fault_init
  n_Fault_place : NoAttr K a.c_Fault "place"
  c_Splitter : CF K mg "Splitter" a.c_Splitter a.f_Splitter_init
  n_Splitter_machine : NoAttr K a.c_Splitter "machine"
  n_Splitter_found : NoAttr K a.c_Splitter "found"
  n_Splitter_over : NoAttr K a.c_Splitter "over"
  g_LINE_END : mg "LINE_END" = some (Value.str ("\n" : Str) a.t_LINE_END)
  g_MOST : mg "MOST" = some (Value.ref a.a_MOST)
  s_MOST : ∀ H, SqT K H a.a_MOST [.int 4, .int 2, .int 2, .int 1, .int 1]
  g_PLAIN : mg "PLAIN" = some (Value.str ("" : Str) a.t_PLAIN)
  g_NOTED : mg "NOTED" = some (Value.str ("note" : Str) a.t_NOTED)
  b_isinstance : mg "isinstance" = none
  b_all : mg "all" = none
  b_zip : mg "zip" = none
  b_len : mg "len" = none
  b_set : mg "set" = none
  b_str : mg "str" = none
  b_list : mg "list" = none
  b_range : mg "range" = none
  b_int : mg "int" = none
  b_tuple : mg "tuple" = none
  b_max : mg "max" = none
  b_min : mg "min" = none
  c_Answer : CG mg "Answer" a.c_Answer
  i_Words : IsF K a.c_Words
  i_Fault : IsF K a.c_Fault
  k_WW : PySem.W.kitOne K (.ref a.c_Words) (.ref a.c_Words) = some true
  k_WF : PySem.W.kitOne K (.ref a.c_Words) (.ref a.c_Fault) = some false
  k_WA : PySem.W.kitOne K (.ref a.c_Words) (.ref a.c_Answer) = some true
  k_FF : PySem.W.kitOne K (.ref a.c_Fault) (.ref a.c_Fault) = some true
  k_FW : PySem.W.kitOne K (.ref a.c_Fault) (.ref a.c_Words) = some false
  k_FA : PySem.W.kitOne K (.ref a.c_Fault) (.ref a.c_Answer) = some true
  eg_QuoteError : CG mg "QuoteError" a.c_QuoteError
  ea_QuoteError : PySem.W.findIn K (.ref a.c_QuoteError) "__getattribute__" = some (some (.builtin "BaseException.__getattribute__"))
  eb_QuoteError : PySem.W.findIn K (.ref a.c_QuoteError) "__getattr__" = some none
  ec_QuoteError : PySem.W.subIn K (.ref a.c_QuoteError) (.type "BaseException") = some true
  ed_QuoteError : PySem.W.hasDictIn K a.c_QuoteError = true
  ee_QuoteError : PySem.W.findIn K (.ref a.c_QuoteError) "__class__" = some (some (.builtin "object.__class__"))
  ef_QuoteError : PySem.W.mroIn K a.c_QuoteError (.type "object") = some true
  eh_QuoteError : PySem.W.typeIn K (.ref a.c_QuoteError) = some (.type "type")
  ei_QuoteError : PySem.W.keepIn K (.ref a.c_QuoteError) = true
  es_QuoteError_QuoteError : PySem.W.subIn K (.ref a.c_QuoteError) (.ref a.c_QuoteError) = some true
  eg_Ended : CG mg "Ended" a.c_Ended
  ea_Ended : PySem.W.findIn K (.ref a.c_Ended) "__getattribute__" = some (some (.builtin "BaseException.__getattribute__"))
  eb_Ended : PySem.W.findIn K (.ref a.c_Ended) "__getattr__" = some none
  ec_Ended : PySem.W.subIn K (.ref a.c_Ended) (.type "BaseException") = some true
  ed_Ended : PySem.W.hasDictIn K a.c_Ended = true
  ee_Ended : PySem.W.findIn K (.ref a.c_Ended) "__class__" = some (some (.builtin "object.__class__"))
  ef_Ended : PySem.W.mroIn K a.c_Ended (.type "object") = some true
  eh_Ended : PySem.W.typeIn K (.ref a.c_Ended) = some (.type "type")
  ei_Ended : PySem.W.keepIn K (.ref a.c_Ended) = true
  es_Ended_QuoteError : PySem.W.subIn K (.ref a.c_Ended) (.ref a.c_QuoteError) = some true
  ex_Ended : PySem.W.excIn K a.c_Ended [.type "ValueError", .type "Exception", .type "BaseException", .type "object"] "ValueError.__new__" = true
theorem bi_are_signs {K : PySem.W.Frag} {mg : Str → Option Value} {a : Ad} (T : Txt K mg a) : Binds K a.d_are_signs P_are_signs [] := T.F_are_signs.binds (ps := P_are_signs) fun _ _ _ _ _ _ us hl => match us, hl with | [_], _ => rfl
theorem bi_Rules_told {K : PySem.W.Frag} {mg : Str → Option Value} {a : Ad} (T : Txt K mg a) : Binds K a.d_Rules_told P_Rules_told [] := T.F_Rules_told.binds (ps := P_Rules_told) fun _ _ _ _ _ _ us hl => match us, hl with | [_], _ => rfl
theorem bi_Rules_quotes {K : PySem.W.Frag} {mg : Str → Option Value} {a : Ad} (T : Txt K mg a) : Binds K a.d_Rules_quotes P_Rules_quotes [] := T.F_Rules_quotes.binds (ps := P_Rules_quotes) fun _ _ _ _ _ _ us hl => match us, hl with | [_], _ => rfl
theorem bi_Machine_init {K : PySem.W.Frag} {mg : Str → Option Value} {a : Ad} (T : Txt K mg a) : Binds K a.d_Machine_init P_Machine_init [] := T.F_Machine_init.binds (ps := P_Machine_init) fun _ _ _ _ _ _ us hl => match us, hl with | [_, _], _ => rfl
theorem bi_Machine_begin {K : PySem.W.Frag} {mg : Str → Option Value} {a : Ad} (T : Txt K mg a) : Binds K a.d_Machine_begin P_Machine_begin [] := T.F_Machine_begin.binds (ps := P_Machine_begin) fun _ _ _ _ _ _ us hl => match us, hl with | [_], _ => rfl
theorem bi_Machine_ended {K : PySem.W.Frag} {mg : Str → Option Value} {a : Ad} (T : Txt K mg a) : Binds K a.d_Machine_ended P_Machine_ended [] := T.F_Machine_ended.binds (ps := P_Machine_ended) fun _ _ _ _ _ _ us hl => match us, hl with | [_], _ => rfl
theorem bi_Machine_plain {K : PySem.W.Frag} {mg : Str → Option Value} {a : Ad} (T : Txt K mg a) : Binds K a.d_Machine_plain P_Machine_plain [] := T.F_Machine_plain.binds (ps := P_Machine_plain) fun _ _ _ _ _ _ us hl => match us, hl with | [_, _], _ => rfl
theorem bi_Machine_quoted {K : PySem.W.Frag} {mg : Str → Option Value} {a : Ad} (T : Txt K mg a) : Binds K a.d_Machine_quoted P_Machine_quoted [] := T.F_Machine_quoted.binds (ps := P_Machine_quoted) fun _ _ _ _ _ _ us hl => match us, hl with | [_, _], _ => rfl
theorem bi_Machine_step {K : PySem.W.Frag} {mg : Str → Option Value} {a : Ad} (T : Txt K mg a) : Binds K a.d_Machine_step P_Machine_step [] := T.F_Machine_step.binds (ps := P_Machine_step) fun _ _ _ _ _ _ us hl => match us, hl with | [_, _], _ => rfl
theorem bi_Machine_fault {K : PySem.W.Frag} {mg : Str → Option Value} {a : Ad} (T : Txt K mg a) : Binds K a.d_Machine_fault P_Machine_fault [] := T.F_Machine_fault.binds (ps := P_Machine_fault) fun _ _ _ _ _ _ us hl => match us, hl with | [_], _ => rfl
theorem bi_Words_init {K : PySem.W.Frag} {mg : Str → Option Value} {a : Ad} (T : Txt K mg a) : Binds K a.d_Words_init P_Words_init [] := T.F_Words_init.binds (ps := P_Words_init) fun _ _ _ _ _ _ us hl => match us, hl with | [_, _, _], _ => rfl
theorem bi_Fault_init {K : PySem.W.Frag} {mg : Str → Option Value} {a : Ad} (T : Txt K mg a) : Binds K a.d_Fault_init P_Fault_init [] := T.F_Fault_init.binds (ps := P_Fault_init) fun _ _ _ _ _ _ us hl => match us, hl with | [_, _], _ => rfl
theorem bi_Splitter_init {K : PySem.W.Frag} {mg : Str → Option Value} {a : Ad} (T : Txt K mg a) : Binds K a.d_Splitter_init P_Splitter_init [] := T.F_Splitter_init.binds (ps := P_Splitter_init) fun _ _ _ _ _ _ us hl => match us, hl with | [_, _], _ => rfl
theorem bi_Splitter_take {K : PySem.W.Frag} {mg : Str → Option Value} {a : Ad} (T : Txt K mg a) : Binds K a.d_Splitter_take P_Splitter_take [] := T.F_Splitter_take.binds (ps := P_Splitter_take) fun _ _ _ _ _ _ us hl => match us, hl with | [_, _], _ => rfl
theorem bi_Splitter_end {K : PySem.W.Frag} {mg : Str → Option Value} {a : Ad} (T : Txt K mg a) : Binds K a.d_Splitter_end P_Splitter_end [] := T.F_Splitter_end.binds (ps := P_Splitter_end) fun _ _ _ _ _ _ us hl => match us, hl with | [_], _ => rfl
theorem bi__law_cell_at {K : PySem.W.Frag} {mg : Str → Option Value} {a : Ad} (T : Txt K mg a) : Binds K a.d__law_cell_at P__law_cell_at [] := T.F__law_cell_at.binds (ps := P__law_cell_at) fun _ _ _ _ _ _ us hl => match us, hl with | [_, _], _ => rfl
theorem bi__law_draw {K : PySem.W.Frag} {mg : Str → Option Value} {a : Ad} (T : Txt K mg a) : Binds K a.d__law_draw P__law_draw [] := T.F__law_draw.binds (ps := P__law_draw) fun _ _ _ _ _ _ us hl => match us, hl with | [_, _, _], _ => rfl
theorem bi__law_number {K : PySem.W.Frag} {mg : Str → Option Value} {a : Ad} (T : Txt K mg a) : Binds K a.d__law_number P__law_number [] := T.F__law_number.binds (ps := P__law_number) fun _ _ _ _ _ _ us hl => match us, hl with | [_, _, _], _ => rfl
theorem bi__law_next {K : PySem.W.Frag} {mg : Str → Option Value} {a : Ad} (T : Txt K mg a) : Binds K a.d__law_next P__law_next [] := T.F__law_next.binds (ps := P__law_next) fun _ _ _ _ _ _ us hl => match us, hl with | [_, _], _ => rfl
theorem bi__law_told {K : PySem.W.Frag} {mg : Str → Option Value} {a : Ad} (T : Txt K mg a) : Binds K a.d__law_told P__law_told [] := T.F__law_told.binds (ps := P__law_told) fun _ _ _ _ _ _ us hl => match us, hl with | [_], _ => rfl
theorem bi__law_text {K : PySem.W.Frag} {mg : Str → Option Value} {a : Ad} (T : Txt K mg a) : Binds K a.d__law_text P__law_text [] := T.F__law_text.binds (ps := P__law_text) fun _ _ _ _ _ _ us hl => match us, hl with | [_, _, _], _ => rfl
theorem bi__law_rules {K : PySem.W.Frag} {mg : Str → Option Value} {a : Ad} (T : Txt K mg a) : Binds K a.d__law_rules P__law_rules [] := T.F__law_rules.binds (ps := P__law_rules) fun _ _ _ _ _ _ us hl => match us, hl with | [_], _ => rfl
theorem bi__law_quoted {K : PySem.W.Frag} {mg : Str → Option Value} {a : Ad} (T : Txt K mg a) : Binds K a.d__law_quoted P__law_quoted [] := T.F__law_quoted.binds (ps := P__law_quoted) fun _ _ _ _ _ _ us hl => match us, hl with | [_, _, _], _ => rfl
theorem bi__law_word {K : PySem.W.Frag} {mg : Str → Option Value} {a : Ad} (T : Txt K mg a) : Binds K a.d__law_word P__law_word [] := T.F__law_word.binds (ps := P__law_word) fun _ _ _ _ _ _ us hl => match us, hl with | [_, _, _], _ => rfl
theorem bi__law_read {K : PySem.W.Frag} {mg : Str → Option Value} {a : Ad} (T : Txt K mg a) : Binds K a.d__law_read P__law_read [] := T.F__law_read.binds (ps := P__law_read) fun _ _ _ _ _ _ us hl => match us, hl with | [_, _], _ => rfl
theorem bi__law_over {K : PySem.W.Frag} {mg : Str → Option Value} {a : Ad} (T : Txt K mg a) : Binds K a.d__law_over P__law_over [] := T.F__law_over.binds (ps := P__law_over) fun _ _ _ _ _ _ us hl => match us, hl with | [_, _], _ => rfl
theorem bi__law_ended {K : PySem.W.Frag} {mg : Str → Option Value} {a : Ad} (T : Txt K mg a) : Binds K a.d__law_ended P__law_ended [] := T.F__law_ended.binds (ps := P__law_ended) fun _ _ _ _ _ _ us hl => match us, hl with | [_, _, _], _ => rfl
theorem bi__law_pieces {K : PySem.W.Frag} {mg : Str → Option Value} {a : Ad} (T : Txt K mg a) : Binds K a.d__law_pieces P__law_pieces [] := T.F__law_pieces.binds (ps := P__law_pieces) fun _ _ _ _ _ _ us hl => match us, hl with | [_, _], _ => rfl
theorem bi__law_refused {K : PySem.W.Frag} {mg : Str → Option Value} {a : Ad} (T : Txt K mg a) : Binds K a.d__law_refused P__law_refused [] := T.F__law_refused.binds (ps := P__law_refused) fun _ _ _ _ _ _ us hl => match us, hl with | [_], _ => rfl
theorem bi__law_end_right {K : PySem.W.Frag} {mg : Str → Option Value} {a : Ad} (T : Txt K mg a) : Binds K a.d__law_end_right P__law_end_right [] := T.F__law_end_right.binds (ps := P__law_end_right) fun _ _ _ _ _ _ us hl => match us, hl with | [_, _, _], _ => rfl
theorem bi_law {K : PySem.W.Frag} {mg : Str → Option Value} {a : Ad} (T : Txt K mg a) : Binds K a.d_law P_law [] := T.F_law.binds (ps := P_law) fun _ _ _ _ _ _ us hl => match us, hl with | [_], _ => rfl
end Qw

set_option Elab.async false
set_option linter.all false
set_option maxRecDepth 100000
set_option maxHeartbeats 4000000
namespace Qw
open PySem L2
/-! ### the machine, told in plain Lean -/
structure RS where
  breaks : Tx
  hard : Tx
  soft : Tx
  bend : Tx
  note : Tx
def RS.f (r : RS) : List (Str × V) := [("breaks", .str (S r.breaks)), ("hard", .str (S r.hard)), ("soft", .str (S r.soft)), ("bend", .str (S r.bend)), ("note", .str (S r.note))]
def RS.quotes (r : RS) : Tx := r.hard ++ r.soft
abbrev NT : Tx := [110, 111, 116, 101]
abbrev LE : Nat := 10
abbrev W3 := Tx × Nat × Nat
structure MS where
  rules : Addr
  state : Tx
  bent : Bool
  word : Option Tx
  begun : Nat
  opened : Nat
  place : Nat
def oV : Option Tx → V
  | none => .non
  | some w => .str (S w)
def MS.f (m : MS) : List (Str × V) := [("rules", .ref m.rules), ("state", .str (S m.state)), ("bent", .bl m.bent), ("word", oV m.word), ("begun", .int m.begun), ("opened", .int m.opened), ("place", .int m.place)]
def MS.zero (r : Addr) : MS := ⟨r, [], false, none, 0, 0, 0⟩
def MS.begin (m : MS) : MS := match m.word with
  | none => { m with word := some [], begun := m.place }
  | some _ => m
def MS.out (m : MS) : List W3 := match m.word with
  | none => []
  | some w => [(w, m.begun, m.place)]
def MS.drop (m : MS) : MS := { m with word := none }
def MS.add (m : MS) (c : Nat) : MS := { m with word := m.word.map (· ++ [c]) }
def MS.plain (r : RS) (m : MS) (c : Nat) : MS × List W3 :=
  if c ∈ r.breaks then (m.drop, m.out)
  else if c ∈ r.note then ({ m.drop with state := NT }, m.out)
  else if c ∈ r.quotes then ({ m.begin with state := [c], opened := m.begin.place }, [])
  else if c ∈ r.bend then ({ m.begin with bent := true, opened := m.begin.place }, [])
  else (m.begin.add c, [])
section lk
variable (r : RS) (m : MS)
theorem lk_breaks : List.lookup ("breaks" : Str) r.f = some (.str (S r.breaks)) := by kernel_rfl
theorem lk_hard : List.lookup ("hard" : Str) r.f = some (.str (S r.hard)) := by kernel_rfl
theorem lk_soft : List.lookup ("soft" : Str) r.f = some (.str (S r.soft)) := by kernel_rfl
theorem lk_bend : List.lookup ("bend" : Str) r.f = some (.str (S r.bend)) := by kernel_rfl
theorem lk_note : List.lookup ("note" : Str) r.f = some (.str (S r.note)) := by kernel_rfl
theorem lk_rules : List.lookup ("rules" : Str) m.f = some (.ref m.rules) := by kernel_rfl
theorem lk_state : List.lookup ("state" : Str) m.f = some (.str (S m.state)) := by kernel_rfl
theorem lk_bent : List.lookup ("bent" : Str) m.f = some (.bl m.bent) := by kernel_rfl
theorem lk_word : List.lookup ("word" : Str) m.f = some (oV m.word) := by kernel_rfl
theorem lk_begun : List.lookup ("begun" : Str) m.f = some (.int m.begun) := by kernel_rfl
theorem lk_opened : List.lookup ("opened" : Str) m.f = some (.int m.opened) := by kernel_rfl
theorem lk_place : List.lookup ("place" : Str) m.f = some (.int m.place) := by kernel_rfl
theorem pt_state (x : Tx) : putF ("state" : Str) (.str (S x)) m.f = { m with state := x }.f := by kernel_rfl
theorem pt_bent (x : Bool) : putF ("bent" : Str) (.bl x) m.f = { m with bent := x }.f := by kernel_rfl
theorem pt_word (x : Option Tx) : putF ("word" : Str) (oV x) m.f = { m with word := x }.f := by kernel_rfl
theorem pt_begun (x : Nat) : putF ("begun" : Str) (.int x) m.f = { m with begun := x }.f := by kernel_rfl
theorem pt_opened (x : Nat) : putF ("opened" : Str) (.int x) m.f = { m with opened := x }.f := by kernel_rfl
theorem pt_place (x : Nat) : putF ("place" : Str) (.int x) m.f = { m with place := x }.f := by kernel_rfl
theorem pt_wordS (x : Tx) : putF ("word" : Str) (.str (S x)) m.f = { m with word := some x }.f := by kernel_rfl
theorem pt_wordN : putF ("word" : Str) .non m.f = { m with word := none }.f := by kernel_rfl
theorem pt_place1 (x : Nat) : putF ("place" : Str) (.int ((x : Int) + 1)) m.f = { m with place := x + 1 }.f := by kernel_rfl
theorem litv_empty : V.str (Str.ofString "") = V.str (S []) := by decide +kernel
theorem litv_note : V.str (Str.ofString "note") = V.str (S NT) := by decide +kernel
theorem litv_nl : V.str (Str.ofString "\n") = V.str (S [LE]) := by decide +kernel
theorem lkn_begin : List.lookup ("begin" : Str) m.f = none := by kernel_rfl
theorem lkn_ended : List.lookup ("ended" : Str) m.f = none := by kernel_rfl
theorem lkn_plain : List.lookup ("plain" : Str) m.f = none := by kernel_rfl
theorem lkn_quoted : List.lookup ("quoted" : Str) m.f = none := by kernel_rfl
theorem lkn_step : List.lookup ("step" : Str) m.f = none := by kernel_rfl
theorem lkn_fault : List.lookup ("fault" : Str) m.f = none := by kernel_rfl
theorem lkn_key : List.lookup ("key" : Str) m.f = none := by kernel_rfl
theorem lkn_told : List.lookup ("told" : Str) r.f = none := by kernel_rfl
theorem lkn_quotes : List.lookup ("quotes" : Str) r.f = none := by kernel_rfl
theorem lkn_special : List.lookup ("special" : Str) r.f = none := by kernel_rfl
theorem oV_inj {x y : Option Tx} : oV x = oV y ↔ x = y := by
  cases x <;> cases y <;> simp [oV, S_inj]
theorem mf_inj {m m' : MS} : m.f = m'.f ↔ m = m' := by
  constructor
  · intro h
    cases m; cases m'
    simp only [MS.f, List.cons.injEq, Prod.mk.injEq, V.ref.injEq, V.str.injEq, V.bl.injEq, V.int.injEq, S_inj, oV_inj, true_and, and_true, Int.natCast_inj] at h
    obtain ⟨h1, h2, h3, h4, h5, h6, h7⟩ := h
    subst h1 h2 h3 h4 h5 h6 h7
    rfl
  · intro h; rw [h]
theorem rf_inj {r r' : RS} : r.f = r'.f ↔ r = r' := by
  constructor
  · intro h
    cases r; cases r'
    simp only [RS.f, List.cons.injEq, Prod.mk.injEq, V.str.injEq, S_inj, true_and, and_true] at h
    obtain ⟨h1, h2, h3, h4, h5⟩ := h
    subst h1 h2 h3 h4 h5
    rfl
  · intro h; rw [h]
theorem pt_open1 (x : Nat) : putF ("opened" : Str) (.int ((x : Int) + 1)) m.f = { m with opened := x + 1 }.f := by kernel_rfl
theorem len_mf : m.f.length < 1000 := by show 7 < 1000; decide
end lk
theorem cx_K {CX : CXT} {P : Program} {w : World} {K : PySem.W.Frag} {mg : Str → Option Value} {base : Heap} {N : List Str} {q : Str} {sc : Scope} {f : Addr} {cd : Value} {A : Around} {o : List Env} {s : Shared} {H : Hp} {E : XK} : (cxOf CX P w K mg base N q sc f cd A o s H E).K = K := rfl
theorem cx_N {CX : CXT} {P : Program} {w : World} {K : PySem.W.Frag} {mg : Str → Option Value} {base : Heap} {N : List Str} {q : Str} {sc : Scope} {f : Addr} {cd : Value} {A : Around} {o : List Env} {s : Shared} {H : Hp} {E : XK} : (cxOf CX P w K mg base N q sc f cd A o s H E).nox.K = K := rfl
local macro_rules | `(tactic| walk_at "rd") => `(tactic| simp only [tSeq, tNext, tAsg, tRet, tRetN, tDrop, tIfS, sFld, sFldAug, tVar, tC, tOp, tUn, tTest, tB, tAnd, tOr, tNot, tAndV, tOrV, tNotV, tIf, tTup, tLst, tCons, tNil, tCB, tCall, tMeth, tMake, tFld, rI, rI0, rU, rEq, rNe, rCat, gName, gTup, gCons, gNil, tPar, tPar3, tBM, tBM0, rAppend, rExtend, rPopAt, rIxL, rIxT, rIxS, tSl, rSlS, rSlL, tPart, tNoPart, iStr, iTup, iList, iRng1, tAug, ipI, L2.rAdd, L2.rSub, L2.rAddS, tChain, rIsB, rNotB, scal_ss, scal_ii, scal_bb, scal_nn, scal_in, scal_ni, tYes,
  cx_K, cx_N, List.getElem?_cons_zero, List.getElem?_cons_succ, List.set_cons_zero, List.set_cons_succ, List.nil_append, List.cons_append, List.append_nil, List.length_cons, List.length_nil, Nat.zero_add,
  Option.some.injEq, V.ref.injEq, V.int.injEq, V.str.injEq, V.bl.injEq, HO.ins.injEq, HO.lst.injEq, HO.tup.injEq, List.cons.injEq, exists_eq_left, exists_eq_left', exists_eq_right, exists_eq_right', and_true, true_and, exists_and_left, exists_and_right, and_assoc, decide_eq_true_eq, Bool.not_eq_true', decide_eq_false_iff_not, reduceCtorEq, exists_const, forall_const, if_true, if_false, false_and, and_false, ite_true, ite_false, Bool.true_eq_false, Bool.false_eq_true, Nat.reduceLeDiff, Nat.reduceAdd, small_line, small_lt, upd_ne, ne_eq, not_false_eq_true, Nat.zero_le, Prod.mk.injEq, upd_same, upd_upd, S_tl, S_len, S_app, S_one, S_inj,
  lk_breaks, lk_hard, lk_soft, lk_bend, lk_note, lk_rules, lk_state, lk_bent, lk_word, lk_begun, lk_opened, lk_place, pt_state, pt_bent, pt_word, pt_wordS, pt_wordN, pt_begun, pt_opened, pt_place, pt_place1, len_mf, litv_empty, litv_note, litv_nl, mf_inj, rf_inj, lkn_begin, lkn_ended, lkn_plain, lkn_quoted, lkn_step, lkn_fault, lkn_key, lkn_told, lkn_quotes, lkn_special, pt_open1, not_true_eq_false, not_false_eq_true])
local macro_rules | `(tactic| walk_at "rdh") => `(tactic| simp only [tSeq, tNext, tAsg, tRet, tRetN, tDrop, tIfS, sFld, sFldAug, tVar, tC, tOp, tUn, tTest, tB, tAnd, tOr, tNot, tAndV, tOrV, tNotV, tIf, tTup, tLst, tCons, tNil, tCB, tCall, tMeth, tMake, tFld, rI, rI0, rU, rEq, rNe, rCat, gName, gTup, gCons, gNil, tPar, tPar3, tBM, tBM0, rAppend, rExtend, rPopAt, rIxL, rIxT, rIxS, tSl, rSlS, rSlL, tPart, tNoPart, iStr, iTup, iList, iRng1, tAug, ipI, L2.rAdd, L2.rSub, L2.rAddS, tChain, rIsB, rNotB, scal_ss, scal_ii, scal_bb, scal_nn, scal_in, scal_ni, tYes,
  cx_K, cx_N, List.getElem?_cons_zero, List.getElem?_cons_succ, List.set_cons_zero, List.set_cons_succ, List.nil_append, List.cons_append, List.append_nil, List.length_cons, List.length_nil, Nat.zero_add,
  Option.some.injEq, V.ref.injEq, V.int.injEq, V.str.injEq, V.bl.injEq, HO.ins.injEq, HO.lst.injEq, HO.tup.injEq, List.cons.injEq, exists_eq_left, exists_eq_left', exists_eq_right, exists_eq_right', and_true, true_and, exists_and_left, exists_and_right, and_assoc, decide_eq_true_eq, Bool.not_eq_true', decide_eq_false_iff_not, reduceCtorEq, exists_const, forall_const, if_true, if_false, false_and, and_false, ite_true, ite_false, Bool.true_eq_false, Bool.false_eq_true, Nat.reduceLeDiff, Nat.reduceAdd, small_line, small_lt, upd_ne, ne_eq, not_false_eq_true, Nat.zero_le, Prod.mk.injEq, upd_same, upd_upd, S_tl, S_len, S_app, S_one, S_inj,
  lk_breaks, lk_hard, lk_soft, lk_bend, lk_note, lk_rules, lk_state, lk_bent, lk_word, lk_begun, lk_opened, lk_place, pt_state, pt_bent, pt_word, pt_wordS, pt_wordN, pt_begun, pt_opened, pt_place, pt_place1, len_mf, litv_empty, litv_note, litv_nl, mf_inj, rf_inj, lkn_begin, lkn_ended, lkn_plain, lkn_quoted, lkn_step, lkn_fault, lkn_key, lkn_told, lkn_quotes, lkn_special, pt_open1, not_true_eq_false, not_false_eq_true, *])
local macro_rules | `(tactic| walk_at "pl") => `(tactic| (first | decide | (refine Nat.lt_of_le_of_lt (length_putF _ _ _) ?_; repeat (first | decide | refine pl2 ?_))))
/-! ### what is told: words with their places -/
def Fnd (H : Hp) (x : V) (d : W3) : Prop := ∃ t u, x = .ref t ∧ H t = some (.tup [.str (S d.1), .ref u]) ∧ H u = some (.tup [.int d.2.1, .int d.2.2])
abbrev Fnds (H : Hp) (xs : List V) (ds : List W3) : Prop := Paired (Fnd H) xs ds
theorem Fnd.mono {H H' : Hp} {x : V} {d : W3} (h : Fnd H x d) (t : Tk H H') : Fnd H' x d := by
  obtain ⟨b, u, e, h1, h2⟩ := h
  exact ⟨b, u, e, t _ _ h1, t _ _ h2⟩
theorem Fnds.mono {H H' : Hp} {xs : List V} {ds : List W3} (h : Fnds H xs ds) (t : Tk H H') : Fnds H' xs ds := Paired.mapP h fun _ _ q => q.mono t
theorem Paired.app {α β : Type} {F : α → β → Prop} : ∀ {l₁ : List α} {l₂ : List β} {m₁ : List α} {m₂ : List β}, Paired F l₁ l₂ → Paired F m₁ m₂ → Paired F (l₁ ++ m₁) (l₂ ++ m₂)
  | _, _, _, _, .nil, h => h
  | _, _, _, _, .cons r t, h => .cons r (Paired.app t h)
/-! ### the machine's invariant -/
structure MS.Ok (m : MS) : Prop where
  st : m.state = [] ∨ m.state = NT ∨ ∃ q, m.state = [q]
  wd : (m.bent = true ∨ ∃ q, m.state = [q]) → ∃ w, m.word = some w
  ln : ∀ w, m.word = some w → w.length ≤ m.place
theorem MS.Ok.zero (r : Addr) : (MS.zero r).Ok := ⟨.inl rfl, fun h => (by rcases h with h | ⟨q, h⟩ <;> cases h), fun w h => (by cases h)⟩
def MS.quoted (r : RS) (m : MS) (c : Nat) : MS :=
  if [c] = m.state then { m with state := [] }
  else if c ∈ r.bend ∧ m.state.all (· ∈ r.soft) = true then { m with bent := true }
  else m.add c
def MS.step (r : RS) (m : MS) (c : Nat) : MS × List W3 :=
  let m1 := if m.state = NT ∧ c = LE then { m with state := [] } else m
  let x := if m1.bent = true then (({ m1 with bent := false } : MS).add c, []) else if m1.state = [] then m1.plain r c else if m1.state = NT then (m1, []) else (m1.quoted r c, [])
  ({ x.1 with place := x.1.place + 1 }, x.2)
def MS.fault (m : MS) : Option Nat := if m.bent = true ∨ (m.state ≠ [] ∧ m.state ≠ NT) then some m.opened else none
section
variable {P : Program} {w : World} {K : PySem.W.Frag} {mg : Str → Option Value} {base : Heap} {a : Ad}
theorem rm_ne {H : Hp} {p q C D dx dr : Addr} {m : MS} {r : RS} (h1 : H p = some (.ins C dx m.f)) (h2 : H q = some (.ins D dr r.f)) : q ≠ p :=
  Ne.symm (ne_of h1 h2 fun z => by injection z with _ _ z; exact absurd (congrArg List.length z) (by show ¬ (7 = 5); decide))
def sp_Machine_init (a : Ad) : Sp := fun vs H Q _ => ∃ p dx r, vs = [.ref p, .ref r] ∧ H p = some (.ins a.c_Machine dx []) ∧
  ∀ H', H' p = some (.ins a.c_Machine dx (MS.zero r).f) → Kp p H H' → Q .non H'
theorem ok_Machine_init (T : Txt K mg a) : FnOk P w K mg base CX0 1 a.f_Machine_init a.d_Machine_init P_Machine_init (sp_Machine_init a) := by
  refine T.F_Machine_init.ok sc_Machine_init (fun vs H Q E h => ?_) (fun cdv A outer s H vs Q E hr h => ?_)
  · obtain ⟨p, dx, m, rfl, _⟩ := h
    rfl
  · obtain ⟨p, dx, r, rfl, hM, k⟩ := h
    refine ⟨_,
(pss_cons (ps_fld (pv 0) (pv 1) rfl)
    (pss_cons (ps_fld (pv 0) (pe_glob (v := .str ("" : Str)) rfl T.g_PLAIN ⟨_, rfl⟩) rfl)
    (pss_cons (ps_fld (pv 0) pe_bl rfl)
    (pss_cons (ps_fld (pv 0) pe_non rfl)
    (pss_cons (ps_fld (pv 0) pe_int rfl)
    (pss_cons (ps_fld (pv 0) pe_int rfl)
    (pss_one (ps_fld (pv 0) pe_int rfl))))))))
      , ?_⟩
    rw [show start N_Machine_init [V.ref p, V.ref r] = [some (.ref p), some (.ref r)] from rfl]
    have hc := T.c_Machine.cl
    have n1 := T.n_Machine_word
    have n2 := T.n_Machine_place
    have n3 := T.n_Machine_begun
    have n4 := T.n_Machine_rules
    have n5 := T.n_Machine_state
    have n6 := T.n_Machine_bent
    have n7 := T.n_Machine_opened
    walk_at "rdh"
    refine ⟨by walk_at "pl", by walk_at "pl", by walk_at "pl", by walk_at "pl", by walk_at "pl", by walk_at "pl", by walk_at "pl", ?_⟩
    refine k _ ?_ kp_upd
    rw [upd_same]
    exact congrArg (fun l => some (HO.ins a.c_Machine dx l)) (show _ = (MS.zero r).f by kernel_rfl)
def sp_begin (a : Ad) : Sp := fun vs H Q _ => ∃ p dx m, vs = [.ref p] ∧ H p = some (.ins a.c_Machine dx (MS.f m)) ∧
  ∀ H', H' p = some (.ins a.c_Machine dx m.begin.f) → Kp p H H' → Q .non H'
theorem ok_Machine_begin (T : Txt K mg a) : FnOk P w K mg base CX0 1 a.f_Machine_begin a.d_Machine_begin P_Machine_begin (sp_begin a) := by
  refine T.F_Machine_begin.ok sc_Machine_begin (fun vs H Q E h => ?_) (fun cdv A outer s H vs Q E hr h => ?_)
  · obtain ⟨p, dx, m, rfl, _⟩ := h
    rfl
  · obtain ⟨p, dx, m, rfl, hM, k⟩ := h
    refine ⟨_,
(pss_one (ps_if (pt_cmpR op_isN (pe_fld (pv 0) rfl) pe_non (nomark _)) (pss_cons (ps_fld (pv 0) pe_str rfl)
    (pss_one (ps_fld (pv 0) (pe_fld (pv 0) rfl) rfl))) pss_nil))
      , ?_⟩
    rw [show start N_Machine_begin [V.ref p] = [some (.ref p)] from rfl]
    have hc := T.c_Machine.cl
    have n1 := T.n_Machine_word
    have n2 := T.n_Machine_place
    have n3 := T.n_Machine_begun
    walk_at "rdh"
    cases hw : m.word with
    | none =>
      simp only [oV, ite_true]
      refine k _ ?_ kp_upd
      rw [upd_same]
      simp only [MS.begin, hw]
    | some z =>
      simp only [oV, reduceCtorEq, ite_false]
      refine k _ ?_ fun b o e _ => e
      rw [hM]
      simp only [MS.begin, hw]
def sp_ended (a : Ad) : Sp := fun vs H Q _ => ∃ p dx m, vs = [.ref p] ∧ H p = some (.ins a.c_Machine dx (MS.f m)) ∧
  ∀ l H' xs, H l = none → H' l = some (.lst xs) → Fnds H' xs m.out → H' p = some (.ins a.c_Machine dx m.drop.f) → Kp p H H' → Q (.ref l) H'
theorem ok_Machine_ended (T : Txt K mg a) : FnOk P w K mg base CX0 1 a.f_Machine_ended a.d_Machine_ended P_Machine_ended (sp_ended a) := by
  refine T.F_Machine_ended.ok sc_Machine_ended (fun vs H Q E h => ?_) (fun cdv A outer s H vs Q E hr h => ?_)
  · obtain ⟨p, dx, m, rfl, _⟩ := h
    rfl
  · obtain ⟨p, dx, m, rfl, hM, k⟩ := h
    refine ⟨_,
(pss_cons (ps_if (pt_cmpR op_isN (pe_fld (pv 0) rfl) pe_non (nomark _)) (pss_one (ps_ret (pe_lst pa_nil))) pss_nil)
    (pss_cons (ps_set (i := 1) sc_Machine_ended.nd rfl (by first | exact Or.inl rfl | exact Or.inr rfl) (pe_lst (pa_cons (pe_tup (pa_cons (pe_fld (pv 0) rfl) (pa_cons (pe_tup (pa_cons (pe_fld (pv 0) rfl) (pa_cons (pe_fld (pv 0) rfl) pa_nil))) pa_nil))) pa_nil)))
    (pss_cons (ps_fld (pv 0) pe_non rfl)
    (pss_one (ps_ret (pv 1))))))
      , ?_⟩
    rw [show start N_Machine_ended [V.ref p] = [some (.ref p), none] from rfl]
    have hc := T.c_Machine.cl
    have n1 := T.n_Machine_word
    have n2 := T.n_Machine_place
    have n3 := T.n_Machine_begun
    walk_at "rdh"
    cases hw : m.word with
    | none =>
      simp only [oV, ite_true]
      intro l hl
      refine k l _ [] hl upd_same ?_ ?_ ((same_new hl).kp _)
      · simp only [MS.out, hw]; exact .nil
      · rw [upd_old hM hl]
        simp only [MS.drop, ← hw]
    | some z =>
      simp only [oV, reduceCtorEq, ite_false]
      intro t ht u hu l hl
      have ht' := none_upd hu
      have n4 := ne_upd hu
      have n5 := ne_upd hl
      have n6 := ne_upd (none_upd' hl n5)
      have n7 := none_upd (none_upd' hl n5)
      have e1 := ne_of_none hM ht
      have e2 := ne_of_none hM ht'
      have e3 := ne_of_none hM n7
      walk_at "rdh"
      refine k l _ [.ref u] n7 ?_ ?_ ?_ ?_
      · rw [upd_ne (Ne.symm e3), upd_same]
      · simp only [MS.out, hw]
        refine .cons ⟨u, t, rfl, ?_, ?_⟩ .nil
        · rw [upd_ne (Ne.symm e2), upd_ne (Ne.symm n5), upd_same]
        · rw [upd_ne (Ne.symm e1), upd_ne (Ne.symm n6), upd_ne (Ne.symm n4), upd_same]
      · rw [upd_same, MS.drop]
      · exact ((((same_new ht).trans (same_new hu)).trans (same_new hl)).kp p).upd
/-- the machine's sign: a sign outside of quoted stretches -/
def sp_plain (a : Ad) : Sp := fun vs H Q _ => ∃ p dx m c dr r, vs = [.ref p, .str (S [c])] ∧ H p = some (.ins a.c_Machine dx (MS.f m)) ∧ H m.rules = some (.ins a.c_Rules dr (RS.f r)) ∧ r.hard.length + r.soft.length ≤ 100 ∧ m.Ok ∧ m.place < 100000 ∧
  ∀ l H' xs, H l = none → H' l = some (.lst xs) → Fnds H' xs (m.plain r c).2 → H' p = some (.ins a.c_Machine dx (m.plain r c).1.f) → Kp p H H' → Q (.ref l) H'
def sp_quotes (a : Ad) : Sp := fun vs H Q _ => ∃ p dr r, vs = [.ref p] ∧ H p = some (.ins a.c_Rules dr (RS.f r)) ∧ r.hard.length + r.soft.length ≤ 100 ∧ Q (.str (S r.quotes)) H
theorem ok_Rules_quotes (T : Txt K mg a) : FnOk P w K mg base CX0 1 a.f_Rules_quotes a.d_Rules_quotes P_Rules_quotes (sp_quotes a) := by
  refine T.F_Rules_quotes.ok sc_Rules_quotes (fun vs H Q E h => ?_) (fun cdv A outer s H vs Q E hr h => ?_)
  · obtain ⟨p, dx, m, rfl, _⟩ := h
    rfl
  · obtain ⟨p, dx, m, rfl, hM, hz, k⟩ := h
    refine ⟨_,
(pss_one (ps_ret (pe_op op_add_str (pe_fld (pv 0) rfl) (pe_fld (pv 0) rfl))))
      , ?_⟩
    rw [show start N_Rules_quotes [V.ref p] = [some (.ref p)] from rfl]
    have hc := T.c_Rules.cl
    have n1 := T.n_Rules_hard
    have n2 := T.n_Rules_soft
    walk_at "rdh"
    exact ⟨Nat.le_trans hz (by decide), k⟩
theorem ok_Machine_plain (T : Txt K mg a) : FnOk P w K mg base CX0 2 a.f_Machine_plain a.d_Machine_plain P_Machine_plain (sp_plain a) := by
  refine T.F_Machine_plain.ok sc_Machine_plain (fun vs H Q E h => ?_) (fun cdv A outer s H vs Q E hr h => ?_)
  · obtain ⟨p, dx, m, c, dr, r, rfl, _⟩ := h
    rfl
  · obtain ⟨p, dx, m, c, dr, r, rfl, hM, hR, hq, ok, hz, k⟩ := h
    have G_Machine_ended := ok_Machine_ended (P := P) (w := w) (base := base) T
    have B_Machine_ended := bi_Machine_ended T
    have G_Machine_begin := ok_Machine_begin (P := P) (w := w) (base := base) T
    have B_Machine_begin := bi_Machine_begin T
    have G_Rules_quotes := ok_Rules_quotes (P := P) (w := w) (base := base) T
    have B_Rules_quotes := bi_Rules_quotes T
    refine ⟨_,
(pss_cons (ps_set (i := 2) sc_Machine_plain.nd rfl (by first | exact Or.inl rfl | exact Or.inr rfl) (pe_fld (pv 0) rfl))
    (pss_cons (ps_if (pt_cmpR op_in_sign (pv 1) (pe_fld (pv 2) rfl) rfl) (pss_one (ps_ret (pe_meth0 (pv 0) T.c_Machine.cl T.m_Machine_ended G_Machine_ended (hr.mono (by decide)) B_Machine_ended .nil pass0))) pss_nil)
    (pss_cons (ps_if (pt_cmpR op_in_sign (pv 1) (pe_fld (pv 2) rfl) rfl) (pss_cons (ps_fld (pv 0) (pe_glob (v := .str ("note" : Str)) rfl T.g_NOTED ⟨_, rfl⟩) rfl)
    (pss_one (ps_ret (pe_meth0 (pv 0) T.c_Machine.cl T.m_Machine_ended G_Machine_ended (hr.mono (by decide)) B_Machine_ended .nil pass0)))) pss_nil)
    (pss_cons (ps_expr (pe_meth0 (pv 0) T.c_Machine.cl T.m_Machine_begin G_Machine_begin (hr.mono (by decide)) B_Machine_begin .nil pass0))
    (pss_cons (ps_if (pt_cmpR op_in_sign (pv 1) (pe_meth0 (pv 2) T.c_Rules.cl T.m_Rules_quotes G_Rules_quotes (hr.mono (by decide)) B_Rules_quotes .nil pass0) rfl) (pss_cons (ps_fld (pv 0) (pv 1) rfl)
    (pss_one (ps_fld (pv 0) (pe_fld (pv 0) rfl) rfl))) (pss_one (ps_if (pt_cmpR op_in_sign (pv 1) (pe_fld (pv 2) rfl) rfl) (pss_cons (ps_fld (pv 0) pe_bl rfl)
    (pss_one (ps_fld (pv 0) (pe_fld (pv 0) rfl) rfl))) (pss_one (ps_fldaug (pv 0) (pv 1) in_addS)))))
    (pss_one (ps_ret (pe_lst pa_nil))))))))
      , ?_⟩
    rw [show start N_Machine_plain [V.ref p, V.str (S [c])] = [some (.ref p), some (.str (S [c])), none] from rfl]
    have hc := T.c_Machine.cl
    have hd := T.c_Rules.cl
    have n1 := T.n_Machine_word
    have n2 := T.n_Machine_place
    have n3 := T.n_Machine_rules
    have n4 := T.n_Machine_state
    have n5 := T.n_Machine_opened
    have n6 := T.n_Machine_bent
    have r1 := T.n_Rules_breaks
    have r2 := T.n_Rules_note
    have r3 := T.n_Rules_bend
    have hne := rm_ne hM hR
    walk_at "rdh"
    refine ite2 (fun c1 => ?_) (fun c1 => ?_)
    · refine ⟨p, dx, m, rfl, hM, fun l H' xs hl h1 h2 h3 h4 => k l H' xs hl h1 ?_ ?_ h4⟩
      · simpa only [MS.plain, if_pos c1] using h2
      · simpa only [MS.plain, if_pos c1] using h3
    refine ite2 (fun c2 => ?_) (fun c2 => ?_)
    · refine ⟨p, dx, _, rfl, upd_same, fun l H' xs hl h1 h2 h3 h4 => k l H' xs (none_upd hl) h1 ?_ ?_ (kp_upd.trans h4)⟩
      · simpa only [MS.plain, if_neg c1, if_pos c2, MS.out] using h2
      · simpa only [MS.plain, if_neg c1, if_pos c2, MS.drop] using h3
    refine ⟨p, dx, m, rfl, hM, fun H' h1 h2 => ?_⟩
    have hR' := h2 _ _ hR hne
    have er : m.begin.rules = m.rules := by unfold MS.begin; split <;> rfl
    have bk : ∀ {o u l}, upd (upd H' p o) l u p = some o → True := fun _ => trivial
    walk_at "rdh"
    refine ⟨_, _, _, rfl, hR', hq, ?_⟩
    walk_at "rdh"
    have fin : ∀ (m' : MS) (l : Addr), upd H' p (.ins a.c_Machine dx m'.f) l = none → MS.plain r m c = (m', []) → Q (.ref l) (upd (upd H' p (.ins a.c_Machine dx m'.f)) l (.lst [])) := fun m' l hl e => by
      have e1 := ne_upd hl
      refine k l _ [] ?_ upd_same ?_ ?_ ?_
      · cases q : H l with
        | none => rfl
        | some o => exact absurd (h2 l o q e1) (by rw [none_upd hl]; intro z; cases z)
      · rw [e]; exact .nil
      · rw [e, upd_ne (Ne.symm e1), upd_same]
      · exact (h2.upd).trans ((same_new hl).kp p)
    refine ite2 (fun c3 => ?_) (fun c3 => ?_)
    · intro l hl
      exact fin _ l hl (by simp only [MS.plain, if_neg c1, if_neg c2, if_pos c3, er])
    refine ite2 (fun c4 => ?_) (fun c4 => ?_)
    · intro l hl
      exact fin _ l hl (by simp only [MS.plain, if_neg c1, if_neg c2, if_neg c3, if_pos c4, er])
    obtain ⟨z, hz1, hz2⟩ : ∃ z, m.begin.word = some z ∧ z.length ≤ m.place := by
      unfold MS.begin
      cases hw : m.word with
      | none => exact ⟨[], rfl, Nat.zero_le _⟩
      | some z => exact ⟨z, hw, ok.ln z hw⟩
    rw [hz1]
    simp only [oV]
    walk_at "rdh"
    refine ⟨Nat.le_trans (Nat.succ_le_of_lt (Nat.lt_of_le_of_lt hz2 hz)) (by decide), fun l hl => ?_⟩
    exact fin _ l hl (by simp only [MS.plain, if_neg c1, if_neg c2, if_neg c3, if_neg c4, MS.add, er, hz1, Option.map])
def sp_quoted (a : Ad) : Sp := fun vs H Q _ => ∃ p dx m c dr r q z, vs = [.ref p, .str (S [c])] ∧ H p = some (.ins a.c_Machine dx (MS.f m)) ∧ H m.rules = some (.ins a.c_Rules dr (RS.f r)) ∧ m.state = [q] ∧ m.word = some z ∧ z.length ≤ m.place ∧ m.place < 100000 ∧
  ∀ H', H' p = some (.ins a.c_Machine dx (m.quoted r c).f) → Kp p H H' → Q .non H'
theorem ok_Machine_quoted (T : Txt K mg a) : FnOk P w K mg base CX0 1 a.f_Machine_quoted a.d_Machine_quoted P_Machine_quoted (sp_quoted a) := by
  refine T.F_Machine_quoted.ok sc_Machine_quoted (fun vs H Q E h => ?_) (fun cdv A outer s H vs Q E hr h => ?_)
  · obtain ⟨p, dx, m, c, dr, r, q, z, rfl, _⟩ := h
    rfl
  · obtain ⟨p, dx, m, c, dr, r, q, z, rfl, hM, hR, hs, hw, hz, hp, k⟩ := h
    obtain ⟨mr, ms, mb, mw, m1, m2, m3⟩ := m
    dsimp only at hs hw hR hz hp
    subst hs hw
    refine ⟨_,
(pss_one (ps_if (pt_cmpR op_eq (pv 1) (pe_fld (pv 0) rfl) (nomark _)) (pss_one (ps_fld (pv 0) (pe_glob (v := .str ("" : Str)) rfl T.g_PLAIN ⟨_, rfl⟩) rfl)) (pss_one (ps_if (PW.pt (pw_and (pt_cmpR op_in_sign (pv 1) (pe_fld (pe_fld (pv 0) rfl) rfl) rfl) (pw_and1 (pt_cmpR op_in_sign (pe_fld (pv 0) rfl) (pe_fld (pe_fld (pv 0) rfl) rfl) rfl)))) (pss_one (ps_fld (pv 0) pe_bl rfl)) (pss_one (ps_fldaug (pv 0) (pv 1) in_addS))))))
      , ?_⟩
    rw [show start N_Machine_quoted [V.ref p, V.str (S [c])] = [some (.ref p), some (.str (S [c]))] from rfl]
    have hc := T.c_Machine.cl
    have hd := T.c_Rules.cl
    have n1 := T.n_Machine_word
    have n3 := T.n_Machine_rules
    have n4 := T.n_Machine_state
    have n6 := T.n_Machine_bent
    have r1 := T.n_Rules_soft
    have r3 := T.n_Rules_bend
    have hne : mr ≠ p := rm_ne hM hR
    walk_at "rdh"
    simp only [oV]
    walk_at "rdh"
    have hl : List.length z + 1 ≤ sizeLine := Nat.le_trans (Nat.succ_le_of_lt (Nat.lt_of_le_of_lt hz hp)) (by decide)
    simp only [MS.quoted, MS.add, List.cons.injEq, and_true, List.all_cons, List.all_nil, Bool.and_true, decide_eq_true_eq, Option.map] at k
    refine ite2 (fun c1 => ?_) (fun c1 => ?_)
    · refine k _ ?_ kp_upd
      rw [upd_same, if_pos c1]
    refine ite2 (fun c2 => ?_) (fun c2 => ?_)
    · refine ite2 (fun c3 => ?_) (fun c3 => ?_)
      · refine k _ ?_ kp_upd
        rw [upd_same, if_neg c1, if_pos ⟨c2, c3⟩]
      · refine ⟨hl, k _ ?_ kp_upd⟩
        rw [upd_same, if_neg c1, if_neg (fun h => c3 h.2)]
    · refine ⟨hl, k _ ?_ kp_upd⟩
      rw [upd_same, if_neg c1, if_neg (fun h => c2 h.1)]
def sp_fault (a : Ad) : Sp := fun vs H Q _ => ∃ p dx m, vs = [.ref p] ∧ H p = some (.ins a.c_Machine dx (MS.f m)) ∧
  ∀ H', Same H H' → Q (match m.fault with | none => .non | some n => .int n) H'
theorem ok_Machine_fault (T : Txt K mg a) : FnOk P w K mg base CX0 1 a.f_Machine_fault a.d_Machine_fault P_Machine_fault (sp_fault a) := by
  refine T.F_Machine_fault.ok sc_Machine_fault (fun vs H Q E h => ?_) (fun cdv A outer s H vs Q E hr h => ?_)
  · obtain ⟨p, dx, m, rfl, _⟩ := h
    rfl
  · obtain ⟨p, dx, m, rfl, hM, k⟩ := h
    refine ⟨_,
(pss_one (ps_ret (pe_ifExp (PW.pt (pw_or (pt_val (pe_fld (pv 0) rfl)) (pw_or1 (pt_cmpR op_notIn_seq (pe_fld (pv 0) rfl) (pe_tup (pa_cons (pe_glob (v := .str ("" : Str)) rfl T.g_PLAIN ⟨_, rfl⟩) (pa_cons (pe_glob (v := .str ("note" : Str)) rfl T.g_NOTED ⟨_, rfl⟩) pa_nil))) rfl)))) (pe_fld (pv 0) rfl) pe_non)))
      , ?_⟩
    rw [show start N_Machine_fault [V.ref p] = [some (.ref p)] from rfl]
    have hc := T.c_Machine.cl
    have n4 := T.n_Machine_state
    have n5 := T.n_Machine_opened
    have n6 := T.n_Machine_bent
    walk_at "rdh"
    refine ite2 (fun c1 => ?_) (fun c1 => ?_)
    · have := k H (Same.refl H)
      rw [MS.fault, if_pos (.inl c1)] at this
      exact this
    intro t ht
    refine ⟨t, _, rfl, .inr (SqT.of upd_same), rfl, rfl, _, rfl, ?_⟩
    have hM' : upd H t (HO.tup [V.str (S []), V.str (S NT)]) p = some (HO.ins a.c_Machine dx m.f) := upd_old hM ht
    have c2 : (if true = true then !inV (V.str (S m.state)) [V.str (S []), V.str (S NT)] else inV (V.str (S m.state)) [V.str (S []), V.str (S NT)]) = decide (m.state ≠ [] ∧ m.state ≠ NT) := by
      simp only [inV, List.any, eqV, S_inj, ite_true, S_beq, Bool.or_false]
      rw [Bool.eq_iff_iff]
      simp only [Bool.not_eq_true', Bool.or_eq_false_iff, decide_eq_false_iff_not, decide_eq_true_eq]
      exact ⟨fun h => ⟨fun e => h.1 e.symm, fun e => h.2 e.symm⟩, fun h => ⟨fun e => h.1 e.symm, fun e => h.2 e.symm⟩⟩
    rw [c2]
    refine ite2 (fun c3 => ?_) (fun c3 => ?_)
    · walk_at "rdh"
      have := k (upd H t (HO.tup [V.str (S []), V.str (S NT)])) (same_new ht)
      rw [MS.fault, if_pos (.inr (of_decide_eq_true c3))] at this
      exact this
    · have := k (upd H t (HO.tup [V.str (S []), V.str (S NT)])) (same_new ht)
      rw [MS.fault, if_neg (fun h => h.elim c1 fun h => c3 (decide_eq_true h))] at this
      exact this
/-! ### a sign -/
theorem MS.rules_begin (m : MS) : m.begin.rules = m.rules := by unfold MS.begin; split <;> rfl
def sp_step (a : Ad) : Sp := fun vs H Q _ => ∃ p dx m c dr r, vs = [.ref p, .str (S [c])] ∧ H p = some (.ins a.c_Machine dx (MS.f m)) ∧ H m.rules = some (.ins a.c_Rules dr (RS.f r)) ∧ r.hard.length + r.soft.length ≤ 100 ∧ m.Ok ∧ m.place < 100000 ∧
  ∀ l H' xs, H l = none → H' l = some (.lst xs) → Fnds H' xs (m.step r c).2 → H' p = some (.ins a.c_Machine dx (m.step r c).1.f) → Kp p H H' → Q (.ref l) H'
theorem ok_Machine_step (T : Txt K mg a) : FnOk P w K mg base CX0 3 a.f_Machine_step a.d_Machine_step P_Machine_step (sp_step a) := by
  refine T.F_Machine_step.ok sc_Machine_step (fun vs H Q E h => ?_) (fun cdv A outer s H vs Q E hr h => ?_)
  · obtain ⟨p, dx, m, c, dr, r, rfl, _⟩ := h
    rfl
  · obtain ⟨p, dx, m, c, dr, r, rfl, hM, hR, hq, ok, hz, k⟩ := h
    have G_Machine_plain := ok_Machine_plain (P := P) (w := w) (base := base) T
    have B_Machine_plain := bi_Machine_plain T
    have G_Machine_quoted := ok_Machine_quoted (P := P) (w := w) (base := base) T
    have B_Machine_quoted := bi_Machine_quoted T
    refine ⟨_,
(pss_cons (ps_set (i := 2) sc_Machine_step.nd rfl (by first | exact Or.inl rfl | exact Or.inr rfl) (pe_lst pa_nil))
    (pss_cons (ps_if (PW.pt (pw_and (pt_cmpR op_eq (pe_fld (pv 0) rfl) (pe_glob (v := .str ("note" : Str)) rfl T.g_NOTED ⟨_, rfl⟩) (nomark _)) (pw_and1 (pt_cmpR op_eq (pv 1) (pe_glob (v := .str ("\n" : Str)) rfl T.g_LINE_END ⟨_, rfl⟩) (nomark _))))) (pss_one (ps_fld (pv 0) (pe_glob (v := .str ("" : Str)) rfl T.g_PLAIN ⟨_, rfl⟩) rfl)) pss_nil)
    (pss_cons (ps_if (pt_val (pe_fld (pv 0) rfl)) (pss_cons (ps_fld (pv 0) pe_bl rfl)
    (pss_one (ps_fldaug (pv 0) (pv 1) in_addS))) (pss_one (ps_if (pt_cmpR op_eq (pe_fld (pv 0) rfl) (pe_glob (v := .str ("" : Str)) rfl T.g_PLAIN ⟨_, rfl⟩) (nomark _)) (pss_one (ps_set (i := 2) sc_Machine_step.nd rfl (by first | exact Or.inl rfl | exact Or.inr rfl) (pe_meth (pv 0) T.c_Machine.cl T.m_Machine_plain G_Machine_plain (hr.mono (by decide)) B_Machine_plain .nil pass0 (pa_cons (pv 1) pa_nil)))) (pss_one (ps_if (pt_cmpR op_ne (pe_fld (pv 0) rfl) (pe_glob (v := .str ("note" : Str)) rfl T.g_NOTED ⟨_, rfl⟩) (nomark _)) (pss_one (ps_expr (pe_meth (pv 0) T.c_Machine.cl T.m_Machine_quoted G_Machine_quoted (hr.mono (by decide)) B_Machine_quoted .nil pass0 (pa_cons (pv 1) pa_nil)))) pss_nil)))))
    (pss_cons (ps_fldaug (pv 0) pe_int in_add)
    (pss_one (ps_ret (pv 2)))))))
      , ?_⟩
    rw [show start N_Machine_step [V.ref p, V.str (S [c])] = [some (.ref p), some (.str (S [c])), none] from rfl]
    have hc := T.c_Machine.cl
    have hd := T.c_Rules.cl
    have n1 := T.n_Machine_word
    have n2 := T.n_Machine_place
    have n4 := T.n_Machine_state
    have n6 := T.n_Machine_bent
    have hne := rm_ne hM hR
    walk_at "rdh"
    intro l0 hl0
    have S1 := same_new (o := HO.lst []) hl0
    have hM1 := S1 _ _ hM
    have hR1 := S1 _ _ hR
    have hL1 : upd H l0 (HO.lst []) l0 = some (HO.lst []) := upd_same
    generalize upd H l0 (HO.lst []) = H1 at *
    have np : p ≠ l0 := ne_of_none hM hl0
    -- the end: the place, and what is told
    have fin : ∀ (m' : MS) (l : Addr) (H' : Hp) (xs : List V), H l = none → H' l = some (.lst xs) → Fnds H' xs (m.step r c).2 → H' p = some (.ins a.c_Machine dx m'.f) → { m' with place := m'.place + 1 } = (m.step r c).1 → Kp p H H' →
        Q (.ref l) (upd H' p (.ins a.c_Machine dx { m' with place := m'.place + 1 }.f)) := fun m' l H' xs h1 h2 h3 h4 h5 h6 => by
      have e1 : l ≠ p := fun z => by rw [z] at h1; rw [h1] at hM; cases hM
      refine k l _ xs h1 ?_ (h3.mono (kp_upd.tk h4 fun _ z => by cases z)) ?_ (h6.upd)
      · rw [upd_ne e1]; exact h2
      · rw [upd_same, h5]
    have fin0 : ∀ m'' : MS, m.step r c = (m'', []) → Q (.ref l0) (upd H1 p (.ins a.c_Machine dx m''.f)) := fun m'' e => by
      refine k l0 _ [] hl0 ?_ (by rw [e]; exact .nil) (by rw [upd_same, e]) ((S1.kp p).upd)
      rw [upd_ne (Ne.symm np)]
      exact hL1
    have word : m.bent = true ∨ (∃ q, m.state = [q]) → ∃ z, m.word = some z ∧ z.length ≤ m.place := fun h => by
      obtain ⟨z, e⟩ := ok.wd h
      exact ⟨z, e, ok.ln z e⟩
    have room : ∀ z : Tx, z.length ≤ m.place → z.length + 1 ≤ sizeLine := fun z h => Nat.le_trans (Nat.succ_le_of_lt (Nat.lt_of_le_of_lt h hz)) (by decide)
    walk_at "rdh"
    by_cases hb : m.bent = true
    · obtain ⟨z, w1, w2⟩ := word (.inl hb)
      simp only [hb, w1, oV, ite_true]
      walk_at "rdh"
      refine ite2 (fun c1 => ?_) (fun c1 => ?_)
      · refine ite2 (fun c2 => ?_) (fun c2 => ?_)
        · exact fin0 _ (by simp [MS.step, c1, c2, hb, MS.add, w1])
        · exact fin0 _ (by simp [MS.step, c1, c2, hb, MS.add, w1])
      · exact fin0 _ (by simp [MS.step, c1, hb, MS.add, w1])
    · have hb' : m.bent = false := by simpa using hb
      simp only [hb', Bool.false_eq_true, ite_false]
      -- plain
      have pl : ∀ (m1 : MS) (H2 : Hp), H2 p = some (.ins a.c_Machine dx m1.f) → Kp p H H2 → m1.rules = m.rules → m1.place = m.place → m1.Ok → m.step r c = ({ (m1.plain r c).1 with place := (m1.plain r c).1.place + 1 }, (m1.plain r c).2) →
          sp_plain a [V.ref p, V.str (S [c])] H2 (fun x H1 => ∃ x_1 x_2 x_3, H1 p = some (HO.ins x_1 x_2 x_3) ∧ Cls K x_1 ∧ NoAttr K x_1 (Str.ofString "place") ∧ ∃ x_4, List.lookup (Str.ofString "place") x_3 = some x_4 ∧
            ∃ i, x_4 = V.int i ∧ ∃ dx' fs', H1 p = some (HO.ins x_1 dx' fs') ∧ fs'.length < 1000 ∧ Q x (upd H1 p (HO.ins x_1 dx' (putF (Str.ofString "place") (V.int (i + 1)) fs')))) E0 := fun m1 H2 h1 h2 h3 h4 h5 h6 => by
        refine ⟨p, dx, m1, c, dr, r, rfl, h1, (by rw [h3]; exact h2 _ _ hR hne), hq, h5, (by rw [h4]; exact hz), fun l H' xs g1 g2 g3 g4 g5 => ?_⟩
        walk_at "rdh"
        refine fin _ l H' xs ?_ g2 (by rw [h6]; exact g3) g4 (by rw [h6]) (h2.trans g5)
        cases e : H l with
        | none => rfl
        | some o =>
          have ne : l ≠ p := fun z => by rw [z] at g1; rw [g1] at h1; cases h1
          have := h2 _ _ e ne
          rw [g1] at this; cases this
      refine ite2 (fun c1 => ?_) (fun c1 => ?_)
      · refine ite2 (fun c2 => ?_) (fun c2 => ?_)
        · refine pl { m with state := [], bent := false } _ upd_same ((S1.kp p).upd) rfl rfl ⟨.inl rfl, fun h => ?_, ok.ln⟩ ?_
          · rcases h with h | ⟨q, h⟩ <;> cases h
          · simp only [MS.step, c1, c2, and_self, ite_true, hb', Bool.false_eq_true, ite_false]
        · have c3 : ¬ m.state = [] := by rw [c1]; intro z; cases z
          refine ite2 (fun c => absurd c c3) (fun _ => ?_)
          refine ite2 (fun c => absurd c1 c) (fun _ => ?_)
          exact fin0 _ (by simp [MS.step, c1, c2, hb'])
      · refine ite2 (fun c2 => ?_) (fun c2 => ?_)
        · refine pl m H1 hM1 (S1.kp p) rfl rfl ok ?_
          simp only [MS.step, if_neg (show ¬ (m.state = NT ∧ c = LE) from fun h => c1 h.1), hb', Bool.false_eq_true, ite_false, if_pos c2]
        · refine ite2 (fun _ => ?_) (fun c => absurd c1 c)
          obtain ⟨q, hs⟩ : ∃ q, m.state = [q] := by
            rcases ok.st with h | h | h
            · exact absurd h c2
            · exact absurd h c1
            · exact h
          obtain ⟨z, w1, w2⟩ := word (.inr ⟨q, hs⟩)
          refine ⟨p, dx, m, c, dr, r, q, z, rfl, hM1, hR1, hs, w1, w2, hz, fun H' g1 g2 => ?_⟩
          walk_at "rdh"
          have hL' := g2 _ _ hL1 (Ne.symm np)
          refine fin (m.quoted r c) l0 H' [] hl0 hL' (by simp [MS.step, c1, c2, hb']; exact .nil) g1 (by simp [MS.step, c1, c2, hb']) ((S1.kp p).trans g2)
end
end Qw

set_option Elab.async false
set_option linter.all false
set_option maxRecDepth 100000
set_option maxHeartbeats 4000000
namespace Qw
open PySem L2
local macro_rules | `(tactic| walk_at "rd") => `(tactic| simp only [tSeq, tNext, tAsg, tRet, tRetN, tDrop, tIfS, sFld, sFldAug, tVar, tC, tOp, tUn, tTest, tB, tAnd, tOr, tNot, tAndV, tOrV, tNotV, tIf, tTup, tLst, tCons, tNil, tCB, tCall, tMeth, tMake, tFld, rI, rI0, rU, rEq, rNe, rCat, gName, gTup, gCons, gNil, tPar, tPar3, tBM, tBM0, rAppend, rExtend, rPopAt, rIxL, rIxT, rIxS, tSl, rSlS, rSlL, tPart, tNoPart, iStr, iTup, iList, iRng1, tAug, ipI, L2.rAdd, L2.rSub, L2.rAddS, tChain, rIsB, rNotB, scal_ss, scal_ii, scal_bb, scal_nn, scal_in, scal_ni, tYes,
  cx_K, cx_N, List.getElem?_cons_zero, List.getElem?_cons_succ, List.set_cons_zero, List.set_cons_succ, List.nil_append, List.cons_append, List.append_nil, List.length_cons, List.length_nil, Nat.zero_add,
  Option.some.injEq, V.ref.injEq, V.int.injEq, V.str.injEq, V.bl.injEq, HO.ins.injEq, HO.lst.injEq, HO.tup.injEq, List.cons.injEq, exists_eq_left, exists_eq_left', exists_eq_right, exists_eq_right', and_true, true_and, exists_and_left, exists_and_right, and_assoc, decide_eq_true_eq, Bool.not_eq_true', decide_eq_false_iff_not, reduceCtorEq, exists_const, forall_const, if_true, if_false, false_and, and_false, ite_true, ite_false, Bool.true_eq_false, Bool.false_eq_true, Nat.reduceLeDiff, Nat.reduceAdd, small_line, small_lt, upd_ne, ne_eq, not_false_eq_true, Nat.zero_le, Prod.mk.injEq, upd_same, upd_upd, S_tl, S_len, S_app, S_one, S_inj,
  lk_breaks, lk_hard, lk_soft, lk_bend, lk_note, lk_rules, lk_state, lk_bent, lk_word, lk_begun, lk_opened, lk_place, pt_state, pt_bent, pt_word, pt_wordS, pt_wordN, pt_begun, pt_opened, pt_place, pt_place1, len_mf, litv_empty, litv_note, litv_nl, mf_inj, rf_inj, lkn_begin, lkn_ended, lkn_plain, lkn_quoted, lkn_step, lkn_fault, lkn_key, lkn_told, lkn_quotes, lkn_special, pt_open1, not_true_eq_false, not_false_eq_true])
local macro_rules | `(tactic| walk_at "rdh") => `(tactic| simp only [tSeq, tNext, tAsg, tRet, tRetN, tDrop, tIfS, sFld, sFldAug, tVar, tC, tOp, tUn, tTest, tB, tAnd, tOr, tNot, tAndV, tOrV, tNotV, tIf, tTup, tLst, tCons, tNil, tCB, tCall, tMeth, tMake, tFld, rI, rI0, rU, rEq, rNe, rCat, gName, gTup, gCons, gNil, tPar, tPar3, tBM, tBM0, rAppend, rExtend, rPopAt, rIxL, rIxT, rIxS, tSl, rSlS, rSlL, tPart, tNoPart, iStr, iTup, iList, iRng1, tAug, ipI, L2.rAdd, L2.rSub, L2.rAddS, tChain, rIsB, rNotB, scal_ss, scal_ii, scal_bb, scal_nn, scal_in, scal_ni, tYes,
  cx_K, cx_N, List.getElem?_cons_zero, List.getElem?_cons_succ, List.set_cons_zero, List.set_cons_succ, List.nil_append, List.cons_append, List.append_nil, List.length_cons, List.length_nil, Nat.zero_add,
  Option.some.injEq, V.ref.injEq, V.int.injEq, V.str.injEq, V.bl.injEq, HO.ins.injEq, HO.lst.injEq, HO.tup.injEq, List.cons.injEq, exists_eq_left, exists_eq_left', exists_eq_right, exists_eq_right', and_true, true_and, exists_and_left, exists_and_right, and_assoc, decide_eq_true_eq, Bool.not_eq_true', decide_eq_false_iff_not, reduceCtorEq, exists_const, forall_const, if_true, if_false, false_and, and_false, ite_true, ite_false, Bool.true_eq_false, Bool.false_eq_true, Nat.reduceLeDiff, Nat.reduceAdd, small_line, small_lt, upd_ne, ne_eq, not_false_eq_true, Nat.zero_le, Prod.mk.injEq, upd_same, upd_upd, S_tl, S_len, S_app, S_one, S_inj,
  lk_breaks, lk_hard, lk_soft, lk_bend, lk_note, lk_rules, lk_state, lk_bent, lk_word, lk_begun, lk_opened, lk_place, pt_state, pt_bent, pt_word, pt_wordS, pt_wordN, pt_begun, pt_opened, pt_place, pt_place1, len_mf, litv_empty, litv_note, litv_nl, mf_inj, rf_inj, lkn_begin, lkn_ended, lkn_plain, lkn_quoted, lkn_step, lkn_fault, lkn_key, lkn_told, lkn_quotes, lkn_special, pt_open1, not_true_eq_false, not_false_eq_true, *])
/-! ### the machine over a text -/
theorem MS.rules_plain (r : RS) (m : MS) (c : Nat) : (m.plain r c).1.rules = m.rules := by
  unfold MS.plain
  repeat' split
  all_goals first | rfl | exact m.rules_begin
theorem MS.rules_quoted (r : RS) (m : MS) (c : Nat) : (m.quoted r c).rules = m.rules := by
  unfold MS.quoted
  repeat' split
  all_goals rfl
theorem MS.place_begin (m : MS) : m.begin.place = m.place := by unfold MS.begin; split <;> rfl
theorem MS.place_plain (r : RS) (m : MS) (c : Nat) : (m.plain r c).1.place = m.place := by
  unfold MS.plain
  repeat' split
  all_goals first | rfl | exact m.place_begin
theorem MS.place_quoted (r : RS) (m : MS) (c : Nat) : (m.quoted r c).place = m.place := by
  unfold MS.quoted
  repeat' split
  all_goals rfl
/-- the sign's ways -/
theorem MS.step_cases (r : RS) (m : MS) (c : Nat) (R : MS × List W3 → Prop)
    (h1 : ∀ m1 : MS, (m1 = m ∨ m1 = { m with state := [] }) → m1.bent = true → R ({ (({ m1 with bent := false } : MS).add c) with place := m1.place + 1 }, []))
    (h2 : ∀ m1 : MS, (m1 = m ∨ m1 = { m with state := [] }) → m1.bent = false → m1.state = [] → R ({ (m1.plain r c).1 with place := (m1.plain r c).1.place + 1 }, (m1.plain r c).2))
    (h3 : m.bent = false → m.state = NT → c ≠ LE → R ({ m with place := m.place + 1 }, []))
    (h4 : m.bent = false → m.state ≠ [] → m.state ≠ NT → R ({ (m.quoted r c) with place := (m.quoted r c).place + 1 }, [])) : R (m.step r c) := by
  by_cases e : m.state = NT ∧ c = LE
  · simp only [MS.step, if_pos e]
    by_cases b : m.bent = true
    · simp only [if_pos b]
      exact h1 _ (.inr rfl) b
    · have b' : m.bent = false := by simpa using b
      simp only [if_neg b, if_true]
      exact h2 _ (.inr rfl) b' rfl
  · simp only [MS.step, if_neg e]
    by_cases b : m.bent = true
    · simp only [if_pos b]
      exact h1 _ (.inl rfl) b
    · have b' : m.bent = false := by simpa using b
      simp only [if_neg b]
      by_cases s1 : m.state = []
      · simp only [if_pos s1]
        exact h2 _ (.inl rfl) b' s1
      · by_cases s2 : m.state = NT
        · simp only [if_neg s1, if_pos s2]
          exact h3 b' s2 fun z => e ⟨s2, z⟩
        · simp only [if_neg s1, if_neg s2]
          exact h4 b' s1 s2
theorem MS.Ok.begin {m : MS} (ok : m.Ok) : m.begin.Ok ∧ ∃ w, m.begin.word = some w := by
  unfold MS.begin
  cases h : m.word with
  | none => exact ⟨⟨ok.st, fun _ => ⟨[], rfl⟩, fun w e => by cases e; exact Nat.zero_le _⟩, ⟨[], rfl⟩⟩
  | some w => exact ⟨ok, ⟨w, h⟩⟩
theorem MS.Ok.step {m : MS} (ok : m.Ok) (r : RS) (c : Nat) : (m.step r c).1.Ok := by
  have same : ∀ m1 : MS, (m1 = m ∨ m1 = { m with state := [] }) → m1.bent = false ∨ m1 = m → m1.Ok := fun m1 h b => by
    rcases h with h | h
    · rw [h]; exact ok
    · rcases b with b | b
      · rw [h] at b ⊢
        exact ⟨.inl rfl, fun z => z.elim (fun z => absurd (b.symm.trans z) (by decide)) (fun ⟨q, z⟩ => nomatch z), ok.ln⟩
      · rw [b]; exact ok
  refine MS.step_cases r m c (fun x => x.1.Ok) (fun m1 h b => ?_) (fun m1 h b s1 => ?_) (fun b s1 _ => ?_) fun b s1 s2 => ?_
  · have e : m1.word = m.word ∧ m1.place = m.place ∧ (m1.bent = true → ∃ w, m1.word = some w) ∧ (m1.state = [] ∨ m1.state = NT ∨ ∃ q, m1.state = [q]) := by
      rcases h with h | h <;> subst h
      · exact ⟨rfl, rfl, fun z => ok.wd (.inl z), ok.st⟩
      · exact ⟨rfl, rfl, fun z => ok.wd (.inl z), .inl rfl⟩
    obtain ⟨w, hw⟩ := e.2.2.1 b
    refine ⟨e.2.2.2, fun _ => ⟨w ++ [c], by simp [MS.add, hw]⟩, fun w' e' => ?_⟩
    simp only [MS.add, hw, Option.map, Option.some.injEq] at e'
    subst e'
    have := ok.ln w (e.1 ▸ hw)
    simp only [List.length_append, List.length_cons, List.length_nil]
    show _ ≤ m1.place + 1
    rw [e.2.1]; omega
  · have ok1 := same m1 h (.inl b)
    have up : ∀ m2 : MS, m2.Ok → ({ m2 with place := m2.place + 1 } : MS).Ok := fun m2 o => ⟨o.st, o.wd, fun w e => Nat.le_succ_of_le (o.ln w e)⟩
    suffices q : ((m1.plain r c).1).Ok ∨ (∃ w, m1.begin.word = some w ∧ (m1.plain r c).1 = m1.begin.add c) by
      rcases q with q | ⟨w, hw, q⟩
      · exact up _ q
      · have o := ok1.begin.1
        show ({ (m1.plain r c).1 with place := (m1.plain r c).1.place + 1 } : MS).Ok
        rw [q]
        refine ⟨o.st, fun _ => ⟨w ++ [c], by simp [MS.add, hw]⟩, fun w' e' => ?_⟩
        simp only [MS.add, hw, Option.map, Option.some.injEq] at e'
        subst e'
        have := o.ln w hw
        simp only [List.length_append, List.length_cons, List.length_nil, MS.add]
        omega
    have o := ok1.begin
    unfold MS.plain
    split
    · exact .inl ⟨ok1.st, fun z => z.elim (fun z => absurd (b.symm.trans z) (by decide)) (fun ⟨q, z⟩ => absurd (s1.symm.trans z) (by intro y; cases y)), fun w e => by cases e⟩
    split
    · exact .inl ⟨.inr (.inl rfl), fun z => z.elim (fun z => absurd (b.symm.trans z) (by decide)) (fun ⟨q, z⟩ => absurd (show NT = [q] from z) (by intro y; cases y)), fun w e => by cases e⟩
    split
    · exact .inl ⟨.inr (.inr ⟨c, rfl⟩), fun _ => o.2, o.1.ln⟩
    split
    · exact .inl ⟨o.1.st, fun _ => o.2, o.1.ln⟩
    · obtain ⟨w, hw⟩ := o.2
      exact .inr ⟨w, hw, rfl⟩
  · exact ⟨ok.st, ok.wd, fun w e => Nat.le_succ_of_le (ok.ln w e)⟩
  · obtain ⟨q, hq⟩ : ∃ q, m.state = [q] := by
      rcases ok.st with h | h | h
      · exact absurd h s1
      · exact absurd h s2
      · exact h
    obtain ⟨w, hw⟩ := ok.wd (.inr ⟨q, hq⟩)
    have l := ok.ln w hw
    show ({ m.quoted r c with place := (m.quoted r c).place + 1 } : MS).Ok
    rw [MS.place_quoted]
    unfold MS.quoted
    split
    · exact ⟨.inl rfl, fun _ => ⟨w, hw⟩, fun w' e => Nat.le_succ_of_le (ok.ln w' e)⟩
    split
    · exact ⟨.inr (.inr ⟨q, hq⟩), fun _ => ⟨w, hw⟩, fun w' e => Nat.le_succ_of_le (ok.ln w' e)⟩
    · refine ⟨.inr (.inr ⟨q, hq⟩), fun _ => ⟨w ++ [c], by simp [MS.add, hw]⟩, fun w' e' => ?_⟩
      simp only [MS.add, hw, Option.map, Option.some.injEq] at e'
      subst e'
      simp only [List.length_append, List.length_cons, List.length_nil]
      omega
theorem MS.place_step (r : RS) (m : MS) (c : Nat) : (m.step r c).1.place = m.place + 1 := by
  refine MS.step_cases r m c (fun x => x.1.place = m.place + 1) (fun m1 h _ => ?_) (fun m1 h _ _ => ?_) (fun _ _ _ => rfl) fun _ _ _ => congrArg (· + 1) (m.place_quoted r c)
  · rcases h with h | h <;> subst h <;> rfl
  · show (m1.plain r c).1.place + 1 = _
    rw [MS.place_plain]
    rcases h with h | h <;> subst h <;> rfl
theorem MS.rules_step (r : RS) (m : MS) (c : Nat) : (m.step r c).1.rules = m.rules := by
  refine MS.step_cases r m c (fun x => x.1.rules = m.rules) (fun m1 h _ => ?_) (fun m1 h _ _ => ?_) (fun _ _ _ => rfl) fun _ _ _ => m.rules_quoted r c
  · rcases h with h | h <;> subst h <;> rfl
  · show (m1.plain r c).1.rules = _
    rw [MS.rules_plain]
    rcases h with h | h <;> subst h <;> rfl
theorem MS.out_step (r : RS) (m : MS) (c : Nat) : (m.step r c).2.length ≤ 1 := by
  have o : ∀ m1 : MS, m1.out.length ≤ 1 := fun m1 => by unfold MS.out; split <;> simp
  refine MS.step_cases r m c (fun x => x.2.length ≤ 1) (fun m1 h _ => Nat.zero_le _) (fun m1 h _ _ => ?_) (fun _ _ _ => Nat.zero_le _) fun _ _ _ => Nat.zero_le _
  show (m1.plain r c).2.length ≤ 1
  unfold MS.plain
  repeat' split
  all_goals first | exact o m1 | exact Nat.zero_le _
def MS.run (r : RS) (m : MS) : Tx → MS × List W3
  | [] => (m, [])
  | c :: t => (((m.step r c).1.run r t).1, (m.step r c).2 ++ ((m.step r c).1.run r t).2)
theorem MS.run_app (r : RS) : ∀ (t u : Tx) (m : MS), m.run r (t ++ u) = (((m.run r t).1.run r u).1, (m.run r t).2 ++ ((m.run r t).1.run r u).2)
  | [], u, m => by simp [MS.run]
  | c :: t, u, m => by
    have ih := MS.run_app r t u (m.step r c).1
    simp only [List.cons_append, MS.run, ih, List.append_assoc]
theorem MS.run_one (r : RS) (t : Tx) (c : Nat) (m : MS) : m.run r (t ++ [c]) = (((m.run r t).1.step r c).1, (m.run r t).2 ++ ((m.run r t).1.step r c).2) := by
  rw [MS.run_app]
  simp [MS.run]
theorem MS.Ok.run (r : RS) : ∀ (t : Tx) {m : MS}, m.Ok → (m.run r t).1.Ok
  | [], _, ok => ok
  | c :: t, m, ok => MS.Ok.run r t (ok.step r c)
theorem MS.place_run (r : RS) : ∀ (t : Tx) (m : MS), (m.run r t).1.place = m.place + t.length
  | [], _ => rfl
  | c :: t, m => by
    show ((m.step r c).1.run r t).1.place = _
    rw [MS.place_run r t, MS.place_step, List.length_cons]; omega
theorem MS.rules_run (r : RS) : ∀ (t : Tx) (m : MS), (m.run r t).1.rules = m.rules
  | [], _ => rfl
  | c :: t, m => by
    show ((m.step r c).1.run r t).1.rules = _
    rw [MS.rules_run r t, MS.rules_step]
theorem MS.out_run (r : RS) : ∀ (t : Tx) (m : MS), (m.run r t).2.length ≤ t.length
  | [], _ => Nat.le_refl _
  | c :: t, m => by
    show ((m.step r c).2 ++ ((m.step r c).1.run r t).2).length ≤ _
    rw [List.length_append, List.length_cons]
    have h1 := MS.out_step r m c
    have h2 := MS.out_run r t (m.step r c).1
    omega
theorem take_more {α : Type} : ∀ {l : List α} {i : Nat} {x : α}, l[i]? = some x → l.take (i + 1) = l.take i ++ [x]
  | [], i, x, h => by simp at h
  | a :: l, 0, x, h => by
    have e : a = x := Option.some.inj h
    subst e
    rfl
  | a :: l, i + 1, x, h => by
    have ih := take_more (l := l) (i := i) (x := x) h
    simp only [List.take_succ_cons, List.cons_append, List.cons.injEq, true_and]
    exact ih
/-- all words with their places, or the fault's place -/
def readAll (r : RS) (t : Tx) (rp : Addr) : Except Nat (List W3) :=
  match ((MS.zero rp).run r t).1.fault with
  | some n => .error n
  | none => .ok (((MS.zero rp).run r t).2 ++ ((MS.zero rp).run r t).1.out)
section
variable {P : Program} {w : World} {K : PySem.W.Frag} {mg : Str → Option Value} {base : Heap} {a : Ad}
end
end Qw

set_option Elab.async false
set_option linter.all false
set_option maxRecDepth 100000
set_option maxHeartbeats 4000000
/-! promises of defs that know that no list is being shown around them; str of data -/
namespace Qw
open PySem L2 PySem.Spec PyProof.Rows

def Free (A : Around) : Prop := A.guards = some []
theorem Free.deeper {A : Around} (h : Free A) (e : Env) : Free (A.deeper e) := h
theorem free_caller : Free callerA := rfl

structure FnG (P : Program) (w : World) (K : PySem.W.Frag) (mg : Str → Option Value) (base : Heap) (k : Nat) (f : Addr) (fd : FuncData) (ps : List Str) (sp : Sp) : Prop where
  lenG : ∀ vs H Q E, sp vs H Q E → vs.length = ps.length
  runG : ∀ (A : Around) (out : List Env) (s : Shared) (H : Hp) (as : Args) (us : List Value) (vs : List V) (Q : VK) (E : XK),
    Free A → Room k A → Env0 P w K mg base A out s H → BindsTo s fd as (ps.zip us) → Vals vs us → sp vs H Q E → codeAny (model P w) A (.call (.ref f) as) (CR CX0 out P w H s Q E) s
section
variable {P : Program} {w : World} {K : PySem.W.Frag} {mg : Str → Option Value} {base : Heap}

theorem fnG_of {k : Nat} {x qual : Str} {st : Stmt} {f : Addr} {fd : FuncData} {N ps : List Str} {sp : Sp} (F : L2.Fun K x qual st f fd) (S : FnScope N ps (defScope st))
    (ln : ∀ vs H Q E, sp vs H Q E → vs.length = ps.length)
    (hb : ∀ (cd : Value) (A : Around) (out : List Env) (s : Shared) (H : Hp) (vs : List V) (Q : VK) (E : XK),
      Free (A.deeper (envOfC qual (defScope st) s.heap.objs.size f cd)) → Room k (A.deeper (envOfC qual (defScope st) s.heap.objs.size f cd)) → sp vs H Q E →
      ∃ t, PSs (cxOf CX0 P w K mg base N qual (defScope st) f cd A out s H E).nox (defBody st) t ∧ t { nx := fun _ H' => Q .non H', rt := Q } (start N vs) H) :
    FnG P w K mg base (k + 1) f fd ps sp := by
  obtain ⟨oc, od, kV, doc, pm, an, cd, ct, osl, rfl, lk, hc⟩ := F.ex
  refine ⟨ln, fun A out s H as us vs Q E hf hr e0 b r q => ?_⟩
  have KX : K.In s.heap := e0.mod.kin.keeps fun _ _ e => (e0.bs _ _ e).1
  have lim : s.heap.NoLimit := e0.mod.nolimit.keeps fun _ _ e => (e0.bs _ _ e).1
  have kinds : ∀ y ∈ ps.zip us, (defScope st).names.lookup y.1 = some .local ∨
      ((defScope st).names.lookup y.1 = some .cell ∧ ((cellsFrom (s.heap.objs.size + 1) (defScope st).names []).lookup y.1).isSome = true) := by
    rintro ⟨n, v⟩ hy
    exact (S.par n (List.of_mem_zip hy).1).imp id fun z => ⟨z, PySem.W.cellsFrom_some _ _ _ (.inl z)⟩
  refine codeAny_call_function hr.depth (KX _ _ lk) rfl S.co
    S.gen rfl (PySem.W.codeRec_of KX hc) (b _ _ _ _ ?_)
  refine wpAny_newFunctionEnv_cells S.kind kinds fun env he s1 x => ?_
  cases he
  refine ⟨lim.keeps x.toInCall.keep, codeAny_func ?_⟩
  obtain ⟨t, ht, hq⟩ := hb cd A out s H vs Q E (hf.deeper _) (hr.deeper _) q
  have J := inv_start (CX := CX0) (P := P) (w := w) (K := K) (mg := mg) (base := base) (N := N) (cd := cd) (E := E) S hr.hd e0 (ln _ _ _ _ q) r x
  refine wpAny_mono (ht.nox.run [] s1 (start N vs) H _ J hq) (fun fl s' hs => ?_) fun _ _ hs => hs
  cases fl with
  | brk => exact hs.elim fun _ z => z.elim fun _ z => z.2.elim
  | cont => exact hs.elim fun _ z => z.elim fun _ z => z.2.elim
  | ret u =>
    obtain ⟨v, σ', H', I, rv, h⟩ := hs
    exact ⟨v, H', I.os, I.bare, I.base, I.hok, rv, h⟩
  | next =>
    obtain ⟨σ', H', I, h⟩ := hs
    exact ⟨V.non, H', I.os, I.bare, I.base, I.hok, rfl, h⟩
end

section
variable {X : Cx} {k : Nat} {f : Addr} {fd : FuncData} {ps : List Str} {sp : Sp} {dvs : List V} {ds : List Value} {E : XK} {x : Str} {p pos : Pos} {e : Expr} {es : List Expr} {t : TA}
theorem run_fnG {pins : List (Addr × Obj)} {σ : L2.St} {H : Hp} {s : Shared} {Q : VK} {us : List Value} {vs : List V} (F : FnG X.prog X.w X.K X.mg X.base k f fd ps sp) (hf : Free X.A) (hr : Room k X.A)
    (hb : Binds X.K fd ps []) (I : Inv X pins σ H s) (r : Vals vs us) (h : sp vs H Q E) : wpAny (model X.prog X.w) X.A (call (.ref f) us) (EP X pins σ Q) X.xe s := by
  have hl : (us ++ []).length = ps.length := by
    rw [List.append_nil, ← r.length]
    exact F.lenG _ _ _ _ h
  have bd := hb s us I.kIn hl
  rw [List.append_nil] at bd
  refine wpAny_call (codeAny_mono (F.runG X.A X.stack s H ⟨us, []⟩ us vs Q E hf hr I.env0 bd r h) fun y s' q => ?_)
  match y, q with
  | .error _, q => exact q.elim
  | .ok (.ret u), q => exact I.after q
theorem pe_callG (F : FnG X.prog X.w X.K X.mg X.base k f fd ps sp) (hf : Free X.A) (hr : Room k X.A) (hg : Gl X x) (hm : X.mg x = some (.ref f)) (hk : PySem.W.keepIn X.K (.ref f) = true) (hb : Binds X.K fd ps [])
    (ha : PA X (e :: es) t) (hdb : (x == ("__debug__" : Str)) = false := by decide) (he : starEach (e :: es) X.env = (false, eval e X.env) :: starEach es X.env := by rfl)
    (hpl : (backTo pos (starEach es X.env)).any (·.1) = false := by rfl) : PE X (.Call (.Name x p) (e :: es) [] pos) (tCall sp [] E0 t) := by
  refine ⟨fun pins s σ H Q I h => wpAny_Call_Name_kw (ld_glob I hg hm ?_ hdb)⟩
  refine PySem.W.callWith_K (h₀ := X.base) I.ok.mod.kin hk ?_ he hpl
  refine thn (ha.run pos pins s σ H _ I h) fun us s1 ⟨vs, H1, I1, r, q⟩ => ⟨I1.kIn, ?_⟩
  have q : sp (vs ++ []) H1 Q E0 := q
  rw [List.append_nil] at q
  exact run_fnG F hf hr hb I1 r q
/-- str(x) of data that holds no dict -/
theorem call_str_data (hf : Free X.A) (hu : X.A.units + 64 < cLine) : CallR X (.type "str") (fun xs H Q => ∃ a d, xs = [.ref a] ∧ Dp X.K H (.ref a) d ∧ d.showable = true ∧ d.hasDict = false ∧ d.depth ≤ 32 ∧ d.shown.length ≤ sizeLine ∧
    Q (.str d.shown) H) := by
  intro pins s σ H xs us Q I r h
  obtain ⟨a, d, rfl, hd, h1, h2, h3, h4, q⟩ := h
  obtain ⟨u, rfl, ru⟩ := vals1 r
  obtain ⟨as, rd⟩ := Dp.reads I d _ u hd ru
  cases ru
  refine str_of_reads rd h1 (PyData.noDict_hsm h2) hf (by omega) (fun _ _ e => e) (fun h' u tk hk => ?_) h4
  exact ⟨.str d.shown, H, I.kept (t' := tk) hk, ⟨u, rfl⟩, q⟩
end

/-! ### the end -/
theorem law_callG {P : Program} {w : World} {K : PySem.W.Frag} {mg mb : Str → Option Value} {k : Nat} {fa a : Addr} {fd : FuncData} {x : Str} {sp : Sp} {s₁ : Shared} {vs : List Value} {ns : List Int}
    (KX : K.In s₁.heap) (hns : s₁.heap.Ns mainGlobals mg) (hb : s₁.heap.Ns builtinsNs mb) (hbb : ∀ x : Str, x ≠ "__name__" → mb x = bootBuiltins x)
    (hlim : s₁.heap.NoLimit) (hg : s₁.gens = #[]) (ha : s₁.heap.get? a = some { cls := .type "list", data := .seq vs.toArray }) (hi : IntsAre vs ns)
    (hl : ns.length ≤ sizeLine) (hr : Room k callerA) (F : ∀ base : Heap, K.In base → base.Ns mainGlobals mg → FnG P w K mg base k fa fd [x] sp)
    (hbind : ∀ (s : Shared) (u : Value), BindsTo s fd ⟨[u], []⟩ [(x, u)])
    (hsp : ∀ H : Hp, Only H → SqL K H a (ns.map V.int) → sp [.ref a] H (fun v _ => v = .bl true) E0) :
    codeAny (model P w) callerA (.call (.ref fa) ⟨[.ref a], []⟩)
      (fun r s' => r = .ok (.ret (.bool true)) ∧ OldK s₁.heap s'.heap ∧ s'.os = s₁.os ∧ AllBare s'.gens) s₁ := by
  have rv := vals_ints hi
  have core : ∀ H : Hp, Only H → SqL K H a (ns.map V.int) → HOk P w H s₁.heap → (∀ b, H b ≠ none → b = a) → (H a ≠ none → K.lookup a = none) →
      codeAny (model P w) callerA (.call (.ref fa) ⟨[.ref a], []⟩)
        (fun r s' => r = .ok (.ret (.bool true)) ∧ OldK s₁.heap s'.heap ∧ s'.os = s₁.os ∧ AllBare s'.gens) s₁ := by
    intro H hO hS hok hA hK
    have there : ∀ {b : Addr}, H b ≠ none → s₁.heap.get? b = some { cls := .type "list", data := .seq vs.toArray } ∧ K.lookup b = none := fun {b} z => by
      cases hA b z
      exact ⟨ha, hK z⟩
    have hid : ∀ {b : Addr} {o : Obj}, s₁.heap.get? b = some o → H b = none → (hidT s₁.heap H).get? b = some o := fun e n => hidT_get e n
    have ns' : ∀ {b : Addr} {m : Str → Option Value}, s₁.heap.Ns b m → (hidT s₁.heap H).Ns b m := by
      rintro b m ⟨o, es, ep, e, d, r⟩
      refine ⟨o, es, ep, hid e (Classical.byContradiction fun z => ?_), d, r⟩
      rw [(there z).1] at e
      cases e
      exact nomatch (show Data.seq vs.toArray _ = Data.dict es ep from d)
    have hKb : K.In (hidT s₁.heap H) := fun b o e => by
      refine hid (KX b o e) (Classical.byContradiction fun z => ?_)
      rw [(there z).2] at e
      cases e
    have hM : Mod K mg (hidT s₁.heap H) := by
      obtain ⟨mc, l1, l2⟩ := hlim
      exact ⟨hKb, ns' hns, ⟨mb, ns' hb, hbb⟩, ⟨mc, ns' l1, l2⟩⟩
    have e0 : Env0 P w K mg (hidT s₁.heap H) callerA [] s₁ H :=
      ⟨rfl, hM, fun _ _ e => of_hidT e, Nat.le_of_eq (hidT_size _ _), trivial, fun b z => (by cases z), hok, .of_eq hg⟩
    have run := (F _ hKb (ns' hns)).runG callerA [] s₁ H ⟨[.ref a], []⟩ [.ref a] [.ref a] _ _ free_caller hr e0 (hbind s₁ (.ref a)) (.cons rfl .nil) (hsp H hO hS)
    refine codeAny_mono run fun r s' h => ?_
    match r, h with
    | .error _, h => exact h.elim
    | .ok (.ret u), h =>
      obtain ⟨v, H', os, bare, un, hok', r', q⟩ := h
      cases (show v = .bl true from q)
      cases (show u = Value.bool true from r')
      refine ⟨rfl, OldK.of_keep fun b o e => ?_, os, bare⟩
      rcases hO b with z | ⟨ob, xs, z⟩
      · exact un.keep b o e z (by intro y; cases y) (by simp)
      · have e1 := (hok b _ z).1
        rw [e] at e1
        cases e1
        exact (hok' b _ (un.frzs b _ _ z)).1
  have lenV := hi.length
  rcases hk : K.lookup a with _ | o
  · let o : Obj := { cls := .type "list", data := .seq vs.toArray }
    have own : ∀ {b : Addr} {u : HO}, (if b = a then some (HO.frz o (.lst (ns.map V.int))) else none) = some u → b = a ∧ u = HO.frz o (.lst (ns.map V.int)) := fun {b u} z => by
      by_cases e : b = a
      · rw [if_pos e] at z
        exact ⟨e, (Option.some.inj z).symm⟩
      · rw [if_neg e] at z
        cases z
    refine core (fun b => if b = a then some (.frz o (.lst (ns.map V.int))) else none) (fun b => ?_) (.inl (.inr ⟨o, if_pos rfl⟩)) (fun b u z => ?_) (fun b z => ?_) fun _ => hk
    · by_cases e : b = a
      · exact .inr ⟨_, _, if_pos e⟩
      · exact .inl (if_neg e)
    · obtain ⟨rfl, rfl⟩ := own z
      exact ⟨ha, by rw [List.length_map]; exact hl, vs, _, rv, ha⟩
    · exact Classical.byContradiction fun e => z (if_neg e)
  · have e := KX a o hk
    rw [ha] at e
    cases e
    refine core (fun _ => none) (fun _ => .inl rfl) ?_ (fun b u z => nomatch (show (none : Option HO) = some u from z)) (fun b z => absurd rfl z) fun z => absurd rfl z
    exact .inr ⟨_, vs.toArray, _, hk, rfl, rfl, rfl, by rw [List.size_toArray, lenV]; exact hl, by simpa using rv⟩
/-- a law: F gives the written part, the function object, the promise over every base -/
theorem walk_ofG {l : PySem.W.OpenLaw} {n k : Nat} {q : Program} {loose : List Str} {XP : (Str → Option Value) → Heap → Prop} {YP : World → Heap → Prop} {d : DefRec} {x : Str}
    (hn : l.most = some n) (hn2 : n ≤ sizeLine) (hdf : d.params.defaults = []) (hr : Room k callerA)
    (F : ∀ (w : World) (mg : Str → Option Value) (fa : Addr) (h : Heap), YP w h → h.Ns mainGlobals mg → mg d.name = some (.ref fa) →
      ∃ (K : PySem.W.Frag) (fd : FuncData) (sp : Sp), K.In h ∧ (∀ (s : Shared) (u : Value), BindsTo s fd ⟨[u], []⟩ [(x, u)]) ∧
        (∀ (H : Hp) (a : Addr) (ns : List Int), ns.length ≤ n → (∀ z ∈ ns, Builtin.Int.intBits z ≤ 1048576) → Only H → SqL K H a (ns.map V.int) → sp [.ref a] H (fun v _ => v = .bl true) E0) ∧
        ∀ base : Heap, K.In base → base.Ns mainGlobals mg → FnG l.prog w K mg base k fa fd [x] sp) : PySem.W.WalkO q loose XP YP l.row.toRowW d [] (fun f vs => PySem.call f vs) := by
  refine Att.attach_callB hn hdf fun w _ s₁ mg mb fa o pm cd doc a vs ns G Y ho hd hcd hmg hob hin hlen hbits hg => ?_
  obtain ⟨K, fd, sp, KX, hb, hsp, hF⟩ := F w mg fa _ Y G.T.g hmg
  exact law_callG KX G.T.g G.T.b G.T.builtins G.T.nolimit hg hob hin (Nat.le_trans hlen hn2) hr hF hb fun H hO hS => hsp H a ns hlen hbits hO hS
end Qw

set_option Elab.async false
set_option linter.all false
set_option maxRecDepth 100000
set_option maxHeartbeats 4000000
/-! data of none, short ints, texts, lists and tuples: shown, compared -/
namespace Qw
open PySem L2
mutual
def tame : PyData → Bool
  | .none => true
  | .int i => decide (i.natAbs < 1000000000)
  | .str x => PyData.strOk x
  | .list xs => tameAll xs
  | .tuple xs => tameAll xs
  | .bool _ => false
  | .dict _ => false
def tameAll : List PyData → Bool
  | [] => true
  | x :: xs => tame x && tameAll xs
end
theorem tameAll_iff : ∀ {xs : List PyData}, tameAll xs = true ↔ ∀ x ∈ xs, tame x = true
  | [] => by simp [tameAll]
  | x :: xs => by simp [tameAll, tameAll_iff (xs := xs)]
theorem short13 {i : Int} (h : i.natAbs < 1000000000) : PyData.intsShort 13 (.int i) = true := by
  have := PyData.intsShortAll_ints [i] (fun n hn => by cases List.mem_singleton.mp hn; exact Nat.lt_trans h (by decide))
  simpa [PyData.intsShortAll] using this
mutual
theorem tame_has : ∀ d : PyData, tame d = true → PyData.canLay0 d = true ∧ PyData.showable d = true ∧ PyData.hasDict d = false ∧ PyData.intsShort 13 d = true
  | .none, _ => ⟨by simp [PyData.canLay0], by simp [PyData.showable], by simp [PyData.hasDict], by simp [PyData.intsShort]⟩
  | .int i, h => by
    have h' : i.natAbs < 1000000000 := by simpa [tame] using h
    refine ⟨by simp [PyData.canLay0], ?_, by simp [PyData.hasDict], short13 h'⟩
    simp only [PyData.showable, decide_eq_true_eq]
    by_cases z : i.natAbs = 0
    · rw [z]; decide
    · have : i.natAbs.log2 < 30 := (Nat.log2_lt z).mpr (by omega)
      omega
  | .str x, h => ⟨by simpa [tame, PyData.canLay0] using h, by simp [PyData.showable], by simp [PyData.hasDict], by simp [PyData.intsShort]⟩
  | .list xs, h => by
    have := tameAll_has xs (by simpa [tame] using h)
    exact ⟨by simp only [PyData.canLay0]; exact this.1, by simp only [PyData.showable]; exact this.2.1, by simp only [PyData.hasDict]; exact this.2.2.1, by simp only [PyData.intsShort]; exact this.2.2.2⟩
  | .tuple xs, h => by
    have := tameAll_has xs (by simpa [tame] using h)
    exact ⟨by simp only [PyData.canLay0]; exact this.1, by simp only [PyData.showable]; exact this.2.1, by simp only [PyData.hasDict]; exact this.2.2.1, by simp only [PyData.intsShort]; exact this.2.2.2⟩
  | .bool _, h => by simp [tame] at h
  | .dict _, h => by simp [tame] at h
theorem tameAll_has : ∀ xs : List PyData, tameAll xs = true → PyData.canLayAll0 xs = true ∧ PyData.showableAll xs = true ∧ PyData.hasDictAll xs = false ∧ PyData.intsShortAll 13 xs = true
  | [], _ => ⟨by simp [PyData.canLayAll0], by simp [PyData.showableAll], by simp [PyData.hasDictAll], by simp [PyData.intsShortAll]⟩
  | x :: xs, h => by
    have h' : tame x = true ∧ tameAll xs = true := by simpa [tameAll] using h
    have a := tame_has x h'.1
    have b := tameAll_has xs h'.2
    exact ⟨by simp [PyData.canLayAll0, a, b], by simp [PyData.showableAll, a, b], by simp [PyData.hasDictAll, a, b], by simp [PyData.intsShortAll, a, b]⟩
end
mutual
theorem eqv_iff : ∀ d e : PyData, tame d = true → tame e = true → (PyData.eqv d e = true ↔ d = e)
  | .list xs, .list ys, h, k => by
    simp only [PyData.eqv, PyData.list.injEq]
    exact eqvAll_iff xs ys (by simpa [tame] using h) (by simpa [tame] using k)
  | .tuple xs, .tuple ys, h, k => by
    simp only [PyData.eqv, PyData.tuple.injEq]
    exact eqvAll_iff xs ys (by simpa [tame] using h) (by simpa [tame] using k)
  | .none, e, _, k => by cases e <;> simp [PyData.eqv, tame] at k ⊢
  | .int _, e, _, k => by cases e <;> simp [PyData.eqv, tame] at k ⊢
  | .str _, e, _, k => by cases e <;> simp [PyData.eqv, tame] at k ⊢
  | .bool _, _, h, _ => by simp [tame] at h
  | .dict _, _, h, _ => by simp [tame] at h
  | .list _, .none, _, _ => by simp [PyData.eqv]
  | .list _, .int _, _, _ => by simp [PyData.eqv]
  | .list _, .str _, _, _ => by simp [PyData.eqv]
  | .list _, .tuple _, _, _ => by simp [PyData.eqv]
  | .list _, .bool _, _, k => by simp [tame] at k
  | .list _, .dict _, _, k => by simp [tame] at k
  | .tuple _, .none, _, _ => by simp [PyData.eqv]
  | .tuple _, .int _, _, _ => by simp [PyData.eqv]
  | .tuple _, .str _, _, _ => by simp [PyData.eqv]
  | .tuple _, .list _, _, _ => by simp [PyData.eqv]
  | .tuple _, .bool _, _, k => by simp [tame] at k
  | .tuple _, .dict _, _, k => by simp [tame] at k
theorem eqvAll_iff : ∀ xs ys : List PyData, tameAll xs = true → tameAll ys = true → (PyData.eqvAll xs ys = true ↔ xs = ys)
  | [], [], _, _ => by simp [PyData.eqvAll]
  | [], _ :: _, _, _ => by simp [PyData.eqvAll]
  | _ :: _, [], _, _ => by simp [PyData.eqvAll]
  | x :: xs, y :: ys, h, k => by
    have h' : tame x = true ∧ tameAll xs = true := by simpa [tameAll] using h
    have k' : tame y = true ∧ tameAll ys = true := by simpa [tameAll] using k
    simp only [PyData.eqvAll, Bool.and_eq_true, List.cons.injEq]
    rw [eqv_iff x y h'.1 k'.1, eqvAll_iff xs ys h'.2 k'.2]
end
theorem eqv_dec {d e : PyData} {p : Prop} [Decidable p] (h : tame d = true) (k : tame e = true) (i : d = e ↔ p) : PyData.eqv d e = decide p := by
  rw [Bool.eq_iff_iff, eqv_iff d e h k, i, decide_eq_true_eq]
theorem shaped_of {d : PyData} (h : tame d = true) (hd : d.depth ≤ 32) : SeqAt.shaped d = true := by
  show (PyData.canLay0 d && decide (d.depth ≤ 64)) = true
  rw [(tame_has d h).1, Bool.true_and, decide_eq_true_eq]
  omega
theorem shown_of {d : PyData} (h : tame d = true) (hd : d.depth ≤ 32) (hw : d.weight ≤ 1048576) : d.shown.length ≤ sizeLine := by
  refine PyData.shown_fits_of_layable0 (B := 13) (by decide) (by decide) ?_ (tame_has d h).2.2.2
  show (PyData.canLay0 d && decide (PyData.depth d ≤ 64) && decide (PyData.weight d ≤ 2 ^ 20)) = true
  rw [(tame_has d h).1, Bool.true_and, Bool.and_eq_true, decide_eq_true_eq, decide_eq_true_eq]
  exact ⟨by omega, hw⟩
/-! ### words, places -/
def ok8 (t : Tx) : Prop := ∀ c ∈ t, c < 1000
theorem strOk_S {t : Tx} (h : ok8 t) : PyData.strOk (S t) = true := by
  show (S t).cps.all (· < 0x110000) = true
  rw [show (S t).cps = t.toArray from rfl]
  simp only [List.all_toArray, List.all_eq_true, decide_eq_true_eq]
  exact fun c hc => Nat.lt_trans (h c hc) (by decide)
def wsD (ws : List Tx) : PyData := .list (ws.map fun t => .str (S t))
def plD (p : Int × Int) : PyData := .tuple [.int p.1, .int p.2]
def psD (ps : List (Int × Int)) : PyData := .list (ps.map plD)
theorem S_inj' {x y : Tx} : PyData.str (S x) = PyData.str (S y) ↔ x = y := by simp [S_inj]
theorem map_inj {α β : Type} {f : α → β} (h : ∀ {x y}, f x = f y ↔ x = y) {l m : List α} : l.map f = m.map f ↔ l = m :=
  ⟨fun e => List.map_inj_right (fun x y => h.mp) |>.mp e, fun e => by rw [e]⟩
theorem wsD_inj {x y : List Tx} : wsD x = wsD y ↔ x = y := by
  simp only [wsD, PyData.list.injEq]
  exact map_inj S_inj'
theorem plD_inj {x y : Int × Int} : plD x = plD y ↔ x = y := by
  obtain ⟨a, b⟩ := x; obtain ⟨c, d⟩ := y
  simp [plD]
theorem psD_inj {x y : List (Int × Int)} : psD x = psD y ↔ x = y := by
  simp only [psD, PyData.list.injEq]
  exact map_inj plD_inj
def okI (i : Int) : Prop := i.natAbs < 1000000
theorem wsD_tame {ws : List Tx} (h : ∀ t ∈ ws, ok8 t) : tame (wsD ws) = true := by
  simp only [wsD, tame, tameAll_iff, List.mem_map]
  rintro _ ⟨t, ht, rfl⟩
  simp only [tame]
  exact strOk_S (h t ht)
theorem psD_tame {ps : List (Int × Int)} (h : ∀ p ∈ ps, okI p.1 ∧ okI p.2) : tame (psD ps) = true := by
  simp only [psD, tame, tameAll_iff, List.mem_map]
  rintro _ ⟨p, hp, rfl⟩
  have := h p hp
  simp only [okI] at this
  simp only [plD, tame, tameAll, Bool.and_true, Bool.and_eq_true, decide_eq_true_eq]
  omega
theorem depthAll_le {n : Nat} : ∀ {xs : List PyData}, (∀ x ∈ xs, x.depth ≤ n) → PyData.depthAll xs ≤ n
  | [], _ => by simp [PyData.depthAll]
  | x :: xs, h => by
    simp only [PyData.depthAll]
    exact Nat.max_le.mpr ⟨h x (.head _), depthAll_le fun y hy => h y (.tail _ hy)⟩
theorem wsD_depth (ws : List Tx) : (wsD ws).depth ≤ 1 := by
  simp only [wsD, PyData.depth]
  refine Nat.succ_le_succ (depthAll_le fun x hx => ?_)
  obtain ⟨t, _, rfl⟩ := List.mem_map.mp hx
  simp [PyData.depth]
theorem psD_depth (ps : List (Int × Int)) : (psD ps).depth ≤ 2 := by
  simp only [psD, PyData.depth]
  refine Nat.succ_le_succ (depthAll_le fun x hx => ?_)
  obtain ⟨t, _, rfl⟩ := List.mem_map.mp hx
  simp [plD, PyData.depth, PyData.depthAll]
theorem weightAll_le {n : Nat} : ∀ {xs : List PyData}, (∀ x ∈ xs, x.weight ≤ n) → PyData.weightAll xs ≤ (n + 1) * xs.length
  | [], _ => by simp [PyData.weightAll]
  | x :: xs, h => by
    simp only [PyData.weightAll, List.length_cons, Nat.mul_succ]
    have h1 := h x (.head _)
    have h2 := weightAll_le (xs := xs) fun y hy => h y (.tail _ hy)
    omega
theorem wsD_weight {ws : List Tx} {n : Nat} (h : ∀ t ∈ ws, t.length ≤ n) : (wsD ws).weight ≤ (n + 1) * ws.length := by
  simp only [wsD, PyData.weight]
  have := weightAll_le (n := n) (xs := ws.map fun t => PyData.str (S t)) fun x hx => by
    obtain ⟨t, ht, rfl⟩ := List.mem_map.mp hx
    simp only [PyData.weight, S_size]
    exact h t ht
  rwa [List.length_map] at this
theorem int_weight {i : Int} (h : okI i) : (PyData.int i).weight ≤ 30 := by
  simp only [PyData.weight]
  split
  · omega
  · rename_i z
    have z' : i.natAbs ≠ 0 := by simpa using z
    have : i.natAbs.log2 < 20 := (Nat.log2_lt z').mpr (Nat.lt_trans h (by decide))
    omega
theorem psD_weight {ps : List (Int × Int)} (h : ∀ p ∈ ps, okI p.1 ∧ okI p.2) : (psD ps).weight ≤ 63 * ps.length := by
  simp only [psD, PyData.weight]
  have := weightAll_le (n := 62) (xs := ps.map plD) fun x hx => by
    obtain ⟨p, hp, rfl⟩ := List.mem_map.mp hx
    have h1 := int_weight (h p hp).1
    have h2 := int_weight (h p hp).2
    simp only [plD]
    rw [PyData.weight]
    simp only [PyData.weightAll]
    omega
  rwa [List.length_map] at this
/-! ### where they lie -/
def Pls (H : Hp) (x : V) (d : Int × Int) : Prop := ∃ t, x = .ref t ∧ H t = some (.tup [.int d.1, .int d.2])
theorem Pls.mono {H H' : Hp} {x : V} {d : Int × Int} (h : Pls H x d) (t : ∀ b xs, H b = some (.tup xs) → H' b = some (.tup xs)) : Pls H' x d := by
  obtain ⟨b, e, h1⟩ := h
  exact ⟨b, e, t _ _ h1⟩
theorem dpAll_map {α : Type} {K : PySem.W.Frag} {H : Hp} {f : α → V} {g : α → PyData} : ∀ (l : List α), (∀ x ∈ l, Dp K H (f x) (g x)) → DpAll K H (l.map f) (l.map g)
  | [], _ => .nil
  | x :: l, h => .cons (h x (.head _)) (dpAll_map l fun y hy => h y (.tail _ hy))
theorem dpAll_paired {α : Type} {K : PySem.W.Frag} {H : Hp} {F : V → α → Prop} {g : α → PyData} (h : ∀ x y, F x y → Dp K H x (g y)) : ∀ {xs : List V} {l : List α}, Paired F xs l → DpAll K H xs (l.map g)
  | _, _, .nil => .nil
  | _, _, .cons r t => .cons (h _ _ r) (dpAll_paired h t)
theorem dp_ws {K : PySem.W.Frag} {H : Hp} {p : Addr} {ws : List Tx} (h : SqL K H p (ws.map fun t => V.str (S t))) : Dp K H (.ref p) (wsD ws) := .lst h (dpAll_map ws fun _ _ => .str _)
theorem dp_pl {K : PySem.W.Frag} {H : Hp} {x : V} {d : Int × Int} (h : Pls H x d) : Dp K H x (plD d) := by
  obtain ⟨t, rfl, h⟩ := h
  exact .tup (.inl (.inl h)) (.cons (.int _) (.cons (.int _) .nil))
theorem dp_ps {K : PySem.W.Frag} {H : Hp} {p : Addr} {xs : List V} {ps : List (Int × Int)} (h : SqL K H p xs) (q : Paired (Pls H) xs ps) : Dp K H (.ref p) (psD ps) := .lst h (dpAll_paired (g := plD) (fun _ _ z => dp_pl z) q)
/-! ### what a reading tells -/
abbrev Told := Except Int (List Tx × List (Int × Int))
instance : DecidableEq Told := fun x y => match x, y with
  | .error i, .error j => decidable_of_iff (i = j) (by simp)
  | .ok p, .ok q => decidable_of_iff (p = q) (by simp)
  | .error _, .ok _ => isFalse (by simp)
  | .ok _, .error _ => isFalse (by simp)
def tD : Told → PyData
  | .error n => .int n
  | .ok (ws, ps) => .tuple [wsD ws, psD ps]
structure TOk (n : Nat) (x : Told) : Prop where
  er : ∀ i, x = .error i → okI i
  ws : ∀ l ps, x = .ok (l, ps) → (∀ t ∈ l, ok8 t ∧ t.length ≤ n) ∧ l.length ≤ n
  ps : ∀ l ps, x = .ok (l, ps) → (∀ p ∈ ps, okI p.1 ∧ okI p.2) ∧ ps.length ≤ n
theorem tD_inj {x y : Told} : tD x = tD y ↔ x = y := by
  cases x with
  | error i => cases y with
    | error j => simp [tD]
    | ok q => simp [tD]
  | ok p => cases y with
    | error j => simp [tD]
    | ok q =>
      obtain ⟨a, b⟩ := p; obtain ⟨c, d⟩ := q
      simp only [tD, PyData.tuple.injEq, List.cons.injEq, and_true, wsD_inj, psD_inj, Except.ok.injEq, Prod.mk.injEq]
theorem tD_tame {n : Nat} {x : Told} (h : TOk n x) : tame (tD x) = true := by
  cases x with
  | error i =>
    have := h.er i rfl
    simp only [okI] at this
    simp only [tD, tame, decide_eq_true_eq]
    omega
  | ok p =>
    obtain ⟨l, ps⟩ := p
    simp only [tD, tame, tameAll, Bool.and_true, Bool.and_eq_true]
    exact ⟨wsD_tame fun t ht => ((h.ws l ps rfl).1 t ht).1, psD_tame (h.ps l ps rfl).1⟩
theorem tD_depth (x : Told) : (tD x).depth ≤ 3 := by
  cases x with
  | error i => simp [tD, PyData.depth]
  | ok p =>
    obtain ⟨l, ps⟩ := p
    simp only [tD, PyData.depth, PyData.depthAll]
    have h1 := wsD_depth l
    have h2 := psD_depth ps
    omega
theorem tD_weight {n : Nat} (hn : n ≤ 900) {x : Told} (h : TOk n x) : (tD x).weight ≤ 1000000 := by
  cases x with
  | error i =>
    have := int_weight (h.er i rfl)
    simp only [tD]
    omega
  | ok p =>
    obtain ⟨l, ps⟩ := p
    have h1 := wsD_weight (n := n) fun t ht => ((h.ws l ps rfl).1 t ht).2
    have h2 := psD_weight (h.ps l ps rfl).1
    have h3 := (h.ws l ps rfl).2
    have h4 := (h.ps l ps rfl).2
    have h5 : (n + 1) * l.length ≤ 901 * 900 := Nat.mul_le_mul (by omega) (by omega)
    simp only [tD]
    rw [PyData.weight]
    simp only [PyData.weightAll]
    omega
end Qw

set_option Elab.async false
set_option linter.all false
set_option maxRecDepth 100000
set_option maxHeartbeats 4000000
namespace Qw
open PySem L2
def sgn (c : Nat) : Bool := decide (32 ≤ c ∧ c ≤ 126) || decide (c = 10)
def RS.every (r : RS) : Tx := r.breaks ++ (r.hard ++ (r.soft ++ (r.bend ++ r.note)))
structure RS.Ok (r : RS) : Prop where
  l1 : r.breaks.length ≤ 4
  l2 : r.hard.length ≤ 2
  l3 : r.soft.length ≤ 2
  l4 : r.bend.length ≤ 1
  l5 : r.note.length ≤ 1
  ne : r.breaks ≠ []
  sg : r.every.all sgn = true
  nd : r.every.Nodup
/-! ### bounds of what is read -/
/-- where a machine is behind a text u -/
structure MS.Bd (m : MS) (u : Tx) : Prop where
  wd : ∀ w, m.word = some w → (∀ c ∈ w, c ∈ u)
  be : m.begun ≤ m.place
  op : m.opened ≤ m.place
def W3.Bd (d : W3) (u : Tx) (n : Nat) : Prop := (∀ c ∈ d.1, c ∈ u) ∧ d.1.length ≤ n ∧ d.2.1 ≤ n ∧ d.2.2 ≤ n
theorem MS.Bd.begin {m : MS} {u : Tx} (b : m.Bd u) : m.begin.Bd u := by
  unfold MS.begin
  split
  · exact ⟨fun w e => by cases e; simp, Nat.le_refl _, b.op⟩
  · exact b
theorem MS.Bd.add {m : MS} {u : Tx} {c : Nat} (b : m.Bd u) (hc : c ∈ u) : (m.add c).Bd u := by
  refine ⟨fun w e => ?_, b.be, b.op⟩
  unfold MS.add at e
  cases h : m.word with
  | none => rw [h] at e; cases e
  | some z =>
    rw [h] at e
    cases (Option.some.inj e : z ++ [c] = w)
    intro x hx
    rcases List.mem_append.mp hx with q | q
    · exact b.wd z h x q
    · rw [List.mem_singleton.mp q]; exact hc
theorem MS.Bd.mono {m : MS} {u v : Tx} (b : m.Bd u) (h : ∀ c ∈ u, c ∈ v) : m.Bd v := ⟨fun w e c hc => h c (b.wd w e c hc), b.be, b.op⟩
theorem MS.Bd.up {m : MS} {u : Tx} (b : m.Bd u) : ({ m with place := m.place + 1 } : MS).Bd u := ⟨b.wd, Nat.le_succ_of_le b.be, Nat.le_succ_of_le b.op⟩
theorem MS.Bd.out {m : MS} {u : Tx} (b : m.Bd u) (ok : m.Ok) : ∀ d ∈ m.out, d.Bd u m.place := by
  intro d hd
  unfold MS.out at hd
  cases h : m.word with
  | none => rw [h] at hd; cases hd
  | some w =>
    rw [h] at hd
    cases List.mem_singleton.mp hd
    exact ⟨b.wd w h, ok.ln w h, b.be, Nat.le_refl _⟩
theorem MS.Bd.step {m : MS} {u : Tx} (b : m.Bd u) (ok : m.Ok) (r : RS) (c : Nat) : (m.step r c).1.Bd (u ++ [c]) ∧ ∀ d ∈ (m.step r c).2, d.Bd (u ++ [c]) m.place := by
  have hc : c ∈ u ++ [c] := by simp
  have b' : m.Bd (u ++ [c]) := b.mono fun x hx => by simp [hx]
  refine MS.step_cases r m c (fun x => x.1.Bd (u ++ [c]) ∧ ∀ d ∈ x.2, d.Bd (u ++ [c]) m.place) (fun m1 h _ => ?_) (fun m1 h _ _ => ?_) (fun _ _ _ => ⟨b'.up, fun _ z => (nomatch z)⟩) fun _ _ _ => ⟨?_, fun _ z => (nomatch z)⟩
  · have b1 : m1.Bd (u ++ [c]) := by rcases h with h | h <;> subst h <;> exact ⟨b'.wd, b'.be, b'.op⟩
    refine ⟨?_, fun _ z => (nomatch z)⟩
    have b2 : ({ m1 with bent := false } : MS).Bd (u ++ [c]) := ⟨b1.wd, b1.be, b1.op⟩
    exact (b2.add hc).up
  · have b1 : m1.Bd (u ++ [c]) := by rcases h with h | h <;> subst h <;> exact ⟨b'.wd, b'.be, b'.op⟩
    have e1 : m1.out = m.out := by rcases h with h | h <;> subst h <;> rfl
    have ot : ∀ d ∈ m1.out, d.Bd (u ++ [c]) m.place := fun d hd => by
      rw [e1] at hd
      exact b'.out ok d hd
    suffices q : (m1.plain r c).1.Bd (u ++ [c]) ∧ ∀ d ∈ (m1.plain r c).2, d.Bd (u ++ [c]) m.place from ⟨q.1.up, q.2⟩
    have bb := b1.begin
    unfold MS.plain
    split
    · exact ⟨⟨fun w e => (nomatch e), b1.be, b1.op⟩, ot⟩
    split
    · exact ⟨⟨fun w e => (nomatch e), b1.be, b1.op⟩, ot⟩
    split
    · exact ⟨⟨bb.wd, bb.be, Nat.le_refl _⟩, fun _ z => (nomatch z)⟩
    split
    · exact ⟨⟨bb.wd, bb.be, Nat.le_refl _⟩, fun _ z => (nomatch z)⟩
    · exact ⟨bb.add hc, fun _ z => (nomatch z)⟩
  · suffices q : (m.quoted r c).Bd (u ++ [c]) from q.up
    unfold MS.quoted
    split
    · exact ⟨b'.wd, b'.be, b'.op⟩
    split
    · exact ⟨b'.wd, b'.be, b'.op⟩
    · exact b'.add hc
theorem MS.Bd.run (r : RS) : ∀ (t : Tx) {m : MS} {u : Tx}, m.Bd u → m.Ok → (m.run r t).1.Bd (u ++ t) ∧ ∀ d ∈ (m.run r t).2, d.Bd (u ++ t) (m.place + t.length)
  | [], m, u, b, _ => ⟨by rw [List.append_nil]; exact b, fun _ z => (nomatch z)⟩
  | c :: t, m, u, b, ok => by
    have h1 := b.step ok r c
    have h2 := MS.Bd.run r t h1.1 (ok.step r c)
    rw [MS.place_step] at h2
    have e : u ++ c :: t = u ++ [c] ++ t := by simp
    rw [e, List.length_cons]
    refine ⟨h2.1, fun d hd => ?_⟩
    rcases List.mem_append.mp hd with q | q
    · obtain ⟨a1, a2, a3, a4⟩ := h1.2 d q
      exact ⟨fun x hx => List.mem_append_left _ (a1 x hx), by omega, by omega, by omega⟩
    · obtain ⟨a1, a2, a3, a4⟩ := h2.2 d q
      exact ⟨a1, by omega, by omega, by omega⟩
theorem readAll_bd (r : RS) (t : Tx) (rp : Addr) : match readAll r t rp with
    | .error n => n ≤ t.length
    | .ok ds => ds.length ≤ t.length + 1 ∧ ∀ d ∈ ds, d.Bd t t.length := by
  have z : (MS.zero rp).Bd [] := ⟨fun w e => (by cases e), Nat.le_refl _, Nat.le_refl _⟩
  have h := MS.Bd.run r t z (MS.Ok.zero rp)
  have pl := MS.place_run r t (MS.zero rp)
  have pz : (MS.zero rp).place = 0 := rfl
  have ok := (MS.Ok.zero rp).run r t
  rw [pz, Nat.zero_add] at pl
  rw [List.nil_append, pz, Nat.zero_add] at h
  unfold readAll
  split
  · rename_i n e
    split at e
    · rename_i n' e'
      cases e
      unfold MS.fault at e'
      split at e'
      · cases e'
        rw [← pl]; exact h.1.op
      · cases e'
    · cases e
  · rename_i ds e
    split at e
    · cases e
    · cases e
      refine ⟨?_, fun d hd => ?_⟩
      · rw [List.length_append]
        have h1 := MS.out_run r t (MS.zero rp)
        have h2 : ((MS.zero rp).run r t).1.out.length ≤ 1 := by unfold MS.out; split <;> simp
        omega
      · rcases List.mem_append.mp hd with q | q
        · exact h.2 d q
        · have := h.1.out ok d q
          rwa [pl] at this
/-- what an answer tells of a text -/
def told3 (x : Except Nat (List W3)) : Told := match x with
  | .error n => .error n
  | .ok ds => .ok (ds.map (·.1), ds.map fun d => ((d.2.1 : Int), (d.2.2 : Int)))
theorem TOk.mono {m n : Nat} {x : Told} (h : TOk m x) (le : m ≤ n) : TOk n x :=
  ⟨h.er, fun l ps e => ⟨fun t ht => ⟨((h.ws l ps e).1 t ht).1, Nat.le_trans ((h.ws l ps e).1 t ht).2 le⟩, Nat.le_trans (h.ws l ps e).2 le⟩, fun l ps e => ⟨(h.ps l ps e).1, Nat.le_trans (h.ps l ps e).2 le⟩⟩
theorem told3_ok1 {r : RS} {t : Tx} {rp : Addr} (h8 : ok8 t) (hn : t.length ≤ 10000) : TOk (t.length + 1) (told3 (readAll r t rp)) := by
  have h := readAll_bd r t rp
  cases e : readAll r t rp with
  | error n =>
    rw [e] at h
    refine ⟨fun i q => ?_, fun _ _ q => (nomatch q), fun _ _ q => (nomatch q)⟩
    cases q
    have h : n ≤ t.length := h
    simp only [okI]
    omega
  | ok ds =>
    rw [e] at h
    refine ⟨fun i q => (nomatch q), fun l ps q => ?_, fun l ps q => ?_⟩
    · cases q
      refine ⟨fun w hw => ?_, by rw [List.length_map]; have := h.1; omega⟩
      obtain ⟨d, hd, rfl⟩ := List.mem_map.mp hw
      have hb := h.2 d hd
      exact ⟨fun c hc => h8 c (hb.1 c hc), by have := hb.2.1; omega⟩
    · cases q
      refine ⟨fun w hw => ?_, by rw [List.length_map]; have := h.1; omega⟩
      obtain ⟨d, hd, rfl⟩ := List.mem_map.mp hw
      have hb := h.2 d hd
      have h1 := hb.2.2.1
      have h2 := hb.2.2.2
      simp only [okI]
      omega
theorem told3_ok {r : RS} {t : Tx} {rp : Addr} (h8 : ok8 t) (hn : t.length ≤ 800) : TOk 900 (told3 (readAll r t rp)) := (told3_ok1 h8 (by omega)).mono (by omega)
theorem ok8_of {t : Tx} (h : t.all sgn = true) : ok8 t := fun c hc => by
  have := List.all_eq_true.mp h c hc
  simp only [sgn, Bool.or_eq_true, decide_eq_true_eq] at this
  omega
end Qw

set_option Elab.async false
set_option linter.all false
set_option maxRecDepth 100000
set_option maxHeartbeats 4000000
namespace Qw
open PySem L2
/-! ### the law's own reading, in plain Lean -/
theorem drop_at {t : Tx} {i c : Nat} (h : t[i]? = some c) : t.drop i = c :: t.drop (i + 1) := by
  obtain ⟨hi, e⟩ := List.getElem?_eq_some_iff.mp h
  rw [List.drop_eq_getElem_cons hi, e]
theorem drop_end {t : Tx} {i : Nat} (h : t[i]? = none) : t.drop i = [] := List.drop_eq_nil_of_le (List.getElem?_eq_none_iff.mp h)
def lq (r : RS) (q b : Nat) : Tx → Nat → Tx → Except Nat (Tx × Nat)
  | [], _, _ => .error b
  | [c], k, f => if c = q then .ok (f, k + 1) else .error b
  | c :: d :: rest, k, f => if c = q then .ok (f, k + 1)
      else if q ∈ r.soft ∧ r.bend = [c] then lq r q b rest (k + 2) (f ++ [d]) else lq r q b (d :: rest) (k + 1) (f ++ [c])
theorem lq_one {r : RS} {q b c : Nat} {rest : Tx} {k : Nat} {f : Tx} (h : c = q) : lq r q b (c :: rest) k f = .ok (f, k + 1) := by
  cases rest <;> simp [lq, h]
theorem lq_plain {r : RS} {q b c : Nat} {rest : Tx} {k : Nat} {f : Tx} (h : c ≠ q) (h2 : ¬ (q ∈ r.soft ∧ r.bend = [c])) : lq r q b (c :: rest) k f = lq r q b rest (k + 1) (f ++ [c]) := by
  cases rest with
  | nil => simp [lq, h]
  | cons d l => simp only [lq, if_neg h, if_neg h2]
theorem lq_bend {r : RS} {q b c d : Nat} {rest : Tx} {k : Nat} {f : Tx} (h : c ≠ q) (h2 : q ∈ r.soft ∧ r.bend = [c]) : lq r q b (c :: d :: rest) k f = lq r q b rest (k + 2) (f ++ [d]) := by
  simp only [lq, if_neg h, if_pos h2]
theorem lq_last {r : RS} {q b c : Nat} {k : Nat} {f : Tx} (h : c ≠ q) : lq r q b [c] k f = .error b := by
  simp [lq, h]
theorem lq_bd (r : RS) (q b : Nat) : ∀ (t : Tx) (k : Nat) (f : Tx), match lq r q b t k f with
    | .error n => n = b
    | .ok (g, e) => k + 1 ≤ e ∧ e ≤ k + t.length ∧ g.length + k + 1 ≤ f.length + e
  | [], k, f => by simp [lq]
  | [c], k, f => by
    by_cases h : c = q
    · simp [lq, h]; omega
    · simp [lq, h]
  | c :: d :: rest, k, f => by
    have h1 := lq_bd r q b rest (k + 2) (f ++ [d])
    have h2 := lq_bd r q b (d :: rest) (k + 1) (f ++ [c])
    unfold lq
    by_cases c1 : c = q
    · simp only [if_pos c1, List.length_cons]; omega
    · by_cases c2 : q ∈ r.soft ∧ r.bend = [c]
      · simp only [if_neg c1, if_pos c2]
        cases e : lq r q b rest (k + 2) (f ++ [d]) with
        | error n => rw [e] at h1; exact h1
        | ok p =>
          obtain ⟨g, e'⟩ := p
          rw [e] at h1
          simp only [List.length_append, List.length_cons, List.length_nil] at h1 ⊢
          omega
      · simp only [if_neg c1, if_neg c2]
        cases e : lq r q b (d :: rest) (k + 1) (f ++ [c]) with
        | error n => rw [e] at h2; exact h2
        | ok p =>
          obtain ⟨g, e'⟩ := p
          rw [e] at h2
          simp only [List.length_append, List.length_cons, List.length_nil] at h2 ⊢
          omega
def lw (r : RS) (t : Tx) : Nat → Nat → Tx → Except Nat (Tx × Nat)
  | 0, k, f => .ok (f, k)
  | n + 1, k, f => match t[k]? with
    | none => .ok (f, k)
    | some c => if c ∈ r.breaks ++ r.note then .ok (f, k)
      else if c ∈ r.hard ++ r.soft then (match lq r c k (t.drop (k + 1)) (k + 1) [] with
        | .error b => .error b
        | .ok (g, e) => lw r t n e (f ++ g))
      else if r.bend = [c] then (match t[k + 1]? with
        | none => .error k
        | some d => lw r t n (k + 2) (f ++ [d]))
      else lw r t n (k + 1) (f ++ [c])
theorem lw_bd (r : RS) (t : Tx) : ∀ (n k : Nat) (f : Tx), k ≤ t.length → match lw r t n k f with
    | .error b => b ≤ t.length
    | .ok (g, e) => k ≤ e ∧ e ≤ t.length ∧ g.length + k ≤ f.length + e
  | 0, k, f, hk => by simp only [lw]; omega
  | n + 1, k, f, hk => by
    unfold lw
    cases h : t[k]? with
    | none => simp only []; omega
    | some c =>
      have hk' : k < t.length := (List.getElem?_eq_some_iff.mp h).1
      simp only []
      by_cases c1 : c ∈ r.breaks ++ r.note
      · simp only [if_pos c1]; omega
      by_cases c2 : c ∈ r.hard ++ r.soft
      · simp only [if_neg c1, if_pos c2]
        have b1 := lq_bd r c k (t.drop (k + 1)) (k + 1) []
        cases e : lq r c k (t.drop (k + 1)) (k + 1) [] with
        | error b => rw [e] at b1; simp only at b1 ⊢; omega
        | ok p =>
          obtain ⟨g, e'⟩ := p
          rw [e] at b1
          rw [List.length_drop] at b1
          simp only [List.length_nil] at b1
          have ih := lw_bd r t n e' (f ++ g) (by omega)
          cases e2 : lw r t n e' (f ++ g) with
          | error b => rw [e2] at ih; simp only [e2]; exact ih
          | ok p =>
            obtain ⟨g2, e3⟩ := p
            rw [e2] at ih
            simp only [List.length_append, e2] at ih ⊢
            omega
      by_cases c3 : r.bend = [c]
      · simp only [if_neg c1, if_neg c2, if_pos c3]
        cases h2 : t[k + 1]? with
        | none => simp only []; omega
        | some d =>
          have hk2 : k + 1 < t.length := (List.getElem?_eq_some_iff.mp h2).1
          have ih := lw_bd r t n (k + 2) (f ++ [d]) (by omega)
          simp only []
          cases e2 : lw r t n (k + 2) (f ++ [d]) with
          | error b => rw [e2] at ih; exact ih
          | ok p =>
            obtain ⟨g2, e3⟩ := p
            rw [e2] at ih
            simp only [List.length_append, List.length_cons, List.length_nil] at ih ⊢
            omega
      · simp only [if_neg c1, if_neg c2, if_neg c3]
        have ih := lw_bd r t n (k + 1) (f ++ [c]) (by omega)
        cases e2 : lw r t n (k + 1) (f ++ [c]) with
        | error b => rw [e2] at ih; exact ih
        | ok p =>
          obtain ⟨g2, e3⟩ := p
          rw [e2] at ih
          simp only [List.length_append, List.length_cons, List.length_nil] at ih ⊢
          omega
theorem lw_pos {r : RS} {t : Tx} {n k c : Nat} {f g : Tx} {e : Nat} (hc : t[k]? = some c) (h : c ∉ r.breaks ++ r.note) (q : lw r t (n + 1) k f = .ok (g, e)) : k + 1 ≤ e := by
  have hk : k < t.length := (List.getElem?_eq_some_iff.mp hc).1
  simp only [lw, hc, if_neg h] at q
  split at q
  · have b1 := lq_bd r c k (t.drop (k + 1)) (k + 1) []
    split at q
    · cases q
    · rename_i g2 e2 e3
      rw [e3, List.length_drop] at b1
      have b2 := lw_bd r t n e2 (f ++ g2) (by omega)
      rw [q] at b2
      omega
  · split at q
    · split at q
      · cases q
      · rename_i d h2
        have hk2 : k + 1 < t.length := (List.getElem?_eq_some_iff.mp h2).1
        have b2 := lw_bd r t n (k + 2) (f ++ [d]) (by omega)
        rw [q] at b2
        omega
    · have b2 := lw_bd r t n (k + 1) (f ++ [c]) (by omega)
      rw [q] at b2
      omega
/-- signs up to the line's end -/
def nlk : Tx → Nat
  | [] => 0
  | c :: r => if c = LE then 0 else nlk r + 1
def nlAt (t : Tx) (i : Nat) : Nat := i + nlk (t.drop i)
theorem nlk_spec : ∀ t : Tx, nlk t ≤ t.length ∧ (∀ v, v < nlk t → t[v]? ≠ some LE) ∧ (nlk t < t.length → t[nlk t]? = some LE)
  | [] => by simp [nlk]
  | c :: r => by
    have ih := nlk_spec r
    by_cases h : c = LE
    · simp [nlk, h]
    · simp only [nlk, if_neg h, List.length_cons]
      refine ⟨by omega, fun v hv => ?_, fun hl => ?_⟩
      · cases v with
        | zero => simpa using h
        | succ v => simpa using ih.2.1 v (by omega)
      · simpa using ih.2.2 (by omega)
theorem nlAt_spec {t : Tx} {i : Nat} (h : i ≤ t.length) : i ≤ nlAt t i ∧ nlAt t i ≤ t.length ∧ (∀ v, i ≤ v → v < nlAt t i → t[v]? ≠ some LE) ∧ (nlAt t i < t.length → t[nlAt t i]? = some LE) := by
  have s := nlk_spec (t.drop i)
  rw [List.length_drop] at s
  unfold nlAt
  refine ⟨by omega, by omega, fun v h1 h2 => ?_, fun hl => ?_⟩
  · have := s.2.1 (v - i) (by omega)
    rwa [List.getElem?_drop, show i + (v - i) = v by omega] at this
  · have := s.2.2 (by omega)
    rwa [List.getElem?_drop] at this
theorem find_nl {t : Tx} {i : Nat} (h : i ≤ t.length) : (Txt.find3 (S t) (S [LE]) (i : Int) = -1 ∧ nlAt t i = t.length) ∨ (Txt.find3 (S t) (S [LE]) (i : Int) = (nlAt t i : Int) ∧ nlAt t i < t.length) := by
  have s := nlAt_spec h
  have fi : fromIndex (S t).length (i : Int) = i := by
    unfold fromIndex
    rw [if_neg (by omega)]
    omega
  have gd : ∀ v, v < t.length → ((S t).cps.getD v 0 = LE ↔ t[v]? = some LE) := fun v hv => by
    rw [List.getElem?_eq_getElem hv, Option.some.injEq]
    simp [S, Array.getD, hv]
  have fs := StrLaws.find3_spec (S t) LE (i : Int)
  rw [fi, S_len] at fs
  rcases fs with ⟨e, hn⟩ | ⟨k, e, h1, h2, h3, h4⟩
  · refine .inl ⟨e, ?_⟩
    rcases Nat.lt_or_ge (nlAt t i) t.length with l | l
    · exact absurd ((gd _ l).mpr (s.2.2.2 l)) (hn _ s.1 l)
    · omega
  · have ek : k = nlAt t i := by
      rcases Nat.lt_trichotomy k (nlAt t i) with l | l | l
      · exact absurd ((gd _ h2).mp h3) (s.2.2.1 k h1 l)
      · exact l
      · exact absurd ((gd _ (by omega)).mpr (s.2.2.2 (by omega))) (h4 _ s.1 l)
    exact .inr ⟨by rw [← ek]; exact e, by omega⟩
def lr (r : RS) (t : Tx) : Nat → Nat → List W3 → Except Nat (List W3)
  | 0, _, acc => .ok acc
  | n + 1, k, acc => match t[k]? with
    | none => .ok acc
    | some c0 => match t[if r.note = [c0] then nlAt t (k + 1) else k]? with
      | none => .ok acc
      | some c => if c ∈ r.breaks then lr r t n ((if r.note = [c0] then nlAt t (k + 1) else k) + 1) acc
        else if c ∈ r.note then lr r t n (if r.note = [c0] then nlAt t (k + 1) else k) acc
        else match lw r t t.length (if r.note = [c0] then nlAt t (k + 1) else k) [] with
          | .error b => .error b
          | .ok (w, e) => lr r t n e (acc ++ [(w, (if r.note = [c0] then nlAt t (k + 1) else k), e)])
end Qw

set_option Elab.async false
set_option linter.all false
set_option maxRecDepth 100000
set_option maxHeartbeats 4000000
namespace Qw
open PySem L2
/-! ### the machine reads as the law's own reading does -/
def fin (r : RS) (m : MS) (rest : Tx) (acc : List W3) : Except Nat (List W3) := match (m.run r rest).1.fault with
  | some n => .error n
  | none => .ok (acc ++ ((m.run r rest).2 ++ (m.run r rest).1.out))
theorem fin_step (r : RS) (m : MS) (c : Nat) (rest : Tx) (acc : List W3) : fin r m (c :: rest) acc = fin r (m.step r c).1 rest (acc ++ (m.step r c).2) := by
  unfold fin
  rw [MS.run]
  dsimp only
  split
  · rfl
  · simp only [List.append_assoc]
theorem one_NT (q : Nat) : ¬ ([q] = NT) := by intro h; cases h
theorem nil_NT : ¬ (([] : Tx) = NT) := by intro h; cases h
theorem NT_nil : ¬ (NT = ([] : Tx)) := by intro h; cases h
/-- a sign in a quoted stretch -/
theorem step_quoted {r : RS} {m : MS} {q c : Nat} (hs : m.state = [q]) (hb : m.bent = false) : m.step r c = ({ (m.quoted r c) with place := m.place + 1 }, []) := by
  unfold MS.step
  rw [if_neg (fun h => one_NT q (hs ▸ h.1))]
  simp only [hb, Bool.false_eq_true, if_false, hs, List.cons_ne_nil, one_NT]
  rw [MS.place_quoted]
theorem step_bent {r : RS} {m : MS} {c : Nat} (hs : m.state ≠ NT) (hb : m.bent = true) : m.step r c = ({ (({ m with bent := false } : MS).add c) with place := m.place + 1 }, []) := by
  unfold MS.step
  rw [if_neg (fun h => hs h.1)]
  simp only [hb, if_true]
  rfl
theorem step_plain {r : RS} {m : MS} {c : Nat} (hs : m.state = []) (hb : m.bent = false) : m.step r c = ({ (m.plain r c).1 with place := m.place + 1 }, (m.plain r c).2) := by
  unfold MS.step
  rw [if_neg (fun h => nil_NT (hs ▸ h.1))]
  simp only [hb, Bool.false_eq_true, if_false, hs, if_true]
  rw [MS.place_plain]
theorem fin_lq (r : RS) (hb1 : r.bend.length ≤ 1) (q b : Nat) : ∀ (rest : Tx) (k : Nat) (f w0 : Tx) (m : MS) (acc : List W3), m.state = [q] → m.bent = false → m.word = some (w0 ++ f) → m.place = k → m.opened = b →
    match lq r q b rest k f with
    | .error _ => fin r m rest acc = .error b
    | .ok (g, e) => fin r m rest acc = fin r { m with state := [], word := some (w0 ++ g), place := e } (rest.drop (e - k)) acc
  | [], k, f, w0, m, acc, hs, hb, hw, hp, ho => by
    have : m.fault = some b := by
      unfold MS.fault
      rw [if_pos (.inr ⟨by rw [hs]; simp, by rw [hs]; exact one_NT q⟩), ho]
    simp [lq, fin, MS.run, this]
  | c :: rest, k, f, w0, m, acc, hs, hb, hw, hp, ho => by
    have mem : c ∈ r.bend ↔ r.bend = [c] := by
      constructor
      · intro h
        match hbn : r.bend, h, hb1 with
        | [x], h, _ => rw [List.mem_singleton.mp h]
      · intro h; rw [h]; exact List.mem_singleton.mpr rfl
    rw [fin_step, step_quoted hs hb, List.append_nil]
    by_cases c1 : c = q
    · rw [lq_one c1]
      have : m.quoted r c = { m with state := [] } := by
        unfold MS.quoted
        rw [if_pos (by rw [hs, c1])]
      rw [this]
      show fin r _ rest acc = fin r _ ((c :: rest).drop (k + 1 - k)) acc
      rw [show k + 1 - k = 1 by omega]
      show fin r { m with state := [], place := m.place + 1 } rest acc = fin r { m with state := [], word := some (w0 ++ f), place := k + 1 } rest acc
      rw [hp, ← hw]
    have c1' : ¬ ([c] = m.state) := fun h => c1 (by rw [hs] at h; cases h; rfl)
    by_cases c2 : q ∈ r.soft ∧ r.bend = [c]
    · have qd : m.quoted r c = { m with bent := true } := by
        unfold MS.quoted
        rw [if_neg c1', if_pos ⟨mem.mpr c2.2, by rw [hs]; simpa using c2.1⟩]
      rw [qd]
      cases rest with
      | nil =>
        rw [lq_last c1]
        have : ({ m with bent := true, place := m.place + 1 } : MS).fault = some b := by
          unfold MS.fault
          rw [if_pos (.inl rfl)]
          exact congrArg some ho
        simp [fin, MS.run, this]
      | cons d rest =>
        rw [lq_bend c1 c2, fin_step, step_bent (m := { m with bent := true, place := m.place + 1 }) (by show m.state ≠ NT; rw [hs]; exact one_NT q) rfl, List.append_nil]
        have ih := fin_lq r hb1 q b rest (k + 2) (f ++ [d]) w0 { (({ m with bent := false, place := m.place + 1 } : MS).add d) with place := m.place + 1 + 1 } acc hs rfl (by simp [MS.add, hw]) (by show m.place + 1 + 1 = k + 2; omega) ho
        cases e : lq r q b rest (k + 2) (f ++ [d]) with
        | error x => rw [e] at ih; exact ih
        | ok z =>
          obtain ⟨g, e2⟩ := z
          rw [e] at ih
          have bd := lq_bd r q b rest (k + 2) (f ++ [d])
          rw [e] at bd
          dsimp only at ih bd ⊢
          rw [show e2 - k = (e2 - (k + 2)) + 2 by omega]
          show _ = fin r _ (rest.drop (e2 - (k + 2))) acc
          refine Eq.trans ih ?_
          rw [hb]
          rfl
    · have qd : m.quoted r c = m.add c := by
        unfold MS.quoted
        rw [if_neg c1', if_neg (fun h => c2 ⟨by rw [hs] at h; simpa using h.2, mem.mp h.1⟩)]
      rw [qd, lq_plain c1 c2]
      have ih := fin_lq r hb1 q b rest (k + 1) (f ++ [c]) w0 { (m.add c) with place := m.place + 1 } acc hs hb (by simp [MS.add, hw]) (by show m.place + 1 = k + 1; omega) ho
      cases e : lq r q b rest (k + 1) (f ++ [c]) with
      | error x => rw [e] at ih; exact ih
      | ok z =>
        obtain ⟨g, e2⟩ := z
        rw [e] at ih
        have bd := lq_bd r q b rest (k + 1) (f ++ [c])
        rw [e] at bd
        dsimp only at ih bd ⊢
        rw [show e2 - k = (e2 - (k + 1)) + 1 by omega]
        exact ih
termination_by rest => rest.length
theorem bend_mem {r : RS} (hb1 : r.bend.length ≤ 1) {c : Nat} : c ∈ r.bend ↔ r.bend = [c] := by
  constructor
  · intro h
    match hbn : r.bend, h, hb1 with
    | [x], h, _ => rw [List.mem_singleton.mp h]
  · intro h; rw [h]; exact List.mem_singleton.mpr rfl
theorem begin_some {m : MS} {w : Tx} (h : m.word = some w) : m.begin = m := by
  unfold MS.begin
  rw [h]
theorem fin_lw (r : RS) (hb1 : r.bend.length ≤ 1) (t : Tx) : ∀ (n k : Nat) (f : Tx) (m : MS) (acc : List W3), m.state = [] → m.bent = false → m.word = some f → m.place = k → k ≤ t.length → t.length ≤ n + k →
    match lw r t n k f with
    | .error b => fin r m (t.drop k) acc = .error b
    | .ok (g, e) => (t[e]? = none ∨ ∃ c, t[e]? = some c ∧ c ∈ r.breaks ++ r.note) ∧ ∃ o, fin r m (t.drop k) acc = fin r { m with word := some g, place := e, opened := o } (t.drop e) acc
  | 0, k, f, m, acc, hs, hb, hw, hp, hk, hn => by
    simp only [lw]
    refine ⟨.inl (List.getElem?_eq_none_iff.mpr (by omega)), m.opened, ?_⟩
    rw [← hw, ← hp]
  | n + 1, k, f, m, acc, hs, hb, hw, hp, hk, hn => by
    have stay : ∃ o, fin r m (t.drop k) acc = fin r { m with word := some f, place := k, opened := o } (t.drop k) acc := ⟨m.opened, by rw [← hw, ← hp]⟩
    cases hc : t[k]? with
    | none =>
      simp only [lw, hc]
      exact ⟨.inl trivial, stay⟩
    | some c =>
      have hk' : k < t.length := (List.getElem?_eq_some_iff.mp hc).1
      by_cases c1 : c ∈ r.breaks ++ r.note
      · simp only [lw, hc, if_pos c1]
        exact ⟨.inr ⟨c, rfl, c1⟩, stay⟩
      have c1' : ¬ c ∈ r.breaks ∧ ¬ c ∈ r.note := ⟨fun h => c1 (List.mem_append_left _ h), fun h => c1 (List.mem_append_right _ h)⟩
      have bg := begin_some hw
      rw [drop_at hc, fin_step, step_plain hs hb]
      by_cases c2 : c ∈ r.hard ++ r.soft
      · have pl : m.plain r c = ({ m with state := [c], opened := m.place }, []) := by
          unfold MS.plain
          rw [if_neg c1'.1, if_neg c1'.2, if_pos (show c ∈ r.quotes from c2), bg]
        rw [pl]
        simp only [lw, hc, if_neg c1, if_pos c2, List.append_nil]
        have q := fin_lq r hb1 c k (t.drop (k + 1)) (k + 1) [] f { m with state := [c], opened := m.place, place := m.place + 1 } acc rfl hb (by simp [hw]) (by show m.place + 1 = k + 1; omega) hp
        have bd := lq_bd r c k (t.drop (k + 1)) (k + 1) []
        cases e : lq r c k (t.drop (k + 1)) (k + 1) [] with
        | error b =>
          rw [e] at q bd
          dsimp only at q bd ⊢
          rw [bd]
          exact q
        | ok z =>
          obtain ⟨g, e2⟩ := z
          rw [e] at q bd
          rw [List.length_drop] at bd
          dsimp only at q bd ⊢
          rw [List.drop_drop, show k + 1 + (e2 - (k + 1)) = e2 by omega] at q
          have ih := fin_lw r hb1 t n e2 (f ++ g) { m with state := [], opened := m.place, word := some (f ++ g), place := e2 } acc rfl hb rfl rfl (by omega) (by omega)
          cases e3 : lw r t n e2 (f ++ g) with
          | error b =>
            rw [e3] at ih
            exact Eq.trans q ih
          | ok z =>
            obtain ⟨g3, e4⟩ := z
            rw [e3] at ih
            obtain ⟨i1, o, i2⟩ := ih
            refine ⟨i1, o, Eq.trans q (Eq.trans i2 ?_)⟩
            rw [← hs]
      have c2' : ¬ c ∈ r.quotes := c2
      by_cases c3 : r.bend = [c]
      · have pl : m.plain r c = ({ m with bent := true, opened := m.place }, []) := by
          unfold MS.plain
          rw [if_neg c1'.1, if_neg c1'.2, if_neg c2', if_pos ((bend_mem hb1).mpr c3), bg]
        rw [pl]
        simp only [lw, hc, if_neg c1, if_neg c2, if_pos c3, List.append_nil]
        cases hd : t[k + 1]? with
        | none =>
          have e0 : t.drop (k + 1) = [] := drop_end hd
          rw [e0]
          have : ({ m with bent := true, opened := m.place, place := m.place + 1 } : MS).fault = some k := by
            unfold MS.fault
            rw [if_pos (.inl rfl)]
            exact congrArg some hp
          simp [fin, MS.run, this]
        | some d =>
          have hk2 : k + 1 < t.length := (List.getElem?_eq_some_iff.mp hd).1
          rw [drop_at hd, fin_step, step_bent (m := { m with bent := true, opened := m.place, place := m.place + 1 }) (by show m.state ≠ NT; rw [hs]; exact nil_NT) rfl, List.append_nil]
          have ih := fin_lw r hb1 t n (k + 2) (f ++ [d]) { (({ m with bent := false, opened := m.place, place := m.place + 1 } : MS).add d) with place := m.place + 1 + 1 } acc hs rfl (by simp [MS.add, hw]) (by show m.place + 1 + 1 = k + 2; omega) (by omega) (by omega)
          dsimp only
          cases e3 : lw r t n (k + 2) (f ++ [d]) with
          | error b =>
            rw [e3] at ih
            exact ih
          | ok z =>
            obtain ⟨g3, e4⟩ := z
            rw [e3] at ih
            obtain ⟨i1, o, i2⟩ := ih
            refine ⟨i1, o, Eq.trans i2 ?_⟩
            rw [hb]
            rfl
      · have pl : m.plain r c = (m.add c, []) := by
          unfold MS.plain
          rw [if_neg c1'.1, if_neg c1'.2, if_neg c2', if_neg (fun h => c3 ((bend_mem hb1).mp h)), bg]
        rw [pl]
        simp only [lw, hc, if_neg c1, if_neg c2, if_neg c3, List.append_nil]
        have ih := fin_lw r hb1 t n (k + 1) (f ++ [c]) { (m.add c) with place := m.place + 1 } acc hs hb (by simp [MS.add, hw]) (by show m.place + 1 = k + 1; omega) (by omega) (by omega)
        cases e3 : lw r t n (k + 1) (f ++ [c]) with
        | error b =>
          rw [e3] at ih
          exact ih
        | ok z =>
          obtain ⟨g3, e4⟩ := z
          rw [e3] at ih
          obtain ⟨i1, o, i2⟩ := ih
          exact ⟨i1, o, i2⟩
theorem fin_note (r : RS) : ∀ (rest : Tx) (m : MS) (acc : List W3), m.state = NT → m.bent = false → fin r m rest acc = fin r { m with place := m.place + nlk rest } (rest.drop (nlk rest)) acc
  | [], m, acc, _, _ => rfl
  | c :: rest, m, acc, hs, hb => by
    by_cases h : c = LE
    · simp only [nlk, if_pos h]
      rfl
    · have st : m.step r c = ({ m with place := m.place + 1 }, []) := by
        unfold MS.step
        rw [if_neg (fun z => h z.2)]
        simp only [hb, Bool.false_eq_true, if_false, hs, NT_nil, if_true]
      rw [fin_step, st, List.append_nil]
      simp only [nlk, if_neg h]
      have ih := fin_note r rest { m with place := m.place + 1 } acc hs hb
      rw [ih]
      show fin r { m with place := m.place + 1 + nlk rest } _ acc = fin r { m with place := m.place + (nlk rest + 1) } _ acc
      rw [show m.place + 1 + nlk rest = m.place + (nlk rest + 1) by omega]
      rfl
theorem step_begin {r : RS} {m : MS} {c : Nat} (hs : m.state = []) (hb : m.bent = false) (h1 : ¬ c ∈ r.breaks) (h2 : ¬ c ∈ r.note) : m.step r c = m.begin.step r c := by
  have bs : m.begin.state = [] := by unfold MS.begin; split <;> exact hs
  have bb : m.begin.bent = false := by unfold MS.begin; split <;> exact hb
  have bw : ∃ w, m.begin.word = some w := by
    unfold MS.begin
    cases h : m.word with
    | none => exact ⟨[], rfl⟩
    | some w => exact ⟨w, h⟩
  obtain ⟨w, bw⟩ := bw
  have b2 : m.begin.begin = m.begin := begin_some bw
  rw [step_plain hs hb, step_plain bs bb, MS.place_begin]
  have : m.begin.plain r c = m.plain r c := by
    unfold MS.plain
    rw [if_neg h1, if_neg h2, if_neg h1, if_neg h2, b2]
  rw [this]
theorem fin_lr (r : RS) (ok : r.Ok) (t : Tx) : ∀ (n k : Nat) (acc acc0 : List W3) (m : MS), m.state = [] → m.bent = false → m.place = k → k ≤ t.length → t.length < n + k → acc = acc0 ++ m.out →
    (m.word = none ∨ t[k]? = none ∨ ∃ c, t[k]? = some c ∧ c ∈ r.breaks ++ r.note) → fin r m (t.drop k) acc0 = lr r t n k acc
  | 0, k, acc, acc0, m, _, _, _, hk, hn, _, _ => by omega
  | n + 1, k, acc, acc0, m, hs, hb, hp, hk, hn, ha, hw => by
    have hb1 := ok.l4
    have fault0 : ∀ m' : MS, m'.bent = false → (m'.state = [] ∨ m'.state = NT) → m'.fault = none := fun m' h1 h2 => by
      unfold MS.fault
      rw [if_neg]
      rintro (h | h)
      · rw [h1] at h; cases h
      · exact h2.elim h.1 h.2
    have stop : ∀ (m' : MS) acc', m'.bent = false → (m'.state = [] ∨ m'.state = NT) → fin r m' [] acc' = .ok (acc' ++ m'.out) := fun m' acc' h1 h2 => by
      simp [fin, MS.run, fault0 m' h1 h2]
    cases hc : t[k]? with
    | none =>
      simp only [lr, hc]
      rw [drop_end hc, stop m acc0 hb (.inl hs), ha]
    | some c =>
      have hk' : k < t.length := (List.getElem?_eq_some_iff.mp hc).1
      -- a sign that is not the note's
      have go : ∀ (k1 : Nat) (m : MS) (acc0 : List W3) (c' : Nat), k ≤ k1 → m.state = [] → m.bent = false → m.place = k1 → t[k1]? = some c' → acc = acc0 ++ m.out → (m.word = none ∨ c' ∈ r.breaks ++ r.note) → (c' ∈ r.note → k < k1) →
          fin r m (t.drop k1) acc0 = (if c' ∈ r.breaks then lr r t n (k1 + 1) acc else if c' ∈ r.note then lr r t n k1 acc else match lw r t t.length k1 [] with
            | .error b => .error b
            | .ok (w, e) => lr r t n e (acc ++ [(w, k1, e)])) := fun k1 m acc0 c' hkk hs hb hp hc' ha hw hnn => by
        have hk1 : k1 < t.length := (List.getElem?_eq_some_iff.mp hc').1
        by_cases d1 : c' ∈ r.breaks
        · rw [if_pos d1, drop_at hc', fin_step, step_plain hs hb]
          have pl : m.plain r c' = (m.drop, m.out) := by
            unfold MS.plain
            rw [if_pos d1]
          rw [pl]
          exact fin_lr r ok t n (k1 + 1) acc (acc0 ++ m.out) { m.drop with place := m.place + 1 } hs hb (by show m.place + 1 = _; omega) (by omega) (by omega) (by rw [ha]; simp [MS.out, MS.drop]) (.inl rfl)
        rw [if_neg d1]
        by_cases d2 : c' ∈ r.note
        · rw [if_pos d2]
          have := hnn d2
          exact fin_lr r ok t n k1 acc acc0 m hs hb hp (by omega) (by omega) ha (.inr (.inr ⟨c', hc', List.mem_append_right _ d2⟩))
        rw [if_neg d2]
        have d3 : c' ∉ r.breaks ++ r.note := fun h => (List.mem_append.mp h).elim d1 d2
        have w0 : m.word = none := hw.elim id fun h => absurd h d3
        have out0 : m.out = [] := by unfold MS.out; rw [w0]
        rw [out0, List.append_nil] at ha
        have bg : m.begin = { m with word := some [], begun := m.place } := by
          unfold MS.begin
          rw [w0]
        have e0 : fin r m (t.drop k1) acc0 = fin r m.begin (t.drop k1) acc0 := by
          rw [drop_at hc', fin_step, fin_step, step_begin hs hb d1 d2]
        rw [e0, bg]
        have q := fin_lw r hb1 t t.length k1 [] { m with word := some [], begun := m.place } acc0 hs hb rfl hp (by omega) (by omega)
        cases e : lw r t t.length k1 [] with
        | error b =>
          rw [e] at q
          exact q
        | ok z =>
          obtain ⟨g, e2⟩ := z
          rw [e] at q
          obtain ⟨q1, o, q2⟩ := q
          have bd := lw_bd r t t.length k1 [] (by omega)
          rw [e] at bd
          have ps : k1 + 1 ≤ e2 := by
            obtain ⟨n', hn'⟩ : ∃ n', t.length = n' + 1 := ⟨t.length - 1, by omega⟩
            rw [hn'] at e
            exact lw_pos hc' d3 e
          dsimp only at bd ⊢
          refine Eq.trans q2 ?_
          exact fin_lr r ok t n e2 (acc ++ [(g, k1, e2)]) acc0 { m with word := some g, begun := m.place, place := e2, opened := o } hs hb rfl (by omega) (by omega) (by rw [ha]; simp [MS.out, hp]) (.inr q1)
      by_cases hnote : r.note = [c]
      · have cn : c ∈ r.note := by rw [hnote]; exact List.mem_singleton.mpr rfl
        have cb : ¬ c ∈ r.breaks := fun h => by
          have nd := ok.nd
          simp only [RS.every] at nd
          exact (List.nodup_append.mp nd).2.2 c h c (by simp [cn]) rfl
        have pl : m.plain r c = ({ m.drop with state := NT }, m.out) := by
          unfold MS.plain
          rw [if_neg cb, if_pos cn]
        simp only [lr, hc, if_pos hnote]
        rw [drop_at hc, fin_step, step_plain hs hb, pl]
        dsimp only
        rw [← ha]
        rw [fin_note r (t.drop (k + 1)) { m.drop with state := NT, place := m.place + 1 } acc rfl hb]
        have ns := nlAt_spec (t := t) (i := k + 1) (by omega)
        have ed : (t.drop (k + 1)).drop (nlk (t.drop (k + 1))) = t.drop (nlAt t (k + 1)) := by rw [List.drop_drop]; rfl
        have ep : m.place + 1 + nlk (t.drop (k + 1)) = nlAt t (k + 1) := by rw [hp]; rfl
        rw [ed]
        show fin r { m.drop with state := NT, place := m.place + 1 + nlk (t.drop (k + 1)) } _ acc = _
        rw [ep]
        generalize nlAt t (k + 1) = k1 at *
        cases hc' : t[k1]? with
        | none =>
          dsimp only
          rw [drop_end hc']
          refine Eq.trans (stop { m.drop with state := NT, place := k1 } acc hb (.inr rfl)) ?_
          simp [MS.out, MS.drop]
        | some c' =>
          have hk1 : k1 < t.length := (List.getElem?_eq_some_iff.mp hc').1
          have cl : c' = LE := by
            have := ns.2.2.2 hk1
            rw [hc'] at this
            exact Option.some.inj this
          have e1 : fin r { m.drop with state := NT, place := k1 } (t.drop k1) acc = fin r { m.drop with state := [], place := k1 } (t.drop k1) acc := by
            rw [drop_at hc', fin_step, fin_step]
            have : ({ m.drop with state := NT, place := k1 } : MS).step r c' = ({ m.drop with state := [], place := k1 } : MS).step r c' := by
              rw [step_plain (m := { m.drop with state := [], place := k1 }) rfl hb]
              unfold MS.step
              rw [if_pos ⟨rfl, cl⟩]
              have hb' : ({ m.drop with state := NT, place := k1 } : MS).bent = false := hb
              have hb'' : m.drop.bent = false := hb
              simp only [hb'', Bool.false_eq_true, if_false, if_true]
              rw [MS.place_plain]
            rw [this]
          rw [e1]
          exact go k1 { m.drop with state := [], place := k1 } acc c' (by omega) rfl hb rfl hc' (by simp [MS.out, MS.drop]) (.inl rfl) (fun _ => by omega)
      · simp only [lr, hc, if_neg hnote]
        have cn : ¬ c ∈ r.note := fun h => hnote (by
          have l5 := ok.l5
          match hnn : r.note, h, l5 with
          | [x], h, _ => rw [List.mem_singleton.mp h])
        refine go k m acc0 c (Nat.le_refl _) hs hb hp hc ha ?_ (fun h => absurd h cn)
        rcases hw with h | h | ⟨c', h, h2⟩
        · exact .inl h
        · rw [hc] at h; cases h
        · rw [hc] at h; cases h; exact .inr h2
theorem readAll_lr {r : RS} (ok : r.Ok) (t : Tx) (rp : Addr) : readAll r t rp = lr r t (t.length + 1) 0 [] := by
  have := fin_lr r ok t (t.length + 1) 0 [] [] (MS.zero rp) rfl rfl rfl (Nat.zero_le _) (by omega) rfl (.inl rfl)
  rw [List.drop_zero] at this
  rw [← this]
  unfold readAll fin
  split <;> simp_all
end Qw

set_option Elab.async false
set_option linter.all false
set_option maxRecDepth 100000
set_option maxHeartbeats 4000000
namespace Qw
open PySem L2
section
variable {X : Cx}
/-! ### list(text) -/
def rListStr : List V → Hp → VK → Prop := fun xs H Q => ∃ l : Tx, xs = [.str (S l)] ∧ l.length ≤ 100000 ∧ ∀ p, H p = none → Q (.ref p) (upd H p (.lst (l.map fun c => .str (S [c]))))
theorem call_list_str (hc : X.calm = true) : CallR X (.type "list") rListStr := by
  rintro pins s σ H xs us Q I r ⟨l, rfl, hl, q⟩
  obtain ⟨u, rfl, t, rfl⟩ := vals1 r
  have hz : (S l).cps.size ≤ sizeLine := by rw [S_size]; exact Nat.le_trans hl (by decide)
  refine PySem.call_list_str (hn := hz) (I.ok.hd hc) (S l) t fun h' tk acc c' hk hS hi => ?_
  have hv : Vals (l.map fun c => V.str (S [c])) acc.toList := by
    refine vals_of_at ?_ fun j x u h1 h2 => ?_
    · rw [List.length_map, ← S_size l]; exact hi.1.symm
    · rw [Array.getElem?_toList] at h2
      obtain ⟨c, t', e1, e2⟩ := hi.2 j u h2
      rw [List.getElem?_map] at h1
      have e3 : l[j]? = some c := by simpa [S] using e1
      rw [e3] at h1
      cases h1
      exact ⟨t', e2⟩
  refine ⟨.ref s.heap.objs.size, _, I.laid (t' := tk) (o := .lst (l.map fun c => V.str (S [c]))) hk (Nat.le_refl _) ⟨?_, acc.toList, c', hv, by simpa using hS⟩, rfl, q _ (I.hok.fresh (Nat.le_refl _))⟩
  rw [List.length_map]; rw [S_size] at hz; exact hz
/-! ### text * number -/
def rMulS : R2 := fun x y H Q => ∃ (l : Tx) (n : Nat), x = .str (S l) ∧ y = .int n ∧ n < 1000 ∧ l.length < 1000 ∧ Q (.str (S (List.replicate n l).flatten)) H
theorem foldl_cat (l : Tx) : ∀ (n : Nat) (acc : Array Nat), (List.replicate n (S l).cps).foldl (· ++ ·) acc = acc ++ ((List.replicate n l).flatten).toArray
  | 0, acc => by simp
  | n + 1, acc => by
    rw [List.replicate_succ, List.foldl_cons, foldl_cat l n, List.replicate_succ, List.flatten_cons]
    simp [S]
theorem op_mul_str : OpR X (binaryOp .Mult) rMulS := by
  rintro pins s σ H x y v u Q I rx ry ⟨l, n, rfl, rfl, hn, hl, q⟩
  obtain ⟨t, rfl⟩ := rx
  obtain ⟨t', rfl⟩ := ry
  have hS : (S l).length = l.length := S_len l
  have big : l.length * n ≤ 1000 * 1000 := Nat.mul_le_mul (Nat.le_of_lt hl) (Nat.le_of_lt hn)
  refine P.mul_str ?_ (fun h1 _ => ?_) (fun h1 _ => ?_) ?_
  · have a1 : ¬ ((n : Int) < -(2 ^ 63)) := by omega
    have a2 : ¬ ((n : Int) ≥ 2 ^ 63) := by omega
    rw [decide_eq_false a1, decide_eq_false a2]; rfl
  · rw [hS]
    have h2 : (0 : Int) < n := by omega
    intro z
    have z' : (2 ^ 63 - 1 : Int) / n < l.length := z
    have := (Int.ediv_lt_iff_lt_mul h2).mp z'
    have e : ((l.length : Nat) : Int) * n = ((l.length * n : Nat) : Int) := by push_cast; rfl
    rw [e] at this
    omega
  · rw [hS, Int.toNat_natCast]
    exact decide_eq_false (Nat.not_lt.mpr (Nat.le_trans big (by decide)))
  · have er : ((List.replicate n (S l).cps).foldl (· ++ ·) #[]) = ((List.replicate n l).flatten).toArray := by rw [foldl_cat]; simp
    have el : ((List.replicate n l).flatten).length = n * l.length := by simp
    split
    · have : n = 0 := by omega
      subst this
      exact ⟨Nat.zero_le _, .str (S []), H, I.tok _, ⟨_, rfl⟩, q⟩
    split
    · rename_i h1 h2
      have : n = 1 ∨ l = [] := by
        rcases Bool.or_eq_true _ _ ▸ h2 with h | h
        · left
          have := beq_iff_eq.mp h
          omega
        · right
          have := beq_iff_eq.mp h
          rw [hS] at this
          exact List.length_eq_zero_iff.mp this
      refine ⟨.str (S l), H, I, ⟨_, rfl⟩, ?_⟩
      have e : (List.replicate n l).flatten = l := by
        rcases this with h | h
        · subst h; simp
        · subst h; simp
      rw [e] at q
      exact q
    · rw [Int.toNat_natCast, er]
      refine ⟨?_, .str (S _), H, I.tok _, ⟨_, rfl⟩, q⟩
      show (S _).length ≤ _
      rw [S_len, el, Nat.mul_comm]
      exact Nat.le_trans big (by decide)
/-! ### list.count(True), of truths -/
def rCntB (K : PySem.W.Frag) : V → List V → Hp → VK → Prop := fun x xs H Q => ∃ (p : Addr) (bs : List Bool) (k : Bool), x = .ref p ∧ xs = [.bl k] ∧ SqL K H p (bs.map V.bl) ∧ Q (.int (bs.count k : Nat)) H
def isB (k : Bool) : Value → Bool
  | .bool b => b == k
  | _ => false
theorem mt_lcountB : MtR X "list.count" (rCntB X.K) := by
  rintro pins s σ H x xs v us Q I rx rxs ⟨p, bs, k, rfl, rfl, hs, q⟩
  cases rx
  obtain ⟨u, rfl, ru⟩ := rxs.one
  cases ru
  obtain ⟨its, rv, ⟨⟨cls, dd, data, sl⟩, n, ho, hc, hdn, hd⟩, hlen⟩ := I.list hs
  simp only at hc hd
  subst hc hd
  have bool_at : ∀ {bs : List Bool} {its : List Value}, Vals (bs.map V.bl) its → its.countP (isB k) = bs.count k ∧ ∀ y ∈ its, ∃ b, y = .bool b := by
    intro bs
    induction bs with
    | nil => intro its r; cases r; exact ⟨rfl, fun y hy => by cases hy⟩
    | cons b bs ih =>
      intro its r
      cases r with
      | cons r t =>
        cases r
        obtain ⟨h1, h2⟩ := ih t
        refine ⟨?_, fun y hy => ?_⟩
        · rw [List.countP_cons, List.count_cons, h1]; rfl
        · rcases List.mem_cons.mp hy with e | e
          · exact ⟨b, e⟩
          · exact h2 y e
  obtain ⟨ec, hb⟩ := bool_at rv
  refine call_meets PySem.F.slot_list_count ⟨_, ho, rfl⟩ PySem.F.entry_list_count (PySem.F.args_list_count_2 _ _)
    (SeqAt.list_countAt p its.toArray n dd sl (.bool k) (isB k)) ⟨ho, fun y hy => ?_, ?_⟩
  · obtain ⟨b, rfl⟩ := hb y (by simpa using hy)
    have := eqAt_V (A := X.A.in1) (s := s) (y := .bl b) (x := .bl k) (u := .bool b) (v := .bool k) rfl rfl rfl rfl
    exact this
  · refine ⟨.int (bs.count k : Nat), H, I.tok _, ⟨s.toks, ?_⟩, q⟩
    show Value.int ((its.toArray.toList.countP (isB k) : Nat) : Int) s.toks = Value.int ((bs.count k : Nat) : Int) s.toks
    rw [show its.toArray.toList = its from rfl, ec]
/-! ### text[::-1] -/
def tRevS (te : TE) : TE := fun σ H Q => te σ H fun x H1 => ∃ l : Tx, x = .str (S l) ∧ l.length ≤ 100000 ∧ Q (.str (S l.reverse)) H1
theorem rev_indices (n : Nat) : Builtin.Str.strSliceIndices none none (-1) n = (List.range n).reverse := by
  have h : Builtin.Str.strSliceIndices none none (-1) n = sliceRange ((n : Int) - 1) (-1) (-1) := rfl
  rw [h, PySem.W.krv_sliceRange, PySem.W.krv_range]
theorem pe_revS {e : Expr} {te : TE} {k : Nat} {p1 p2 p3 pos : Pos} (he : PE X e te) : PE X (.Subscript e (.Slice none none (some (.UnaryOp .USub (.Constant (.int 1) k p1) p2)) p3) pos) (tRevS te) := by
  refine ⟨fun pins s σ H Q I h => ?_⟩
  refine PyProof.Rows.Subscript_ (thn (he.run pins s σ H _ I h) fun v s1 hv => ?_)
  obtain ⟨x, H1, I1, r1, l, rfl, hl, q⟩ := hv
  obtain ⟨t, rfl⟩ := r1
  have third : PO X (some (.UnaryOp .USub (.Constant (.int 1) k p1) p2)) (tPart (tUn (rU fun i => .int (-i)) (tC (.int 1)))) := po_some (pe_un un_neg pe_int)
  refine wpAny_Slice (thn (po_none.run pins s1 σ H1 (fun o Hx => o = none ∧ Hx = H1) I1 ⟨rfl, rfl⟩) fun a1 s2 h2 => ?_)
  obtain ⟨o2, H2, I2, p2', rfl, rfl⟩ := h2
  cases p2'
  refine thn (po_none.run pins s2 σ H2 (fun o Hx => o = none ∧ Hx = H2) I2 ⟨rfl, rfl⟩) fun a2 s3 h3 => ?_
  obtain ⟨o3, H3, I3, p3', rfl, rfl⟩ := h3
  cases p3'
  refine thn (third.run pins s3 σ H3 (fun o Hx => o = some (-1) ∧ Hx = H3) I3 ⟨1, rfl, -1, rfl, rfl, rfl⟩) fun a3 s4 h4 => ?_
  obtain ⟨o4, H4, I4, p4', rfl, rfl⟩ := h4
  obtain ⟨t4, rfl⟩ : ∃ t4, a3 = .int (-1) t4 := by cases p4' with | int i t => exact ⟨t, rfl⟩
  have I5 : L2.Inv X pins σ H4 { s4 with heap := s4.heap.push { cls := .type "slice", data := .fields #[.none, .none, .int (-1) t4] } } := I4.kept (t' := s4.toks) fun b ob z => Heap.get?_push_of_some _ z
  refine PyProof.Rows.tail_any (ops := [.str (S l) t, .ref s4.heap.objs.size]) (typeIs_str _ _ _) (PySem.F.slot_str_getitem.lookup) ?_ (by with_unfolding_all rfl)
  refine wpAny_getItem_str_slice (l := none) (u := none) (st := some (-1, t4)) ⟨_, Heap.get?_push_size _ rfl, rfl, rfl⟩ (show ((-1 : Int) == 0) = false by decide) ?_
  have e1 : slicePicked (S l) none none (some (-1, t4)) = (List.range l.length).reverse := by
    show Builtin.Str.strSliceIndices none none (-1) (S l).length = _
    rw [S_len, rev_indices]
  have e2 : ((List.range l.length).reverse.filterMap ((S l).cps[·]?)) = l.reverse := by
    rw [List.filterMap_reverse]
    have := PySem.W.krv_all (S l).cps
    rw [S_size] at this
    rw [this]
    rfl
  unfold sliceMade
  split
  · rename_i hc
    have hc' : ((-1 : Int) == 1 && (slicePicked (S l) none none (some (-1, t4))).length == (S l).length) = true := hc
    rw [show ((-1 : Int) == 1) = false by decide, Bool.false_and] at hc'
    cases hc'
  rw [e1, e2]
  refine ⟨?_, .str (S l.reverse), H4, I5.tok _, ⟨_, rfl⟩, q⟩
  show (S l.reverse).length ≤ _
  rw [S_len, List.length_reverse]
  exact Nat.le_trans hl (by decide)
/-! ### zip(list, tuple) -/
theorem nn {x y : Nat} (h : x ≠ y) : (x : Addr) ≠ y := h
theorem sep_nat (n a b : Nat) (la : a < n) (lb : b < n) : ZipSep2 (n + 4) (n + 2) (n + 3) n (n + 1) [n, a] [n + 1, b] := by
  have nl : ∀ (x y z : Nat), x ≠ y → x ≠ z → x ∉ [y, z] := fun x y z h1 h2 h => by
    rcases List.mem_cons.mp h with e | e
    · exact h1 e
    · exact h2 (List.mem_singleton.mp e)
  exact ⟨nn (by omega), nn (by omega), nn (by omega), nn (by omega), List.mem_cons_self .., nl _ _ _ (by omega) (by omega), nl _ _ _ (by omega) (by omega), nn (by omega), List.mem_cons_self .., nl _ _ _ (by omega) (by omega), nl _ _ _ (by omega) (by omega), nl _ _ _ (by omega) (by omega), nl _ _ _ (by omega) (by omega)⟩
theorem back : ∀ {xs : List V} {us : List Value} {i : Nat} {u : Value}, Vals xs us → us[i]? = some u → ∃ x, xs[i]? = some x ∧ RelV x u
  | _, _, _, _, .nil, e => by simp at e
  | _, _, 0, _, .cons r _, e => by simp at e; subst e; exact ⟨_, rfl, r⟩
  | _, _, i + 1, u, .cons _ t, e => by
    obtain ⟨x, h1, h2⟩ := back (i := i) (u := u) t (by simpa using e)
    exact ⟨x, by simpa using h1, h2⟩
/-- the list at a and the tuple at b as they stand at each turn, the items in new pairs -/
def ItzLT (K : PySem.W.Frag) (a b : Addr) : It :=
  ⟨fun i H => ∃ (xs ys : List V), SqL K H a xs ∧ SqT K H b ys ∧ i < min xs.length ys.length,
    fun i H v H' => ∃ T x y, v = .ref T ∧ H T = none ∧ H' = upd H T (.tup [x, y]) ∧ (∀ xs, SqL K H a xs → xs[i]? = some x) ∧ ∀ ys, SqT K H b ys → ys[i]? = some y,
    fun i H => ∃ xs ys : List V, SqL K H a xs ∧ SqT K H b ys ∧ i = min xs.length ys.length⟩
def ZiSt (a b z TI TO i1 i2 : Addr) (i : Nat) (h : Heap) : Prop :=
  IsZip h z TI TO .none ∧ IsTupOf2 h TI (.ref i1) (.ref i2) ∧ (∃ a1 a2, IsTupOf2 h TO a1 a2) ∧ h.IsListIter i1 a i ∧ h.IsTupleIter i2 b i
theorem in5 {c z TI TO i1 i2 : Addr} : c ∈ [z, TI, TO, i1, i2] ↔ c = z ∨ c = TI ∨ c = TO ∨ c = i1 ∨ c = i2 := by simp
theorem turn_zipLT {P : Program} {w : World} {K : PySem.W.Frag} {elts : List Expr} {kk : Nat} {tpos : Pos} {a b z TI TO i1 i2 : Addr} (D : ZipSep2 z TI TO i1 i2 [i1, a] [i2, b]) (na : a ≠ i1) (nb : b ≠ i2) :
    Turn P w K (.Tuple elts kk tpos) (ItzLT K a b) [z, TI, TO, i1, i2] z (ZiSt a b z TI TO i1 i2) where
  mem := in5.mpr (.inl rfl)
  obj := fun i h st c hc => by
    obtain ⟨h1, h2, ⟨x, y, h3⟩, ⟨o1, e1, _, d1⟩, ⟨o2, e2, _, d2⟩⟩ := st
    rcases in5.mp hc with q | q | q | q | q <;> subst q
    · exact ⟨_, h1, nofun⟩
    · exact ⟨_, h2, nofun⟩
    · exact ⟨_, h3, nofun⟩
    · exact ⟨o1, e1, fun v q => by rw [d1] at q; cases q⟩
    · exact ⟨o2, e2, fun v q => by rw [d2] at q; cases q⟩
  keep := fun i h h' st k => by
    obtain ⟨h1, h2, ⟨x, y, h3⟩, h4, h5⟩ := st
    exact ⟨k z (by simp) _ h1, k TI (by simp) _ h2, ⟨x, y, k TO (by simp) _ h3⟩, h4.at fun o q => k i1 (by simp) o q, h5.at fun o q => k i2 (by simp) o q⟩
  item := by
    intro X hP hw hK hc i pins s σ H E I hf st hg
    subst hP hw hK
    obtain ⟨xs, ys, hqx, hqy, hi⟩ := hg
    obtain ⟨its, rv, p, _⟩ := I.list hqx
    obtain ⟨its2, rv2, p2, _⟩ := I.tuple hqy
    have hh : X.A.in1.handled = none := I.ok.hd hc
    have W := WalksT.zipD2 (prog := X.prog) (w := X.w) D (Draws.list hh i1 a na its.toArray) (Draws.tuple hh i2 b nb its2.toArray)
    obtain ⟨h1, h2, h3, h4, h5⟩ := st
    have l1 := rv.length
    have l2 := rv2.length
    refine W.item i s _ _ (by simp only [List.size_toArray]; omega) ⟨h1, h2, h3, ⟨h4, p.isList⟩, ⟨h5, p2⟩⟩ fun T vals h' tk hv hT tup mid kk' => ⟨_, rfl, ?_⟩
    obtain ⟨x1, x2, y1, y2, rfl⟩ := hv
    have nT : T ∉ [z, TO, i1, i2] := W.apart _ _ _ mid
    refine W.go elts kk tpos i T { s with heap := h', toks := tk } _ _ mid fun h'' st'' k2 => ?_
    have tup2 : PyProof.Rows.IsTup h'' T #[x1, x2] := by
      obtain ⟨o, ho, r⟩ := tup
      exact ⟨o, k2 _ _ nT ho, r⟩
    have g1 : its[i]? = some x1 := by simpa using y1
    have g2 : its2[i]? = some x2 := by simpa using y2
    obtain ⟨v1, e1, r1⟩ := back rv g1
    obtain ⟨v2, e2, r2⟩ := back rv2 g2
    have new : ObjOk X.prog X.w (upd H T (.tup [v1, v2])) h'' T (.tup [v1, v2]) := ⟨by show 2 ≤ sizeLine; decide, [x1, x2], .cons r1 (.cons r2 .nil), tup2⟩
    have sub5 : ∀ c, c ∈ [z, TO, i1, i2] → c ∈ [z, TI, TO, i1, i2] := fun c hc => by
      have : c = z ∨ c = TO ∨ c = i1 ∨ c = i2 := by simpa using hc
      rcases this with q | q | q | q <;> subst q <;> simp
    have I1 : L2.Inv X pins σ (upd H T (.tup [v1, v2])) { s with heap := h'', toks := tk } := I.turnedNew (t' := tk) (ch := [z, TI, TO, i1, i2])
      (fun c o hb q => k2 c o (fun h => hb (sub5 c h)) (kk' c o (fun h => hb (sub5 c h)) q)) hf hT new
    obtain ⟨a1, a2, a3, a4, a5⟩ := st''
    refine ⟨.ref T, _, I1, rfl, ⟨T, v1, v2, rfl, I.hok.fresh hT, rfl, fun l hl => by rw [I.list_inj hl hqx]; exact e1, fun l hl => by rw [I.tuple_inj hl hqy]; exact e2⟩, ⟨a1, a2, a3, a4.1, a5.1⟩, fun c hcm => ?_⟩
    have hlt : c < s.heap.objs.size := by
      obtain ⟨x0, y0, h3⟩ := h3
      rcases in5.mp hcm with q | q | q | q | q <;> subst q
      · exact Heap.lt_size h1
      · exact Heap.lt_size h2
      · exact Heap.lt_size h3
      · obtain ⟨_, e, _⟩ := h4; exact Heap.lt_size e
      · obtain ⟨_, e, _⟩ := h5; exact Heap.lt_size e
    rw [upd_ne (Nat.ne_of_lt (Nat.lt_of_lt_of_le hlt hT))]
    exact (hf c hcm).1
  done := by
    intro X hP hw hK hc i pins s σ H E I hf st hg
    subst hP hw hK
    obtain ⟨xs, ys, hqx, hqy, hi⟩ := hg
    obtain ⟨its, rv, p, _⟩ := I.list hqx
    obtain ⟨its2, rv2, p2, _⟩ := I.tuple hqy
    have hh : X.A.in1.handled = none := I.ok.hd hc
    have W := WalksT.zipD2 (prog := X.prog) (w := X.w) D (Draws.list hh i1 a na its.toArray) (Draws.tuple hh i2 b nb its2.toArray)
    obtain ⟨h1, h2, h3, h4, h5⟩ := st
    have l1 := rv.length
    have l2 := rv2.length
    have hi' : i = min its.toArray.size its2.toArray.size := by simp only [List.size_toArray]; omega
    subst hi'
    refine W.done s _ _ ⟨h1, h2, h3, ⟨h4, p.isList⟩, ⟨h5, p2⟩⟩ fun h' tk k => ⟨rfl, I.turnedL (t' := tk) (ch := [z, TI, TO, i1, i2]) (fun c o hb q => k c o (fun h => hb ?_) q) hf⟩
    have : c = z ∨ c = TO ∨ c = i1 ∨ c = i2 := by simpa using h
    rcases this with q | q | q | q <;> subst q <;> simp
  self := fun A i s Q E st h => wpAny_pyIter_zip st.1 h
def iZipLT (K : PySem.W.Frag) (ta : TA) : TI := fun σ H R => ta σ H fun vs H1 => ∃ a b xs ys, vs = [.ref a, .ref b] ∧ SqL K H1 a xs ∧ SqT K H1 b ys ∧ R (ItzLT K a b) H1
theorem pi_zipLT {e e2 : Expr} {ta : TA} {p pos tpos : Pos} {elts : List Expr} {kk : Nat} (hg : Gl X "zip") (hm : X.mg "zip" = none) (ha : PA X [e, e2] ta)
    (hs : starEach [e, e2] X.env = (false, eval e X.env) :: starEach [e2] X.env := by rfl) (hpl : (backTo pos (starEach [e2] X.env)).any (·.1) = false := by rfl) :
    PI X (.Tuple elts kk tpos) (.Call (.Name "zip" p) [e, e2] [] pos) (iZipLT X.K ta) := by
  refine ⟨fun pins s σ H R I h => ?_⟩
  refine PyProof.Rows.Call_ (ld_blt I hg hm PyProof.Rows.boot_zip (PyProof.Rows.callWith_type1 (thn (ha.run pos pins s σ H _ I h) fun us s1 hv => ?_) hs hpl))
  obtain ⟨vs, H1, I1, r1, a, b, xs, ys, rfl, hqx, hqy, q⟩ := hv
  obtain ⟨u1, u2, rfl, ra, rb⟩ := vals2 r1
  cases ra
  cases rb
  obtain ⟨its, rv, p1, _⟩ := I1.list hqx
  obtain ⟨its2, rv2, p2, _⟩ := I1.tuple hqy
  have la : a < s1.heap.objs.size := by obtain ⟨o, e, _⟩ := p1.isList; exact Heap.lt_size e
  have lb : b < s1.heap.objs.size := by obtain ⟨o, e, _⟩ := p2; exact Heap.lt_size e
  have fr : ∀ c, s1.heap.objs.size ≤ c → FpOk X pins H1 c := fun c hc => I1.fpOk hc (I1.hok.fresh hc)
  generalize hn : s1.heap.objs.size = n at la lb fr
  have D := sep_nat n a b la lb
  refine zip_begins2 (begins_list a its.toArray) (begins_tuple b its2.toArray) p1.isList p2 fun h' hz hTI hTO h1 h2 hsz hk => wpAny_pyIter_zip hz ?_
  rw [hn] at hz hTI hTO h1 h2 hsz ⊢
  have I2 : L2.Inv X pins σ H1 { s1 with heap := h' } := I1.kept (t' := s1.toks) hk
  refine ⟨n + 4, [n + 4, n + 2, n + 3, n, n + 1], _, ItzLT X.K a b, H1, rfl, I2, turn_zipLT D (Nat.ne_of_lt la) (Nat.ne_of_lt (Nat.lt_succ_of_lt lb)), ⟨hz, hTI, ⟨_, _, hTO⟩, ⟨_, h1, rfl, rfl⟩, ⟨_, h2, rfl, rfl⟩⟩, fun c hc => fr c ?_, q⟩
  rcases in5.mp hc with q | q | q | q | q <;> subst q <;> first | exact Nat.le_refl _ | exact Nat.le_add_right _ _
end
/-! ### len(set(text)) -/
/-- the unlike signs, in the turn in which they are met -/
def uniq (l : Tx) : Tx := l.foldl (fun acc c => if c ∈ acc then acc else acc ++ [c]) []
theorem uniq_snoc (l : Tx) (c : Nat) : uniq (l ++ [c]) = if c ∈ uniq l then uniq l else uniq l ++ [c] := by
  unfold uniq
  rw [List.foldl_append]
  rfl
theorem mem_uniq (l : Tx) : ∀ c, c ∈ uniq l ↔ c ∈ l := by
  have key : ∀ (l acc : Tx) (c : Nat), c ∈ l.foldl (fun acc c => if c ∈ acc then acc else acc ++ [c]) acc ↔ c ∈ acc ∨ c ∈ l := by
    intro l
    induction l with
    | nil => intro acc c; simp
    | cons d l ih =>
      intro acc c
      rw [List.foldl_cons, ih]
      by_cases h : d ∈ acc
      · rw [if_pos h]
        constructor
        · rintro (h1 | h1)
          · exact .inl h1
          · exact .inr (List.mem_cons_of_mem _ h1)
        · rintro (h1 | h1)
          · exact .inl h1
          · rcases List.mem_cons.mp h1 with e | e
            · subst e; exact .inl h
            · exact .inr e
      · rw [if_neg h]
        simp only [List.mem_append, List.mem_cons, List.not_mem_nil, or_false, or_assoc]
  intro c
  rw [uniq, key]
  simp
theorem uniq_le (l : Tx) : (uniq l).length ≤ l.length := by
  have key : ∀ (l acc : Tx), (l.foldl (fun acc c => if c ∈ acc then acc else acc ++ [c]) acc).length ≤ acc.length + l.length := by
    intro l
    induction l with
    | nil => intro acc; simp
    | cons d l ih =>
      intro acc
      rw [List.foldl_cons]
      refine Nat.le_trans (ih _) ?_
      split
      · simp only [List.length_cons]; omega
      · simp only [List.length_append, List.length_cons, List.length_nil]; omega
  have := key l []
  rw [List.length_nil, Nat.zero_add] at this
  exact this
theorem uniq_nodup {l : Tx} (h : l.Nodup) : uniq l = l := by
  have key : ∀ (l acc : Tx), (acc ++ l).Nodup → l.foldl (fun acc c => if c ∈ acc then acc else acc ++ [c]) acc = acc ++ l := by
    intro l
    induction l with
    | nil => intro acc _; simp
    | cons d l ih =>
      intro acc h
      have hd : d ∉ acc := fun z => by
        have := (List.nodup_append.mp h).2.2
        exact this d z d (List.mem_cons_self ..) rfl
      rw [List.foldl_cons, if_neg hd, ih (acc ++ [d]) (by rw [List.append_assoc]; exact h), List.append_assoc]
      rfl
  simpa [uniq] using key l [] (by simpa using h)
section
variable {P : Program} {w : World} {A : Around} {R : Result → Shared → Prop} {I : Addr} {St : Nat → Heap → Prop}
/-- what the set at a holds: the signs of l -/
def SetSigns (P : Program) (w : World) (h : Heap) (a : Addr) (l : Tx) : Prop := h.SetOf (PySem.strKind P w) a (fun k => (uniq l).any fun c => decide (k = S [c])) (uniq l).length
theorem fill_set (l : Tx) (hz : l.length ≤ 1000) (W : Walks P w A.in1 I [I] [I] (S l).cps.size (SignAt (S l)) St) (a : Addr) (ha : a ≠ I) :
    ∀ (k i : Nat) (s : Shared), i + k = l.length → St i s.heap → SetSigns P w s.heap a (l.take i) →
      (∀ h' tk, (∀ b o, b ≠ a → b ≠ I → s.heap.get? b = some o → h'.get? b = some o) → SetSigns P w h' a l → R (.ok (.ret .none)) { s with heap := h', toks := tk }) →
      codeAny (model P w) A (.builtin "set.update.loop" ⟨[.ref a, .ref I], []⟩) R s := by
  intro k
  induction k with
  | zero =>
    intro i s hk st hS hR
    refine codeAny_builtin PyProof.Rows.F.entry_set_update_loop ?_
    rw [Around.under_plainId PyProof.Rows.F.plain_set_update_loop _]
    show wpAny _ A.in1 (pyNext (.ref I) >>= _) _ _ s
    have e : i = (S l).cps.size := by rw [S_size]; omega
    subst e
    refine wpAny_bind (W.done s _ _ st fun h' tk kp => ?_)
    refine wpAny_pure (hR h' tk (fun b o _ hb e => kp b o (by simpa using hb) e) ?_)
    rw [S_size, List.take_length] at hS
    obtain ⟨o, es, ep, t, ho, rest⟩ := hS
    exact ⟨o, es, ep, t, kp a o (by simpa using ha) ho, rest⟩
  | succ k ih =>
    intro i s hk st hS hR
    refine codeAny_builtin PyProof.Rows.F.entry_set_update_loop ?_
    rw [Around.under_plainId PyProof.Rows.F.plain_set_update_loop _]
    show wpAny _ A.in1 (pyNext (.ref I) >>= _) _ _ s
    refine wpAny_bind (W.item i s _ _ (by rw [S_size]; omega) st fun v h1 tk1 hv st1 kp => ?_)
    obtain ⟨c, t, hc, rfl⟩ := hv
    have hc' : l[i]? = some c := by simpa [S] using hc
    have hS1 : SetSigns P w h1 a (l.take i) := by
      obtain ⟨o, es, ep, tb, ho, rest⟩ := hS
      exact ⟨o, es, ep, tb, kp a o (by simpa using ha) ho, rest⟩
    show wpAny _ A.in1 (holding [Value.str (S [c]) t] (setAdd a (.str (S [c]) t)) >>= _) _ _ { s with heap := h1, toks := tk1 }
    refine wpAny_bind (wpAny_holding ?_)
    unfold setAdd
    refine wpAny_holding (wpAny_bind ((PySem.strKind P w).pyHash (k := S [c]) (strKind_is _ _ _ _) ?_))
    have room : (uniq (l.take i)).length + 1 < scanBound := by
      have h1 := uniq_le (l.take i)
      have h2 : (l.take i).length ≤ l.length := by rw [List.length_take]; omega
      unfold scanBound
      omega
    refine wpAny_setAddHashed_of (knd := PySem.strKind P w) (s := { s with heap := h1, toks := tk1 + 1 }) (strKind_is _ _ _ _) rfl hS1 room fun h2 sb hS2 => ?_
    have tk' : l.take (i + 1) = l.take i ++ [c] := by
      rw [List.take_add_one, hc']
      rfl
    have hS3 : SetSigns P w h2 a (l.take (i + 1)) := by
      refine PyProof.Rows.SetOf_congr hS2 (fun k' => ?_) ?_
      · rw [tk', uniq_snoc]
        by_cases m : c ∈ uniq (l.take i)
        · rw [if_pos m]
          by_cases e : k' = S [c]
          · subst e
            have : ((uniq (l.take i)).any fun d => decide (S [c] = S [d])) = true := List.any_eq_true.mpr ⟨c, m, by simp⟩
            rw [this]
            rfl
          · rw [decide_eq_false e, Bool.or_false]
        · rw [if_neg m, List.any_append]
          simp
      · rw [tk', uniq_snoc]
        by_cases m : c ∈ uniq (l.take i)
        · rw [if_pos m]
          have : ((uniq (l.take i)).any fun d => decide (S [c] = S [d])) = true := List.any_eq_true.mpr ⟨c, m, by simp⟩
          rw [if_pos this]
        · rw [if_neg m]
          have : ¬ ((uniq (l.take i)).any fun d => decide (S [c] = S [d])) = true := fun z => by
            obtain ⟨d, hd, e⟩ := List.any_eq_true.mp z
            have : [c] = [d] := S_inj.mp (of_decide_eq_true e)
            cases this
            exact m hd
          rw [if_neg this]
          simp
    have st2 : St (i + 1) h2 := W.frame _ h1 _ st1 fun b hb o e => by
      have e' : b = I := by simpa using hb
      subst e'
      exact (sb.2 b (Ne.symm ha)).trans e
    refine wpAny_pure ⟨plainId_quiet PyProof.Rows.F.plain_set_update_loop _, ih (i + 1) _ (by omega) st2 hS3 fun h3 tk3 kp3 hS4 => ?_⟩
    refine hR h3 tk3 (fun b o h1' h2' e => kp3 b o h1' h2' ?_) hS4
    exact (sb.2 b h1').trans (kp b o (by simpa using h2') e)
end
theorem sub_str_set : isSubtype (.type "str") (.type "set") = pure false := by rw [isSubtype_type]; kernel_rfl
theorem sub_str_frozenset : isSubtype (.type "str") (.type "frozenset") = pure false := by rw [isSubtype_type]; kernel_rfl
section
variable {P : Program} {w : World} {A : Around} {E : Value → Shared → Prop} {s : Shared}
theorem call_set_text (hh : A.handled = none) (l : Tx) (t : Tok) (hz : l.length ≤ 1000) {Q : Value → Shared → Prop}
    (h : ∀ (h' : Heap) (tk : Nat), SetSigns P w h' s.heap.objs.size l → (∀ b o, s.heap.get? b = some o → h'.get? b = some o) → Q (.ref s.heap.objs.size) { s with heap := h', toks := tk }) :
    wpAny (model P w) A (call (.type "set") [.str (S l) t]) Q E s := by
  obtain ⟨c, tl, hmro⟩ := PySem.F.called_set.mro
  have hmade := PySem.F.called_set.made
  have hsub := PySem.F.called_set.sub
  refine wpAny_call (codeAny_of_tree ?_)
  show wpAny _ _ (callAny (.type "set") _) _ _ _
  refine wpAny_pure ⟨Code.quiet_builtin _ (by decide +kernel), codeAny_builtin PySem.F.entry_type_call ?_⟩
  rw [Around.under_plain (weight_type_call_type "set" [.str (S l) t] []) rfl]
  have q1 := PySem.F.called_set.notType
  have q2 := PySem.F.called_set.canCreate
  have q3 := PySem.F.typeCall_set_1 (.str (S l) t)
  repeat (any_goals (first | assumption | wp_step))
  refine codeAny_mono (PySem.code_set_new_1 (.str (S l) t) (E := E) (Q₁ := fun obj s₁ => ∃ led : Bool, obj = .ref s.heap.objs.size ∧ s₁ = { s with heap := s.heap.push { cls := .type "set", dict := none, data := .set #[] 0 (.fresh 0 0 led) } }) fun led => ⟨led, rfl, rfl⟩) fun r s₁ hr => ?_
  cases r with
  | error e => exact hr
  | ok fl =>
    cases fl with
    | ret obj =>
      obtain ⟨led, rfl, rfl⟩ := hr
      have hS : (s.heap.push { cls := .type "set", dict := none, data := .set #[] 0 (.fresh 0 0 led) }).get? s.heap.objs.size = some { cls := .type "set", dict := none, data := .set #[] 0 (.fresh 0 0 led) } := Heap.get?_push_size _ rfl
      have hT : Shared.TypeIs { s with heap := s.heap.push { cls := .type "set", dict := none, data := .set #[] 0 (.fresh 0 0 led) } } (.ref s.heap.objs.size) "set" := ⟨_, hS, rfl⟩
      have q4 := PySem.F.called_set.init.lookup
      have q5 := PySem.F.called_set.init.bind (.ref s.heap.objs.size)
      repeat (any_goals (first | assumption | wp_step))
      refine codeAny_mono (codeAny_call_builtin (R := wants (fun r s₂ => r = .none ∧ ∃ h' tk, s₂ = { s with heap := h', toks := tk } ∧ SetSigns P w h' s.heap.objs.size l ∧
          (∀ b o, s.heap.get? b = some o → h'.get? b = some o)) E) PySem.F.called_set.init.plain PySem.F.entry_set_init (PySem.check_set_init_1 hT ?_)) fun r₂ s₂ hr₂ => ?_
      · have q6 := sub_str_set
        have q7 := sub_str_frozenset
        have q8 : (Value.type "str" == Value.type "dict") = false := by decide
        unfold Builtin.«set.__init__» noKeywords Builtin.Frozenset.updateFrom
        generalize hPI : pyIter = PI
        wp_walk
        subst hPI
        refine wpAny_pyIter_str fun o St W st => ?_
        refine wpAny_bind (wpAny_runValue ?_)
        have sz : (s.heap.push { cls := .type "set", dict := none, data := .set #[] 0 (.fresh 0 0 led) }).objs.size = s.heap.objs.size + 1 := Heap.size_push _ _
        have na : s.heap.objs.size ≠ (s.heap.push { cls := .type "set", dict := none, data := .set #[] 0 (.fresh 0 0 led) }).objs.size := by
          rw [sz]; exact Nat.ne_of_lt (Nat.lt_succ_self _)
        refine fill_set l hz (W _ (by simp [hh])) s.heap.objs.size na l.length 0 _ (Nat.zero_add _) st ?_ fun h' tk kp hS' => ?_
        · have hget := Heap.get?_push_of_some o hS
          exact PyProof.Rows.SetOf_congr ((PyProof.Rows.setObjOf_fresh (knd := PySem.strKind P w) led).setOf hget (by unfold scanBound; omega)) (fun _ => rfl) rfl
        · refine wpAny_pure ?_
          show wpAny _ _ (ret Value.none) _ _ _
          refine wpAny_pure ⟨rfl, h', tk, rfl, hS', fun b ob e => ?_⟩
          have lt := Heap.lt_size e
          refine kp b ob (Nat.ne_of_lt lt) ?_ (Heap.get?_push_of_some _ (Heap.get?_push_of_some _ e))
          show b ≠ _
          rw [sz]
          exact Nat.ne_of_lt (Nat.lt_succ_of_lt lt)
      · cases r₂ with
        | error e => exact hr₂
        | ok fl₂ =>
          cases fl₂ with
          | ret r =>
            obtain ⟨rfl, h', tk, rfl, hS', hk'⟩ := hr₂
            repeat (any_goals (first | assumption | wp_step))
            exact h _ _ hS' hk'
          | _ => exact hr₂.elim
    | _ => exact hr.elim
end
section
variable {X : Cx}
def tLenSetS (ta : TE) : TE := fun σ H Q => ta σ H fun x H1 => ∃ l : Tx, x = .str (S l) ∧ l.length ≤ 1000 ∧ Q (.int ((uniq l).length : Nat)) H1
theorem pe_lenSetS {a : Expr} {ta : TE} {p p2 q pos : Pos} (hc : X.calm = true) (hg : Gl X "len") (hm : X.mg "len" = none) (hg2 : Gl X "set") (hm2 : X.mg "set" = none) (ha : PE X a ta)
    (na : starEach [a] X.env = (false, eval a X.env) :: starEach [] X.env := by rfl) : PE X (.Call (.Name "len" p) [.Call (.Name "set" p2) [a] [] q] [] pos) (tLenSetS ta) := by
  refine ⟨fun pins s σ H Q I h => ?_⟩
  refine PyProof.Rows.Call_ (ld_blt I hg hm boot_len (PyProof.Rows.callWith_builtin1 (PyProof.Rows.args_cons ?_ rfl) rfl rfl))
  refine PyProof.Rows.Call_ (ld_blt I hg2 hm2 PyProof.Rows.boot_set (PyProof.Rows.callWith_type1 (PyProof.Rows.args_cons (thn (ha.run pins s σ H _ I h) fun v s1 hv => PyProof.Rows.args_nil ?_) na) na rfl))
  obtain ⟨x, H1, I1, r1, l, rfl, hl, q1⟩ := hv
  obtain ⟨t, rfl⟩ := r1
  refine call_set_text (I1.ok.hd hc) l t hl fun h' tk hS hk => PyProof.Rows.args_nil ?_
  obtain ⟨o, es, ep, tb, ho, hex, hd, _, _, _, hf, hn⟩ := hS
  have I2 : L2.Inv X pins σ H1 { s1 with heap := h', toks := tk } := I1.kept hk
  have hz := Nat.le_trans (uniq_le l) hl
  exact call_len_set ho hex hd hf (by rw [hn] <;> omega) ⟨.int ((uniq l).length : Nat), H1, I2.tok _, ⟨_, by rw [hn]⟩, q1⟩
end
end Qw

set_option Elab.async false
set_option linter.all false
set_option maxRecDepth 100000
set_option maxHeartbeats 4000000
namespace Qw
open PySem L2
local macro_rules | `(tactic| walk_at "rd") => `(tactic| simp only [iEnum, iRng3, tRevL, rSlS, rSlL, gSub, rSetL, wipe, List.map_cons, List.map_nil, rAll, rAny, rIsi, tM1, tM0, iZipLT, iZip, iRng2, tLenSetS, rListStr, rMulS, rRep, rCntB, tRevS, rNeD, rEqD, tSeq, tNext, tAsg, tRet, tRetN, tDrop, tIfS, sFld, sFldAug, tVar, tC, tOp, tUn, tTest, tB, tAnd, tOr, tNot, tAndV, tOrV, tNotV, tIf, tTup, tLst, tCons, tNil, tCB, tCall, tMeth, tMake, tFld, rI, rI0, rU, rEq, rNe, rCat, gName, gTup, gCons, gNil, tPar, tPar3, tBM, tBM0, rAppend, rExtend, rPopAt, rIxL, rIxT, rIxS, tSl, rSlS, rSlL, tPart, tNoPart, iStr, iTup, iList, iRng1, tAug, ipI, L2.rAdd, L2.rSub, L2.rAddS, tChain, rIsB, rNotB, scal_ss, scal_ii, scal_bb, scal_nn, scal_in, scal_ni, tYes,
  cx_K, cx_N, List.getElem?_cons_zero, List.getElem?_cons_succ, List.set_cons_zero, List.set_cons_succ, List.nil_append, List.cons_append, List.append_nil, List.length_cons, List.length_nil, Nat.zero_add,
  Option.some.injEq, V.ref.injEq, V.int.injEq, V.str.injEq, V.bl.injEq, HO.ins.injEq, HO.lst.injEq, HO.tup.injEq, List.cons.injEq, exists_eq_left, exists_eq_left', exists_eq_right, exists_eq_right', and_true, true_and, exists_and_left, exists_and_right, and_assoc, decide_eq_true_eq, Bool.not_eq_true', decide_eq_false_iff_not, reduceCtorEq, exists_const, forall_const, if_true, if_false, false_and, and_false, ite_true, ite_false, Bool.true_eq_false, Bool.false_eq_true, Nat.reduceLeDiff, Nat.reduceAdd, small_line, small_lt, upd_ne, ne_eq, not_false_eq_true, Nat.zero_le, Prod.mk.injEq, upd_same, upd_upd, S_tl, S_len, S_app, S_one, S_inj,
  lk_breaks, lk_hard, lk_soft, lk_bend, lk_note, lk_rules, lk_state, lk_bent, lk_word, lk_begun, lk_opened, lk_place, pt_state, pt_bent, pt_word, pt_wordS, pt_wordN, pt_begun, pt_opened, pt_place, pt_place1, len_mf, litv_empty, litv_note, litv_nl, mf_inj, rf_inj, lkn_begin, lkn_ended, lkn_plain, lkn_quoted, lkn_step, lkn_fault, lkn_key, lkn_told, lkn_quotes, lkn_special, pt_open1, not_true_eq_false, not_false_eq_true])
local macro_rules | `(tactic| walk_at "rdh") => `(tactic| simp only [iEnum, iRng3, tRevL, rSlS, rSlL, gSub, rSetL, wipe, List.map_cons, List.map_nil, rAll, rAny, rIsi, tM1, tM0, iZipLT, iZip, iRng2, tLenSetS, rListStr, rMulS, rRep, rCntB, tRevS, rNeD, rEqD, tSeq, tNext, tAsg, tRet, tRetN, tDrop, tIfS, sFld, sFldAug, tVar, tC, tOp, tUn, tTest, tB, tAnd, tOr, tNot, tAndV, tOrV, tNotV, tIf, tTup, tLst, tCons, tNil, tCB, tCall, tMeth, tMake, tFld, rI, rI0, rU, rEq, rNe, rCat, gName, gTup, gCons, gNil, tPar, tPar3, tBM, tBM0, rAppend, rExtend, rPopAt, rIxL, rIxT, rIxS, tSl, rSlS, rSlL, tPart, tNoPart, iStr, iTup, iList, iRng1, tAug, ipI, L2.rAdd, L2.rSub, L2.rAddS, tChain, rIsB, rNotB, scal_ss, scal_ii, scal_bb, scal_nn, scal_in, scal_ni, tYes,
  cx_K, cx_N, List.getElem?_cons_zero, List.getElem?_cons_succ, List.set_cons_zero, List.set_cons_succ, List.nil_append, List.cons_append, List.append_nil, List.length_cons, List.length_nil, Nat.zero_add,
  Option.some.injEq, V.ref.injEq, V.int.injEq, V.str.injEq, V.bl.injEq, HO.ins.injEq, HO.lst.injEq, HO.tup.injEq, List.cons.injEq, exists_eq_left, exists_eq_left', exists_eq_right, exists_eq_right', and_true, true_and, exists_and_left, exists_and_right, and_assoc, decide_eq_true_eq, Bool.not_eq_true', decide_eq_false_iff_not, reduceCtorEq, exists_const, forall_const, if_true, if_false, false_and, and_false, ite_true, ite_false, Bool.true_eq_false, Bool.false_eq_true, Nat.reduceLeDiff, Nat.reduceAdd, small_line, small_lt, upd_ne, ne_eq, not_false_eq_true, Nat.zero_le, Prod.mk.injEq, upd_same, upd_upd, S_tl, S_len, S_app, S_one, S_inj,
  lk_breaks, lk_hard, lk_soft, lk_bend, lk_note, lk_rules, lk_state, lk_bent, lk_word, lk_begun, lk_opened, lk_place, pt_state, pt_bent, pt_word, pt_wordS, pt_wordN, pt_begun, pt_opened, pt_place, pt_place1, len_mf, litv_empty, litv_note, litv_nl, mf_inj, rf_inj, lkn_begin, lkn_ended, lkn_plain, lkn_quoted, lkn_step, lkn_fault, lkn_key, lkn_told, lkn_quotes, lkn_special, pt_open1, not_true_eq_false, not_false_eq_true, *])
local macro_rules | `(tactic| walk_at "pl") => `(tactic| (first | decide | (refine Nat.lt_of_le_of_lt (length_putF _ _ _) ?_; repeat (first | decide | refine pl2 ?_))))
local macro_rules | `(tactic| walk_at "al") => `(tactic| (intro p hp; generalize hH : upd _ p _ = H1; obtain ⟨S, e⟩ := gen_new hH hp; clear hH))
theorem walk_zipLT {K : PySem.W.Frag} {p q : Addr} {xs ys : List V} {n : Nat} (hn : n = min xs.length ys.length) : Walk (ItzLT K p q) n (fun H => SqL K H p xs ∧ SqT K H q ys) (YPair (fun i => xs[i]?) (fun i => ys[i]?)) := by
  subst hn
  refine ⟨fun i H hi g => ⟨xs, ys, g.1, g.2, hi⟩, fun H g => ⟨xs, ys, g.1, g.2, rfl⟩, ?_⟩
  rintro i H v H' hi g ⟨T, x, y, h1, h2, h3, h4, h5⟩
  exact ⟨T, x, y, h1, h2, h3, h4 _ g.1, h5 _ g.2⟩
def WF (p q : Addr) : List (Str × V) := [("words", .ref p), ("places", .ref q)]
theorem Paired.at' {α β : Type} {F : α → β → Prop} : ∀ {l : List α} {m : List β} {i : Nat} {x : α} {y : β}, Paired F l m → m[i]? = some y → l[i]? = some x → F x y
  | _, _, 0, _, _, .cons r _, h1, h2 => by cases h1; cases h2; exact r
  | _, _, i + 1, _, _, .cons _ t, h1, h2 => Paired.at' t (by simpa using h1) (by simpa using h2)
  | _, _, _, _, _, .nil, h1, _ => by simp at h1
theorem fnds_pl {H : Hp} : ∀ {xs : List V} {ds : List W3}, Fnds H xs ds → ∃ us : List V, us.length = ds.length ∧ Paired (Pls H) us (ds.map fun d => ((d.2.1 : Int), (d.2.2 : Int))) ∧
    ∀ (i : Nat) (x u : V), xs[i]? = some x → us[i]? = some u → ∃ b w, x = .ref b ∧ H b = some (.tup [w, u])
  | _, _, .nil => ⟨[], rfl, .nil, fun i x u h _ => by simp at h⟩
  | _, _, .cons r t => by
    obtain ⟨us, h1, h2, h3⟩ := fnds_pl t
    obtain ⟨b, u, rfl, g1, g2⟩ := r
    refine ⟨.ref u :: us, by simp [h1], .cons ⟨u, rfl, g2⟩ h2, fun i x v e1 e2 => ?_⟩
    match i, e1, e2 with
    | 0, e1, e2 => cases e1; cases e2; exact ⟨b, _, rfl, g1⟩
    | i + 1, e1, e2 => exact h3 i x v (by simpa using e1) (by simpa using e2)
/-- what split tells, at a new object: its lists are new -/
def Ansd (a : Ad) (H H' : Hp) (p : Addr) (x : Told) : Prop := match x with
  | .error n => ∃ dx, H' p = some (.ins a.c_Fault dx [("place", .int n)])
  | .ok (ws, ps) => ∃ dx l1 l2 ys, H' p = some (.ins a.c_Words dx (WF l1 l2)) ∧ H' l1 = some (.lst (ws.map fun w => .str (S w))) ∧ H' l2 = some (.lst ys) ∧ Paired (Pls H') ys ps ∧ H l1 = none ∧ H l2 = none ∧ l1 ≠ l2
section
variable {P : Program} {w : World} {K : PySem.W.Frag} {mg : Str → Option Value} {base : Heap} {a : Ad}
def sp_are_signs (a : Ad) : Sp := fun vs H Q _ => ∃ t, vs = [.str (S t)] ∧ t.length ≤ 50000 ∧ ∀ H', Same H H' → Q (.bl (t.all sgn)) H'
theorem ok_are_signs (T : Txt K mg a) : FnOk P w K mg base CX0 1 a.f_are_signs a.d_are_signs P_are_signs (sp_are_signs a) := by
  refine T.F_are_signs.ok sc_are_signs (fun vs H Q E h => ?_) (fun cdv A outer s H vs Q E hr h => ?_)
  · obtain ⟨t, rfl, _⟩ := h
    rfl
  · obtain ⟨t, rfl, ht, k⟩ := h

    refine ⟨_,
(pss_one (ps_ret (pe_and (pe_callB (call_isi) (by rfl) T.b_isinstance (by decide +kernel) (pa_cons (pv 0) (pa_cons (pe_bltn (v := .ty "str") (u := .type "str") rfl T.b_str (by decide +kernel) rfl) pa_nil))) (pe_one (pe_callB (cr_all rfl) (by rfl) T.b_all (by decide +kernel) (pa_cons (pe_lc (own := [("sign", 1)]) (g := gName 1) (tt := tYes) rfl sc_are_signs.nd (pi_str (pv 0)) (blkOk_by (own := [("sign", 1)]) (N := N_are_signs) (sc := defScope st_are_signs) (by decide +kernel)) (fun _ _ _ _ _ => (pg_name (i := 1) sc_are_signs.nd rfl (by first | exact Or.inl rfl | exact Or.inr rfl))) (fun _ _ _ _ _ => pts_nil) (fun _ _ _ _ _ => (pe_or (pe_chain op_le_str op_le_str pe_str (pv 1) pe_str) (pe_one (pe_cmpR op_eq (pv 1) (pe_glob (v := .str ("\n" : Str)) rfl T.g_LINE_END ⟨_, rfl⟩) (nomark _)))))) pa_nil))))))
      , ?_⟩
    rw [show start N_are_signs [V.str (S t)] = [some (.str (S t)), none] from rfl]
    walk_at "rdh"
    refine ⟨_, _, .ty _, .base (.str _), _, kit_ty (b := "str") (r := true) (by decide +kernel), ?_⟩
    refine iteT (tlc_map t (fun c => .bl (sgn c)) (J := Its (S t)) (H1 := H) (fun R hR => ?_) walk_text (by omega) (fun _ _ => trivial) ?_ ?_)
    · exact ⟨_, rfl, _, rfl, hR⟩
    · rintro R R' i c x H2 H3 hi s1 ⟨rfl, c', hc, rfl⟩ hR
      rw [hi] at hc
      cases hc
      walk_at "rdh"
      rw [show (Str.ofString " ").cps.toList = [32] by decide +kernel, show (Str.ofString "~").cps.toList = [126] by decide +kernel]
      have e1 := one_lt c 32
      have e2 := one_lt 126 c
      rw [sgn] at hR
      have hR := hR H3 (Same.refl _)
      refine ite2 (fun c1 => ?_) (fun c1 => ?_)
      · rw [e1] at c1
        refine ite2 (fun c2 => ?_) (fun c2 => ?_)
        · rw [e2] at c2
          rw [decide_eq_true (show 32 ≤ c ∧ c ≤ 126 by omega)] at hR
          exact hR
        · rw [e2] at c2
          rw [decide_eq_false (show ¬ (32 ≤ c ∧ c ≤ 126) by omega)] at hR
          exact hR
      · rw [e1] at c1
        rw [decide_eq_false (show ¬ (32 ≤ c ∧ c ≤ 126) by omega)] at hR
        exact hR
    · intro D H2 hD s1 e
      walk_at "rdh"
      refine ⟨t.map sgn, .inl (.inl (by rw [List.map_map]; exact e)), ?_⟩
      rw [List.all_map]
      exact k H2 s1
def sp_Rules_init (a : Ad) : Sp := fun vs H Q _ => ∃ p dx r, vs = [.ref p, .str (S r.breaks), .str (S r.hard), .str (S r.soft), .str (S r.bend), .str (S r.note)] ∧ r.Ok ∧ H p = some (.ins a.c_Rules dx []) ∧
  ∀ H', H' p = some (.ins a.c_Rules dx (RS.f r)) → Kp p H H' → Q .non H'
theorem ok_Rules_init (T : Txt K mg a) : FnOk P w K mg base CX0 2 a.f_Rules_init a.d_Rules_init P_Rules_init (sp_Rules_init a) := by
  refine T.F_Rules_init.ok sc_Rules_init (fun vs H Q E h => ?_) (fun cdv A outer s H vs Q E hr h => ?_)
  · obtain ⟨p, dx, r, rfl, _⟩ := h
    rfl
  · obtain ⟨p, dx, r, rfl, ok, hM, k⟩ := h
    have G_are_signs := ok_are_signs (P := P) (w := w) (base := base) T
    have B_are_signs := bi_are_signs T
    refine ⟨_,
(pss_cons (ps_set (i := 6) sc_Rules_init.nd rfl (by first | exact Or.inl rfl | exact Or.inr rfl) (pe_lst (pa_cons (pv 1) (pa_cons (pv 2) (pa_cons (pv 3) (pa_cons (pv 4) (pa_cons (pv 5) pa_nil)))))))
    (pss_cons (ps_if (PW.pt (pw_or (pt_not (pt_val (pe_callB (cr_all rfl) (by rfl) T.b_all (by decide +kernel) (pa_cons (pe_lc (own := [("part", 8), ("most", 9)]) (g := gTup _ 2 (gCons (gName 8) (gCons (gName 9) (gNil)))) (tt := tYes) rfl sc_Rules_init.nd (pi_zipLT rfl T.b_zip (pa_cons (pv 6) (pa_cons (pe_glob (v := .ref a.a_MOST) rfl T.g_MOST rfl) pa_nil))) (blkOk_by (own := [("part", 8), ("most", 9)]) (N := N_Rules_init) (sc := defScope st_Rules_init) (by decide +kernel)) (fun _ _ _ _ _ => (pg_tup rfl (pgs_cons (pg_name (i := 8) sc_Rules_init.nd rfl (by first | exact Or.inl rfl | exact Or.inr rfl)) (pgs_cons (pg_name (i := 9) sc_Rules_init.nd rfl (by first | exact Or.inl rfl | exact Or.inr rfl)) pgs_nil)))) (fun _ _ _ _ _ => pts_nil) (fun _ _ _ _ _ => (pe_and (pe_call G_are_signs (hr.mono (by decide)) rfl T.f_are_signs.g T.f_are_signs.k B_are_signs .nil pass0 (pa_cons (pv 8) pa_nil)) (pe_one (pe_cmpR op_le (pe_callB call_len_str (by rfl) T.b_len PySem.boot_len (pa_cons (pv 8) pa_nil)) (pv 9) (nomark _)))))) pa_nil)))) (pw_or1 (pt_cmpR op_eq (pv 1) pe_str (nomark _))))) (pss_one ps_never) pss_nil)
    (pss_cons (ps_set (i := 7) sc_Rules_init.nd rfl (by first | exact Or.inl rfl | exact Or.inr rfl) (pe_join pe_str (pv 6)))
    (pss_cons (ps_if (pt_cmpR op_lt (pe_lenSetS rfl rfl T.b_len rfl T.b_set (pv 7)) (pe_callB call_len_str (by rfl) T.b_len PySem.boot_len (pa_cons (pv 7) pa_nil)) (nomark _)) (pss_one ps_never) pss_nil)
    (pss_cons (ps_fld (pv 0) (pv 1) rfl)
    (pss_cons (ps_fld (pv 0) (pv 2) rfl)
    (pss_cons (ps_fld (pv 0) (pv 3) rfl)
    (pss_cons (ps_fld (pv 0) (pv 4) rfl)
    (pss_one (ps_fld (pv 0) (pv 5) rfl))))))))))
      , ?_⟩
    rw [show start N_Rules_init [V.ref p, V.str (S r.breaks), V.str (S r.hard), V.str (S r.soft), V.str (S r.bend), V.str (S r.note)] = [some (.ref p), some (.str (S r.breaks)), some (.str (S r.hard)), some (.str (S r.soft)), some (.str (S r.bend)), some (.str (S r.note)), none, none, none, none] from rfl]
    have hc := T.c_Rules.cl
    have n1 := T.n_Rules_breaks
    have n2 := T.n_Rules_hard
    have n3 := T.n_Rules_soft
    have n4 := T.n_Rules_bend
    have n5 := T.n_Rules_note
    walk_at "rd"
    intro l hl
    have S1 := same_new (o := HO.lst [V.str (S r.breaks), V.str (S r.hard), V.str (S r.soft), V.str (S r.bend), V.str (S r.note)]) hl
    have hL : upd H l (HO.lst [V.str (S r.breaks), V.str (S r.hard), V.str (S r.soft), V.str (S r.bend), V.str (S r.note)]) l = _ := upd_same
    generalize upd H l (HO.lst [V.str (S r.breaks), V.str (S r.hard), V.str (S r.soft), V.str (S r.bend), V.str (S r.note)]) = H1 at *
    have sm := T.s_MOST
    refine tlc_map (α := Tx × Int) [(r.breaks, 4), (r.hard, 2), (r.soft, 2), (r.bend, 1), (r.note, 1)] (fun _ => .bl true) (J := ItzLT K l a.a_MOST) (H1 := H1)
      (G := fun H => SqL K H l [V.str (S r.breaks), V.str (S r.hard), V.str (S r.soft), V.str (S r.bend), V.str (S r.note)] ∧ SqT K H a.a_MOST [.int 4, .int 2, .int 2, .int 1, .int 1]) (fun R hR => ?_) (walk_zipLT rfl) (by simp only [List.length_cons, List.length_nil]; omega) (fun H s => ⟨.inl (.inl (s _ _ hL)), sm H⟩) ?_ ?_
    · walk_at "rd"
      exact ⟨⟨_, .inl (.inl hL)⟩, ⟨_, sm _⟩, hR⟩
    · rintro R R' i ⟨c, n⟩ x H2 H3 hi s1 ⟨t, x, y, rfl, ht, rfl, hx, hy⟩ hR
      have hxy : x = .str (S c) ∧ y = .int n ∧ c.all sgn = true ∧ (c.length : Int) ≤ n ∧ n ≤ 4 := by
        have hs := ok.sg
        simp only [RS.every, List.all_append, Bool.and_eq_true] at hs
        obtain ⟨s1, s2, s3, s4, s5⟩ := hs
        match i, hi, hx, hy with
        | 0, hi, hx, hy => cases hi; cases hx; cases hy; exact ⟨rfl, rfl, s1, by have := ok.l1; omega, by decide⟩
        | 1, hi, hx, hy => cases hi; cases hx; cases hy; exact ⟨rfl, rfl, s2, by have := ok.l2; omega, by decide⟩
        | 2, hi, hx, hy => cases hi; cases hx; cases hy; exact ⟨rfl, rfl, s3, by have := ok.l3; omega, by decide⟩
        | 3, hi, hx, hy => cases hi; cases hx; cases hy; exact ⟨rfl, rfl, s4, by have := ok.l4; omega, by decide⟩
        | 4, hi, hx, hy => cases hi; cases hx; cases hy; exact ⟨rfl, rfl, s5, by have := ok.l5; omega, by decide⟩
      obtain ⟨rfl, rfl, g1, g2, g3⟩ := hxy
      walk_at "rdh"
      refine ⟨_, .inl (.inl upd_same), rfl, _, _, rfl, _, _, rfl, rfl, c, rfl, by omega, fun H4 s4 => ?_⟩
      walk_at "rdh"
      exact ⟨Nat.le_trans (show c.length ≤ 4 by omega) (by decide), hR _ ((same_new ht).trans s4)⟩
    · intro D H2 hD s1 e
      walk_at "rdh"
      refine ⟨[true, true, true, true, true], .inl (.inl e), ?_⟩
      refine ite2 (fun c => absurd c (by decide)) (fun _ => ?_)
      have ne := ok.ne
      walk_at "rdh"
      have ev : r.every.length ≤ 10 := by
        have h1 := ok.l1; have h2 := ok.l2; have h3 := ok.l3; have h4 := ok.l4; have h5 := ok.l5
        simp only [RS.every, List.length_append]; omega
      have jn : Txt.join (S []) [S r.breaks, S r.hard, S r.soft, S r.bend, S r.note] = S r.every := by
        have := join_flat [r.breaks, r.hard, r.soft, r.bend, r.note]
        simpa [RS.every] using this
      have hp := S1 _ _ hM
      have hp2 := s1 _ _ hp
      refine ⟨⟨_, rfl⟩, [S r.breaks, S r.hard, S r.soft, S r.bend, S r.note], .inl (.inl (.inl (s1 _ _ hL))), ?_, ?_⟩
      · have h1 := ok.l1; have h2 := ok.l2; have h3 := ok.l3; have h4 := ok.l4; have h5 := ok.l5
        simp only [List.map_cons, List.map_nil, List.sum_cons, List.sum_nil, S_len, List.length_cons, List.length_nil]; omega
      · rw [jn]
        refine ⟨_, rfl, by omega, ?_⟩
        walk_at "rdh"
        refine ⟨Nat.le_trans ev (by decide), ?_⟩
        rw [uniq_nodup ok.nd]
        refine ite2 (fun c => absurd c (by omega)) (fun _ => ?_)
        refine ⟨by walk_at "pl", by walk_at "pl", by walk_at "pl", by walk_at "pl", by walk_at "pl", ?_⟩
        refine k _ ?_ ((S1.trans s1).kp p).upd
        rw [upd_same]
        exact congrArg (fun l => some (HO.ins a.c_Rules dx l)) (show _ = r.f by kernel_rfl)
def sp_told (a : Ad) : Sp := fun vs H Q _ => ∃ p dr r, vs = [.ref p] ∧ H p = some (.ins a.c_Rules dr (RS.f r)) ∧
  ∀ t H', H t = none → H' = upd H t (.tup [.str (S r.breaks), .str (S r.hard), .str (S r.soft), .str (S r.bend), .str (S r.note)]) → Q (.ref t) H'
theorem ok_Rules_told (T : Txt K mg a) : FnOk P w K mg base CX0 1 a.f_Rules_told a.d_Rules_told P_Rules_told (sp_told a) := by
  refine T.F_Rules_told.ok sc_Rules_told (fun vs H Q E h => ?_) (fun cdv A outer s H vs Q E hr h => ?_)
  · obtain ⟨p, dx, r, rfl, _⟩ := h
    rfl
  · obtain ⟨p, dx, r, rfl, hM, k⟩ := h
    refine ⟨_,
(pss_one (ps_ret (pe_tup (pa_cons (pe_fld (pv 0) rfl) (pa_cons (pe_fld (pv 0) rfl) (pa_cons (pe_fld (pv 0) rfl) (pa_cons (pe_fld (pv 0) rfl) (pa_cons (pe_fld (pv 0) rfl) pa_nil))))))))
      , ?_⟩
    rw [show start N_Rules_told [V.ref p] = [some (.ref p)] from rfl]
    have hc := T.c_Rules.cl
    have n1 := T.n_Rules_breaks
    have n2 := T.n_Rules_hard
    have n3 := T.n_Rules_soft
    have n4 := T.n_Rules_bend
    have n5 := T.n_Rules_note
    walk_at "rdh"
    exact fun t ht => k t _ ht rfl
/-! ### answers -/
def sp_Words_init (a : Ad) : Sp := fun vs H Q _ => ∃ p dx l1 l2 xs ys, vs = [.ref p, .ref l1, .ref l2] ∧ H p = some (.ins a.c_Words dx []) ∧ H l1 = some (.lst xs) ∧ H l2 = some (.lst ys) ∧
  ∀ m1 m2 H', H m1 = none → H m2 = none → m1 ≠ m2 → H' m1 = some (.lst xs) → H' m2 = some (.lst ys) → H' p = some (.ins a.c_Words dx (WF m1 m2)) → Kp p H H' → Q .non H'
theorem ok_Words_init (T : Txt K mg a) : FnOk P w K mg base CX0 1 a.f_Words_init a.d_Words_init P_Words_init (sp_Words_init a) := by
  refine T.F_Words_init.ok sc_Words_init (fun vs H Q E h => ?_) (fun cdv A outer s H vs Q E hr h => ?_)
  · obtain ⟨p, dx, l1, l2, xs, ys, rfl, _⟩ := h
    rfl
  · obtain ⟨p, dx, l1, l2, xs, ys, rfl, hM, h1, h2, k⟩ := h
    refine ⟨_,
(pss_cons (ps_fld (pv 0) (pe_callTy call_list_of (by rfl) T.b_list (by decide +kernel) (pa_cons (pv 1) pa_nil)) rfl)
    (pss_one (ps_fld (pv 0) (pe_callTy call_list_of (by rfl) T.b_list (by decide +kernel) (pa_cons (pv 2) pa_nil)) rfl)))
      , ?_⟩
    rw [show start N_Words_init [V.ref p, V.ref l1, V.ref l2] = [some (.ref p), some (.ref l1), some (.ref l2)] from rfl]
    have hc := T.c_Words.cl
    have n1 := T.n_Words_words
    have n2 := T.n_Words_places
    walk_at "rdh"
    refine ⟨xs, .inl (.inl (.inl h1)), fun m1 hm1 => ?_⟩
    have S1 := same_new (o := HO.lst xs) hm1
    have p1 := S1 _ _ hM
    have q2 := S1 _ _ h2
    have e1 : upd H m1 (HO.lst xs) m1 = some (HO.lst xs) := upd_same
    generalize upd H m1 (HO.lst xs) = H1 at *
    have np : m1 ≠ p := Ne.symm (ne_of_none hM hm1)
    walk_at "rdh"
    have ql : upd H1 p (HO.ins a.c_Words dx (putF (Str.ofString "words") (V.ref m1) [])) l2 = some (HO.lst ys) := by
      rw [upd_ne (fun z => by rw [z, hM] at h2; cases h2)]
      exact q2
    refine ⟨by walk_at "pl", ys, .inl (.inl (.inl ql)), fun m2 hm2 => ?_⟩
    have hm2' := none_upd hm2
    have np2 : m2 ≠ p := ne_upd hm2
    have np2' := Ne.symm np2
    have n12 : m1 ≠ m2 := fun z => by rw [← z, e1] at hm2'; cases hm2'
    walk_at "rdh"
    refine ⟨by walk_at "pl", k m1 m2 _ hm1 (S1.free hm2') n12 ?_ ?_ ?_ ?_⟩
    · rw [upd_ne np, upd_ne n12, upd_ne np]
      exact e1
    · rw [upd_ne np2, upd_same]
    · rw [upd_same]
      exact congrArg (fun l => some (HO.ins a.c_Words dx l)) (show _ = WF m1 m2 by kernel_rfl)
    · exact (((S1.kp p).upd).trans ((same_new hm2).kp p)).upd
def sp_Fault_init (a : Ad) : Sp := fun vs H Q _ => ∃ p dx n, vs = [.ref p, .int n] ∧ H p = some (.ins a.c_Fault dx []) ∧
  ∀ H', H' p = some (.ins a.c_Fault dx [("place", .int n)]) → Kp p H H' → Q .non H'
theorem ok_Fault_init (T : Txt K mg a) : FnOk P w K mg base CX0 1 a.f_Fault_init a.d_Fault_init P_Fault_init (sp_Fault_init a) := by
  refine T.F_Fault_init.ok sc_Fault_init (fun vs H Q E h => ?_) (fun cdv A outer s H vs Q E hr h => ?_)
  · obtain ⟨p, dx, n, rfl, _⟩ := h
    rfl
  · obtain ⟨p, dx, n, rfl, hM, k⟩ := h
    refine ⟨_,
(pss_one (ps_fld (pv 0) (pv 1) rfl))
      , ?_⟩
    rw [show start N_Fault_init [V.ref p, V.int n] = [some (.ref p), some (.int n)] from rfl]
    have hc := T.c_Fault.cl
    have n1 := T.n_Fault_place
    walk_at "rdh"
    refine ⟨by walk_at "pl", k _ ?_ kp_upd⟩
    rw [upd_same]
    exact congrArg (fun l => some (HO.ins a.c_Fault dx l)) (show _ = [(Str.ofString "place", V.int n)] by kernel_rfl)
end
end Qw

set_option Elab.async false
set_option linter.all false
set_option maxRecDepth 100000
set_option maxHeartbeats 4000000
namespace Qw
open PySem L2
local macro_rules | `(tactic| walk_at "rd") => `(tactic| simp only [iEnum, iRng3, tRevL, rSlS, rSlL, gSub, rSetL, wipe, List.map_cons, List.map_nil, rAll, rAny, rIsi, tM1, tM0, iZipLT, iZip, iRng2, tLenSetS, rListStr, rMulS, rRep, rCntB, tRevS, rNeD, rEqD, tSeq, tNext, tAsg, tRet, tRetN, tDrop, tIfS, sFld, sFldAug, tVar, tC, tOp, tUn, tTest, tB, tAnd, tOr, tNot, tAndV, tOrV, tNotV, tIf, tTup, tLst, tCons, tNil, tCB, tCall, tMeth, tMake, tFld, rI, rI0, rU, rEq, rNe, rCat, gName, gTup, gCons, gNil, tPar, tPar3, tBM, tBM0, rAppend, rExtend, rPopAt, rIxL, rIxT, rIxS, tSl, rSlS, rSlL, tPart, tNoPart, iStr, iTup, iList, iRng1, tAug, ipI, L2.rAdd, L2.rSub, L2.rAddS, tChain, rIsB, rNotB, scal_ss, scal_ii, scal_bb, scal_nn, scal_in, scal_ni, tYes,
  cx_K, cx_N, List.getElem?_cons_zero, List.getElem?_cons_succ, List.set_cons_zero, List.set_cons_succ, List.nil_append, List.cons_append, List.append_nil, List.length_cons, List.length_nil, Nat.zero_add,
  Option.some.injEq, V.ref.injEq, V.int.injEq, V.str.injEq, V.bl.injEq, HO.ins.injEq, HO.lst.injEq, HO.tup.injEq, List.cons.injEq, exists_eq_left, exists_eq_left', exists_eq_right, exists_eq_right', and_true, true_and, exists_and_left, exists_and_right, and_assoc, decide_eq_true_eq, Bool.not_eq_true', decide_eq_false_iff_not, reduceCtorEq, exists_const, forall_const, if_true, if_false, false_and, and_false, ite_true, ite_false, Bool.true_eq_false, Bool.false_eq_true, Nat.reduceLeDiff, Nat.reduceAdd, small_line, small_lt, upd_ne, ne_eq, not_false_eq_true, Nat.zero_le, Prod.mk.injEq, upd_same, upd_upd, S_tl, S_len, S_app, S_one, S_inj,
  lk_breaks, lk_hard, lk_soft, lk_bend, lk_note, lk_rules, lk_state, lk_bent, lk_word, lk_begun, lk_opened, lk_place, pt_state, pt_bent, pt_word, pt_wordS, pt_wordN, pt_begun, pt_opened, pt_place, pt_place1, len_mf, litv_empty, litv_note, litv_nl, mf_inj, rf_inj, lkn_begin, lkn_ended, lkn_plain, lkn_quoted, lkn_step, lkn_fault, lkn_key, lkn_told, lkn_quotes, lkn_special, pt_open1, not_true_eq_false, not_false_eq_true])
local macro_rules | `(tactic| walk_at "rdh") => `(tactic| simp only [iEnum, iRng3, tRevL, rSlS, rSlL, gSub, rSetL, wipe, List.map_cons, List.map_nil, rAll, rAny, rIsi, tM1, tM0, iZipLT, iZip, iRng2, tLenSetS, rListStr, rMulS, rRep, rCntB, tRevS, rNeD, rEqD, tSeq, tNext, tAsg, tRet, tRetN, tDrop, tIfS, sFld, sFldAug, tVar, tC, tOp, tUn, tTest, tB, tAnd, tOr, tNot, tAndV, tOrV, tNotV, tIf, tTup, tLst, tCons, tNil, tCB, tCall, tMeth, tMake, tFld, rI, rI0, rU, rEq, rNe, rCat, gName, gTup, gCons, gNil, tPar, tPar3, tBM, tBM0, rAppend, rExtend, rPopAt, rIxL, rIxT, rIxS, tSl, rSlS, rSlL, tPart, tNoPart, iStr, iTup, iList, iRng1, tAug, ipI, L2.rAdd, L2.rSub, L2.rAddS, tChain, rIsB, rNotB, scal_ss, scal_ii, scal_bb, scal_nn, scal_in, scal_ni, tYes,
  cx_K, cx_N, List.getElem?_cons_zero, List.getElem?_cons_succ, List.set_cons_zero, List.set_cons_succ, List.nil_append, List.cons_append, List.append_nil, List.length_cons, List.length_nil, Nat.zero_add,
  Option.some.injEq, V.ref.injEq, V.int.injEq, V.str.injEq, V.bl.injEq, HO.ins.injEq, HO.lst.injEq, HO.tup.injEq, List.cons.injEq, exists_eq_left, exists_eq_left', exists_eq_right, exists_eq_right', and_true, true_and, exists_and_left, exists_and_right, and_assoc, decide_eq_true_eq, Bool.not_eq_true', decide_eq_false_iff_not, reduceCtorEq, exists_const, forall_const, if_true, if_false, false_and, and_false, ite_true, ite_false, Bool.true_eq_false, Bool.false_eq_true, Nat.reduceLeDiff, Nat.reduceAdd, small_line, small_lt, upd_ne, ne_eq, not_false_eq_true, Nat.zero_le, Prod.mk.injEq, upd_same, upd_upd, S_tl, S_len, S_app, S_one, S_inj,
  lk_breaks, lk_hard, lk_soft, lk_bend, lk_note, lk_rules, lk_state, lk_bent, lk_word, lk_begun, lk_opened, lk_place, pt_state, pt_bent, pt_word, pt_wordS, pt_wordN, pt_begun, pt_opened, pt_place, pt_place1, len_mf, litv_empty, litv_note, litv_nl, mf_inj, rf_inj, lkn_begin, lkn_ended, lkn_plain, lkn_quoted, lkn_step, lkn_fault, lkn_key, lkn_told, lkn_quotes, lkn_special, pt_open1, not_true_eq_false, not_false_eq_true, *])
local macro_rules | `(tactic| walk_at "pl") => `(tactic| (first | decide | (refine Nat.lt_of_le_of_lt (length_putF _ _ _) ?_; repeat (first | decide | refine pl2 ?_))))
local macro_rules | `(tactic| walk_at "al") => `(tactic| (intro p hp; generalize hH : upd _ p _ = H1; obtain ⟨S, e⟩ := gen_new hH hp; clear hH))
theorem while_rule {c : TT} {tb : TS} {D : Ends} {σ : St} {H : Hp} (W : Nat → St → Hp → Prop) (n0 : Nat) (h0 : W n0 σ H)
    (hs : ∀ n σ1 H1 (R : Bool → Hp → Prop), W n σ1 H1 →
      (∀ H2, tb { D with nx := fun σ' H' => ∃ n', n' < n ∧ W n' σ' H', ct := fun σ' H' => ∃ n', n' < n ∧ W n' σ' H', bk := D.nx } σ1 H2 → R true H2) → (∀ H2, D.nx σ1 H2 → R false H2) → c σ1 H1 R) : tWhile c tb D σ H := by
  refine ⟨W, ⟨n0, h0⟩, fun n σ1 H1 w => hs n σ1 H1 _ w (fun H2 q => ?_) fun H2 q => ?_⟩
  · exact iteT ⟨_, fun _ _ z => z, q⟩
  · exact iteF q
theorem tfor_it {wi : TI} {g : TG} {tb : TS} {D : Ends} {σ : St} {H H1 : Hp} {J : It} {n : Nat} {G : Hp → Prop} {Y : Nat → Hp → V → Hp → Prop} (hw : ∀ R : It → Hp → Prop, R J H1 → wi σ H R) (w : Walk J n G Y)
    (Pv : Nat → St → Hp → Prop) (h0 : Pv 0 σ H1) (hG : ∀ i σ H, i ≤ n → Pv i σ H → G H)
    (hs : ∀ i x σ H H', i < n → Pv i σ H → Y i H x H' → g x σ H' fun σ2 H2 => tb { D with nx := Pv (i + 1), ct := Pv (i + 1), bk := D.nx } σ2 H2) (hd : ∀ σ H, Pv n σ H → D.nx σ H) : tFor wi g tb D σ H :=
  hw _ (for_it w Pv h0 hG hs hd)
theorem tfor_all {ι : Type} {C : ι → Prop} {J : ι → It} {H1 : ι → Hp} {wi : TI} {g : TG} {tb : TS} {D : Ends} {σ : St} {H : Hp} (hw : ∀ R : It → Hp → Prop, (∀ x, C x → R (J x) (H1 x)) → wi σ H R)
    (h2 : ∀ x, C x → ∃ W : Nat → Nat → St → Hp → Prop, (∃ m, W 0 m σ (H1 x)) ∧ ∀ i m σ H, W i m σ H →
      ((J x).stop i H ∧ D.nx σ H) ∨ ((J x).go i H ∧ ∃ N : St → Hp → Prop, (∀ σ' H', N σ' H' → ∃ m', m' < m ∧ W (i + 1) m' σ' H') ∧ ∀ y H', (J x).yld i H y H' → g y σ H' fun σ2 H2 => tb { D with nx := N, ct := N, bk := D.nx } σ2 H2)) : tFor wi g tb D σ H := hw _ h2
theorem _root_.Qw.Kp.mut {p q : Addr} {H H' : Hp} {o : HO} (k : Kp p H H') (h : H q = none) : Kp p H (L2.upd H' q o) := fun b u e n => by
  rw [upd_ne (ne_of_none e h)]
  exact k b u e n
theorem map_eraseIdx' {α β : Type} (f : α → β) : ∀ (l : List α) (i : Nat), (l.map f).eraseIdx i = (l.eraseIdx i).map f
  | [], _ => rfl
  | _ :: _, 0 => rfl
  | a :: l, i + 1 => by
    show f a :: (l.map f).eraseIdx i = f a :: (l.eraseIdx i).map f
    rw [map_eraseIdx' f l i]
theorem perm_eraseIdx {α : Type} : ∀ {l : List α} {i : Nat} (h : i < l.length), (l[i] :: l.eraseIdx i).Perm l
  | _ :: _, 0, _ => List.Perm.refl _
  | a :: l, i + 1, h => by
    have h' : i < l.length := by simpa using h
    exact (List.Perm.swap a l[i] (l.eraseIdx i)).trans (List.Perm.cons a (perm_eraseIdx h'))
theorem at_in {α : Type} {xs : List α} {k : Int} (h0 : 0 ≤ k) (h : k < xs.length) : ∃ (j : Nat) (hj : j < xs.length), k = (j : Int) ∧ atI xs k = some xs[j] := by
  have hj : k.toNat < xs.length := by omega
  refine ⟨k.toNat, hj, by omega, ?_⟩
  have := atI_nat (xs := xs) (j := k.toNat) (v := xs[k.toNat]) (by simp [hj])
  rwa [show ((k.toNat : Nat) : Int) = k by omega] at this
theorem bi_Rules_init {K : PySem.W.Frag} {mg : Str → Option Value} {a : Ad} (T : Txt K mg a) : Binds K a.d_Rules_init P_Rules_init [] := by
  obtain ⟨ds, h1, h2⟩ := T.F_Rules_init.binds1 (ps := P_Rules_init) 6 5 (by decide) rfl fun T kV doc pm an cdv ct us its h1 h2 =>
    match us, h1, its, h2 with
    | [_, _, _, _, _, _], _, [_, _, _, _, _], _ => ⟨_, rfl, rfl⟩
  cases h1
  exact h2
theorem bi_Rules_init0 {K : PySem.W.Frag} {mg : Str → Option Value} {a : Ad} (T : Txt K mg a) : ∃ ds, Vals [.str (" " : Str), .str ("'" : Str), .str ("\"" : Str), .str ("\\" : Str), .str ("#" : Str)] ds ∧ Binds K a.d_Rules_init P_Rules_init ds :=
  T.F_Rules_init.binds1 (ps := P_Rules_init) 1 0 (by decide) rfl fun T kV doc pm an cdv ct us its h1 h2 =>
    match us, h1, its, h2 with
    | [_], _, [_, _, _, _, _], _ => ⟨_, rfl, rfl⟩
section
variable {P : Program} {w : World} {K : PySem.W.Frag} {mg : Str → Option Value} {base : Heap} {a : Ad}
/-! ### drawn numbers -/
def sp_law_cell_at (K : PySem.W.Frag) : Sp := fun vs H Q _ => ∃ (p : Addr) (k : Int) (ns : List Int), vs = [.ref p, .int k] ∧ SqL K H p (ns.map V.int) ∧ 0 ≤ k ∧ ∀ z : Int, Q (.int z) H
theorem ok__law_cell_at (T : Txt K mg a) : FnOk P w K mg base CX0 1 a.f__law_cell_at a.d__law_cell_at P__law_cell_at (sp_law_cell_at K) := by
  refine T.F__law_cell_at.ok sc__law_cell_at (fun vs H Q E h => ?_) (fun cdv A outer s H vs Q E hr h => ?_)
  · obtain ⟨p, k, ns, rfl, _⟩ := h
    rfl
  · obtain ⟨p, k, ns, rfl, hp, hk, q⟩ := h
    refine ⟨_,
(pss_cons (ps_if (pt_cmpR op_lt (pv 1) (pe_callB call_len_seq (by rfl) T.b_len PySem.boot_len (pa_cons (pv 0) pa_nil)) (nomark _)) (pss_one (ps_ret (pe_ix ix_list (pv 0) (pv 1) (fun _ _ => rfl)))) pss_nil)
    (pss_one (ps_ret pe_int)))
      , ?_⟩
    rw [show start N__law_cell_at [V.ref p, V.int k] = [some (.ref p), some (.int k)] from rfl]
    walk_at "rdh"
    refine ⟨_, .inl hp, ite2 (fun c => ?_) (fun _ => trivial)⟩
    rw [List.length_map] at c
    obtain ⟨j, hj, e1, e2⟩ := at_in hk (show k < ((ns.map V.int).length : Int) by rw [List.length_map]; exact c)
    refine ⟨_, hp, _, e2, ?_⟩
    rw [List.getElem_map]
    exact q _
def sp_law_draw : Sp := fun vs H Q _ => ∃ c k m : Int, vs = [.int c, .int k, .int m] ∧ 0 ≤ k ∧ k < 1000 ∧ 0 < m ∧ ∀ (z : Int) H', 0 ≤ z → z < m → Same H H' → Q (.int z) H'
theorem ok__law_draw (T : Txt K mg a) : FnOk P w K mg base CX0 1 a.f__law_draw a.d__law_draw P__law_draw sp_law_draw := by
  refine T.F__law_draw.ok sc__law_draw (fun vs H Q E h => ?_) (fun cdv A outer s H vs Q E hr h => ?_)
  · obtain ⟨c, k, m, rfl, _⟩ := h
    rfl
  · obtain ⟨c, k, m, rfl, hk, hk2, hm, q⟩ := h
    refine ⟨_,
(pss_cons (ps_set (i := 3) sc__law_draw.nd rfl (by first | exact Or.inl rfl | exact Or.inr rfl) (pe_tup (pa_cons pe_int (pa_cons pe_int (pa_cons pe_int (pa_cons pe_int (pa_cons pe_int (pa_cons pe_int (pa_cons pe_int (pa_cons pe_int (pa_cons pe_int (pa_cons pe_int (pa_cons pe_int (pa_cons pe_int (pa_cons pe_int (pa_cons pe_int (pa_cons pe_int (pa_cons pe_int pa_nil))))))))))))))))))
    (pss_one (ps_ret (pe_op op_mod (pe_op op_mod (pe_op op_add (pe_op op_mul (pv 0) pe_int) (pe_op op_mul (pv 1) pe_int)) (pe_ix ix_tup (pv 3) (pe_op op_mod (pv 1) pe_int) (fun _ _ => rfl))) (pv 2)))))
      , ?_⟩
    rw [show start N__law_draw [V.int c, V.int k, V.int m] = [some (.int c), some (.int k), some (.int m), none] from rfl]
    walk_at "rdh"
    intro p hp
    refine ⟨.inr ⟨by decide, by decide⟩, .inr ⟨by decide, by decide⟩, by decide, _, .inl (.inl upd_same), ?_⟩
    have h16 : ∃ z : Int, atI [V.int 1000003, V.int 1000033, V.int 1000037, V.int 1000039, V.int 1000081, V.int 1000099, V.int 1000117, V.int 1000121, V.int 1000133, V.int 1000151, V.int 1000159, V.int 1000171, V.int 1000183, V.int 1000187, V.int 1000193, V.int 1000199] (k % 16) = some (V.int z) ∧ 0 < z := by
      obtain ⟨j, hj, e⟩ : ∃ j : Nat, j < 16 ∧ k % 16 = (j : Int) := ⟨(k % 16).toNat, by omega, by omega⟩
      rw [e]
      match j, hj with
      | 0, _ | 1, _ | 2, _ | 3, _ | 4, _ | 5, _ | 6, _ | 7, _ | 8, _ | 9, _ | 10, _ | 11, _ | 12, _ | 13, _ | 14, _ | 15, _ => exact ⟨_, rfl, by decide⟩
      | n + 16, h => exact absurd h (by omega)
    obtain ⟨z, e, hz⟩ := h16
    exact ⟨_, e, z, rfl, hz, q _ _ (Int.emod_nonneg _ (by omega)) (Int.emod_lt_of_pos _ hm) (same_new hp)⟩
def sp_law_number : Sp := fun vs H Q _ => ∃ c k m : Int, vs = [.int c, .int k, .int m] ∧ 0 ≤ k ∧ k < 1000 ∧ 0 < m ∧ ∀ (z : Int) H', 0 ≤ z → z < m → Same H H' → Q (.int z) H'
theorem ok__law_number (T : Txt K mg a) : FnOk P w K mg base CX0 2 a.f__law_number a.d__law_number P__law_number sp_law_number := by
  refine T.F__law_number.ok sc__law_number (fun vs H Q E h => ?_) (fun cdv A outer s H vs Q E hr h => ?_)
  · obtain ⟨c, k, m, rfl, _⟩ := h
    rfl
  · obtain ⟨c, k, m, rfl, hk, hk2, hm, q⟩ := h
    have G__law_draw := ok__law_draw (P := P) (w := w) (base := base) T
    have B__law_draw := bi__law_draw T
    refine ⟨_,
(pss_cons (ps_set (i := 3) sc__law_number.nd rfl (by first | exact Or.inl rfl | exact Or.inr rfl) (pe_op op_sub (pv 0) (pe_op op_pow pe_int pe_int)))
    (pss_cons (ps_for PassesOwn.never rfl (pi_range1 rfl T.b_range (pa_cons (pe_op op_mod (pv 1) pe_int) pa_nil)) (pg_name (i := 4) sc__law_number.nd rfl (by first | exact Or.inl rfl | exact Or.inr rfl))
    (pss_one (ps_set (i := 3) sc__law_number.nd rfl (by first | exact Or.inl rfl | exact Or.inr rfl) (pe_op op_fdiv (pv 3) pe_int))))
    (pss_cons (ps_if (pt_cmpR op_gt (pv 3) pe_int (nomark _)) (pss_one (ps_ret (pe_op op_mod (pe_op op_mod (pv 3) pe_int) (pv 2)))) pss_nil)
    (pss_cons (ps_set (i := 5) sc__law_number.nd rfl (by first | exact Or.inl rfl | exact Or.inr rfl) (pe_op op_mod (pv 0) pe_int))
    (pss_one (ps_ret (pe_op op_mod (pe_call G__law_draw (hr.mono (by decide)) rfl T.f__law_draw.g T.f__law_draw.k B__law_draw .nil pass0 (pa_cons (pe_op op_mul (pe_op op_add (pv 5) (pe_op op_mul pe_int (pv 1))) (pe_op op_add (pe_op op_add (pv 5) (pe_op op_mul pe_int (pv 1))) pe_int)) (pa_cons (pe_op op_add (pe_op op_mod (pv 1) pe_int) pe_int) (pa_cons pe_int pa_nil)))) (pv 2))))))))
      , ?_⟩
    rw [show start N__law_number [V.int c, V.int k, V.int m] = [some (.int c), some (.int k), some (.int m), none, none, none] from rfl]
    walk_at "rdh"
    refine ⟨⟨by decide, by decide, by decide⟩, ?_⟩
    refine tfor_it (J := Itr 0 (k % 24).toNat) (H1 := H) (fun R hR => ?_) walk_range (fun i σ H' => H' = H ∧ ∃ rest v, σ = [some (.int c), some (.int k), some (.int m), some (.int rest), v, none]) ⟨rfl, _, _, rfl⟩ (fun _ _ _ _ _ => trivial) ?_ ?_
    · walk_at "rd"
      exact ⟨by decide, by omega, by omega, hR⟩
    · rintro i x σ H2 H3 hi ⟨rfl, rest, v, rfl⟩ ⟨rfl, rfl⟩
      walk_at "rd"
      exact ⟨⟨by decide, by decide⟩, _, rfl⟩
    · rintro σ H2 ⟨rfl, rest, v, rfl⟩
      walk_at "rd"
      refine ite2 (fun _ => ⟨by decide, hm, q _ _ (Int.emod_nonneg _ (by omega)) (Int.emod_lt_of_pos _ hm) (Same.refl _)⟩) (fun _ => ?_)
      have b1 : 0 ≤ c % 1000003 := Int.emod_nonneg _ (by decide)
      have b2 : c % 1000003 < 1000003 := Int.emod_lt_of_pos _ (by decide)
      refine ⟨by decide, .inl ⟨by decide, by decide⟩, .inl ⟨by decide, by decide⟩, .inl ⟨by omega, by omega⟩, by decide, _, _, _, rfl, by omega, by omega, by decide, fun z H' z1 z2 s1 => ?_⟩
      exact ⟨z, rfl, hm, q _ _ (Int.emod_nonneg _ (by omega)) (Int.emod_lt_of_pos _ hm) s1⟩
/-! ### the state of drawing -/
/-- the script: frozen, or an object of the module -/
def Scr (K : PySem.W.Frag) (ns : List Int) (H : Hp) (scr : Addr) : Prop := (∃ o, H scr = some (.frz o (.lst (ns.map V.int)))) ∨ SqL K (fun _ => none) scr (ns.map V.int)
theorem Scr.sq {ns : List Int} {H : Hp} {scr : Addr} (h : Scr K ns H scr) : SqL K H scr (ns.map V.int) := by
  rcases h with ⟨o, h⟩ | (h | ⟨o, h⟩) | h
  · exact .inl (.inr ⟨o, h⟩)
  · cases h
  · cases h
  · exact .inr h
theorem Scr.kp {ns : List Int} {H H' : Hp} {scr p : Addr} {o : HO} (h : Scr K ns H scr) (k : Kp p H H') (hp : H p = some o) (no : ∀ u l, o ≠ .frz u l) : Scr K ns H' scr := by
  rcases h with ⟨u, h⟩ | h
  · refine .inl ⟨u, k _ _ h fun z => ?_⟩
    rw [z, hp] at h
    exact no _ _ (Option.some.inj h)
  · exact .inr h
theorem Scr.same {ns : List Int} {H H' : Hp} {scr : Addr} (h : Scr K ns H scr) (k : Same H H') : Scr K ns H' scr := h.imp (fun ⟨u, h⟩ => ⟨u, k _ _ h⟩) id
def Stt (K : PySem.W.Frag) (ns : List Int) (H : Hp) (st : Addr) : Prop := ∃ (scr : Addr) (b n : Int), H st = some (.lst [.ref scr, .int b, .int n]) ∧ Scr K ns H scr ∧ 0 ≤ b ∧ 0 ≤ n
theorem Stt.same {ns : List Int} {H H' : Hp} {st : Addr} (h : Stt K ns H st) (s : Same H H') : Stt K ns H' st := by
  obtain ⟨scr, b, n, h1, h2, h4⟩ := h
  exact ⟨scr, b, n, s _ _ h1, h2.same s, h4⟩
/-- another object is changed -/
theorem Stt.kp {ns : List Int} {H H' : Hp} {st p : Addr} {o : HO} (h : Stt K ns H st) (k : Kp p H H') (hp : H p = some o) (no : ∀ u l, o ≠ .frz u l) (ne : st ≠ p) : Stt K ns H' st := by
  obtain ⟨scr, b, n, h1, h2, h4⟩ := h
  exact ⟨scr, b, n, k _ _ h1 ne, h2.kp k hp no, h4⟩
theorem Stt.has {ns : List Int} {H : Hp} {st : Addr} (h : Stt K ns H st) : ∃ xs, H st = some (.lst xs) := by
  obtain ⟨scr, b, n, h1, _⟩ := h
  exact ⟨_, h1⟩
def sp_law_next (K : PySem.W.Frag) : Sp := fun vs H Q _ => ∃ (ns : List Int) (st : Addr) (m : Int), vs = [.ref st, .int m] ∧ Stt K ns H st ∧ 0 < m ∧ ∀ (z : Int) H', 0 ≤ z → z < m → Stt K ns H' st → Kp st H H' → Q (.int z) H'
theorem ok__law_next (T : Txt K mg a) : FnOk P w K mg base CX0 3 a.f__law_next a.d__law_next P__law_next (sp_law_next K) := by
  refine T.F__law_next.ok sc__law_next (fun vs H Q E h => ?_) (fun cdv A outer s H vs Q E hr h => ?_)
  · obtain ⟨ns, st, m, rfl, _⟩ := h
    rfl
  · obtain ⟨ns, st, m, rfl, ⟨scr, b, n, h1, h3, hb, hn⟩, hm, q⟩ := h
    have G__law_cell_at := ok__law_cell_at (P := P) (w := w) (base := base) T
    have B__law_cell_at := bi__law_cell_at T
    have G__law_number := ok__law_number (P := P) (w := w) (base := base) T
    have B__law_number := bi__law_number T
    refine ⟨_,
(pss_cons (ps_asg (pe_op op_add (pe_ix ix_list (pv 0) pe_int (fun _ _ => rfl)) pe_int) (pg_sub (pv 0) pe_int set_list))
    (pss_cons (ps_set (i := 2) sc__law_next.nd rfl (by first | exact Or.inl rfl | exact Or.inr rfl) (pe_op op_fdiv (pe_ix ix_list (pv 0) pe_int (fun _ _ => rfl)) pe_int))
    (pss_cons (ps_set (i := 3) sc__law_next.nd rfl (by first | exact Or.inl rfl | exact Or.inr rfl) (pe_op op_add (pe_call G__law_cell_at (hr.mono (by decide)) rfl T.f__law_cell_at.g T.f__law_cell_at.k B__law_cell_at .nil pass0 (pa_cons (pe_ix ix_list (pv 0) pe_int (fun _ _ => rfl)) (pa_cons (pe_op op_add (pe_ix ix_list (pv 0) pe_int (fun _ _ => rfl)) (pv 2)) pa_nil))) (pe_op op_mul pe_int (pv 2))))
    (pss_one (ps_ret (pe_call G__law_number (hr.mono (by decide)) rfl T.f__law_number.g T.f__law_number.k B__law_number .nil pass0 (pa_cons (pv 3) (pa_cons (pe_op op_add (pe_op op_mod (pe_ix ix_list (pv 0) pe_int (fun _ _ => rfl)) pe_int) pe_int) (pa_cons (pv 1) pa_nil)))))))))
      , ?_⟩
    rw [show start N__law_next [V.ref st, V.int m] = [some (.ref st), some (.int m), none, none] from rfl]
    walk_at "rd"
    have e1 : upd H st (HO.lst [V.ref scr, V.int b, V.int (n + 1)]) st = some (HO.lst [V.ref scr, V.int b, V.int (n + 1)]) := upd_same
    have k1 : Kp st H (upd H st (HO.lst [V.ref scr, V.int b, V.int (n + 1)])) := kp_upd
    refine ⟨_, .inl (.inl h1), _, rfl, n, rfl, _, h1, 2, rfl, ?_⟩
    simp only [List.set_cons_succ, List.set_cons_zero]
    generalize upd H st (HO.lst [V.ref scr, V.int b, V.int (n + 1)]) = H1 at *
    have n1 : 0 ≤ (n + 1) / 12 := by omega
    refine ⟨_, .inl (.inl e1), _, rfl, _, rfl, ⟨by decide, by decide⟩, _, .inl (.inl e1), _, rfl, _, .inl (.inl e1), _, rfl, _, rfl, ?_⟩
    have h3' := h3.kp k1 h1 (fun _ _ z => nomatch z)
    refine ⟨scr, b + (n + 1) / 12, ns, rfl, h3'.sq, by omega, fun z => ?_⟩
    refine ⟨.inl ⟨by decide, by decide⟩, z, rfl, _, .inl (.inl e1), _, rfl, _, rfl, by decide, ?_⟩
    refine ⟨_, _, m, rfl, by omega, by omega, hm, fun y H2 y1 y2 s2 => ?_⟩
    exact q y H2 y1 y2 ⟨scr, b, n + 1, s2 _ _ e1, h3'.same s2, hb, by omega⟩ (k1.trans (s2.kp st))
/-! ### drawn rules -/
def signs12 : Tx := [32, 39, 34, 92, 35, 10, 44, 59, 96, 94, 97, 98]
def sV (t : Tx) : V := .str (S t)
def sV1 (c : Nat) : V := .str (S [c])
theorem Ok_sgn {r : RS} (h : r.Ok) : ∀ c ∈ r.every, c < 1000 := fun c hc => by
  have := List.all_eq_true.mp h.sg c hc
  simp only [sgn, Bool.or_eq_true, decide_eq_true_eq] at this
  omega
def RS.tup (r : RS) : List V := [.str (S r.breaks), .str (S r.hard), .str (S r.soft), .str (S r.bend), .str (S r.note)]
def usual : RS := ⟨[32], [39], [34], [92], [35]⟩
theorem usual_ok : usual.Ok := ⟨by decide, by decide, by decide, by decide, by decide, by decide, by decide, by decide⟩
def lims : List Nat := [4, 2, 2, 1, 1]
structure TInv (K : PySem.W.Frag) (ns : List Int) (st left found : Addr) (H0 H : Hp) (ls : Tx) (parts : List Tx) (part : Tx) (i : Nat) : Prop where
  stt : Stt K ns H st
  l : H left = some (.lst (ls.map sV1))
  f : H found = some (.lst (parts.map sV))
  ln : parts.length = i
  lim : ∀ (j : Nat) (p : Tx) (n : Nat), parts[j]? = some p → lims[j]? = some n → p.length ≤ n
  ne : ∀ p : Tx, parts[0]? = some p → p ≠ []
  perm : (parts.flatten ++ (part ++ ls)).Perm signs12
  kp : Kp st H0 H
  tot : parts.flatten.length ≤ (lims.take i).sum
theorem TInv.same {ns : List Int} {st left found : Addr} {H0 H H' : Hp} {ls : Tx} {parts : List Tx} {part : Tx} {i : Nat} (h : TInv K ns st left found H0 H ls parts part i) (s : Same H H') : TInv K ns st left found H0 H' ls parts part i :=
  ⟨h.stt.same s, s _ _ h.l, s _ _ h.f, h.ln, h.lim, h.ne, h.perm, h.kp.trans (s.kp st), h.tot⟩
/-- drawing alone changes the state alone -/
theorem TInv.draw {ns : List Int} {st left found : Addr} {H0 H H' : Hp} {ls : Tx} {parts : List Tx} {part : Tx} {i : Nat} (h : TInv K ns st left found H0 H ls parts part i) (n1 : left ≠ st) (n2 : found ≠ st) (t : Stt K ns H' st) (s : Kp st H H') :
    TInv K ns st left found H0 H' ls parts part i := ⟨t, s _ _ h.l n1, s _ _ h.f n2, h.ln, h.lim, h.ne, h.perm, h.kp.trans s, h.tot⟩
theorem TInv.few {ns : List Int} {st left found : Addr} {H0 H : Hp} {ls : Tx} {parts : List Tx} {part : Tx} {i : Nat} (h : TInv K ns st left found H0 H ls parts part i) (hp : (lims.take i).sum + part.length < 12) : 0 < ls.length := by
  have e := h.perm.length_eq
  rw [List.length_append, List.length_append, show signs12.length = 12 from rfl] at e
  have := h.tot
  omega
theorem TInv.ok8 {ns : List Int} {st left found : Addr} {H0 H : Hp} {ls : Tx} {parts : List Tx} {part : Tx} {i : Nat} (h : TInv K ns st left found H0 H ls parts part i) : ∀ t ∈ parts, ok8 t := fun t ht c hc => by
  have h1 : c ∈ parts.flatten ++ (part ++ ls) := List.mem_append_left _ (List.mem_flatten.mpr ⟨t, ht, hc⟩)
  have h2 := h.perm.mem_iff.mp h1
  have : ∀ c ∈ signs12, c < 1000 := by decide
  exact this c h2
def sp_law_told (K : PySem.W.Frag) : Sp := fun vs H Q _ => ∃ (ns : List Int) (st : Addr), vs = [.ref st] ∧ Stt K ns H st ∧ ∀ (r : RS) tp H', r.Ok → H tp = none → H' tp = some (.tup r.tup) → Stt K ns H' st → Kp st H H' → Q (.ref tp) H'
theorem ok__law_told (T : Txt K mg a) : FnOk P w K mg base CX0 4 a.f__law_told a.d__law_told P__law_told (sp_law_told K) := by
  refine T.F__law_told.ok sc__law_told (fun vs H Q E h => ?_) (fun cdv A outer s H vs Q E hr h => ?_)
  · obtain ⟨ns, st, rfl, _⟩ := h
    rfl
  · obtain ⟨ns, st, rfl, hs, q⟩ := h
    have G__law_next := ok__law_next (P := P) (w := w) (base := base) T
    have B__law_next := bi__law_next T
    refine ⟨_,
(pss_cons (ps_set (i := 1) sc__law_told.nd rfl (by first | exact Or.inl rfl | exact Or.inr rfl) (pe_callTy (call_list_str rfl) (by rfl) T.b_list (by decide +kernel) (pa_cons pe_str pa_nil)))
    (pss_cons (ps_if (pt_cmpR op_eq (pe_call G__law_next (hr.mono (by decide)) rfl T.f__law_next.g T.f__law_next.k B__law_next .nil pass0 (pa_cons (pv 0) (pa_cons pe_int pa_nil))) pe_int (nomark _)) (pss_one (ps_ret (pe_tup (pa_cons pe_str (pa_cons pe_str (pa_cons pe_str (pa_cons pe_str (pa_cons pe_str pa_nil)))))))) pss_nil)
    (pss_cons (ps_set (i := 2) sc__law_told.nd rfl (by first | exact Or.inl rfl | exact Or.inr rfl) (pe_lst pa_nil))
    (pss_cons (ps_for PassesOwn.never rfl (pi_tup (pe_tup (pa_cons pe_int (pa_cons pe_int (pa_cons pe_int (pa_cons pe_int (pa_cons pe_int pa_nil))))))) (pg_name (i := 3) sc__law_told.nd rfl (by first | exact Or.inl rfl | exact Or.inr rfl))
    (pss_cons (ps_par (i := 4) (j := 5) (by rfl) sc__law_told.nd rfl rfl (by decide) rfl rfl (pa_cons pe_str (pa_cons (pe_callTy call_int1 (by rfl) T.b_int (by decide +kernel) (pa_cons (pe_cmpR (op_eqD hr.units) (pv 2) (pe_lst pa_nil) (nomark _)) pa_nil)) pa_nil)) (by rfl))
    (pss_cons (ps_for PassesOwn.never rfl (pi_range1 rfl T.b_range (pa_cons (pe_op op_add (pv 5) (pe_call G__law_next (hr.mono (by decide)) rfl T.f__law_next.g T.f__law_next.k B__law_next .nil pass0 (pa_cons (pv 0) (pa_cons (pv 3) pa_nil)))) pa_nil)) (pg_name (i := 6) sc__law_told.nd rfl (by first | exact Or.inl rfl | exact Or.inr rfl))
    (pss_one (ps_set (i := 4) sc__law_told.nd rfl (by first | exact Or.inl rfl | exact Or.inr rfl) (pe_op op_add_str (pv 4) (pe_bm PySem.F.plainAttrs_list PySem.F.slot_list_pop PySem.F.type_list_pop mt_popAt (pv 1) (pa_cons (pe_call G__law_next (hr.mono (by decide)) rfl T.f__law_next.g T.f__law_next.k B__law_next .nil pass0 (pa_cons (pv 0) (pa_cons (pe_callB call_len_seq (by rfl) T.b_len PySem.boot_len (pa_cons (pv 1) pa_nil)) pa_nil))) pa_nil))))))
    (pss_one (ps_expr (pe_bm PySem.F.plainAttrs_list PySem.F.slot_list_append PySem.F.type_list_append mt_append (pv 2) (pa_cons (pv 4) pa_nil)))))))
    (pss_one (ps_ret (pe_callTy call_tuple_of (by rfl) T.b_tuple (by decide +kernel) (pa_cons (pv 2) pa_nil))))))))
      , ?_⟩
    rw [show start N__law_told [V.ref st] = [some (.ref st), none, none, none, none, none, none] from rfl]
    walk_at "rd"
    refine ⟨signs12, by decide +kernel, by decide, fun left hl => ?_⟩
    have S1 := same_new (o := HO.lst (signs12.map sV1)) hl
    have l1 : upd H left (HO.lst (signs12.map sV1)) left = some (HO.lst (signs12.map sV1)) := upd_same
    show sp_law_next K [V.ref st, V.int 3] (upd H left (HO.lst (signs12.map sV1))) _ _
    generalize upd H left (HO.lst (signs12.map sV1)) = H1 at *
    refine ⟨ns, st, 3, rfl, hs.same S1, by decide, fun z H2 z1 z2 hs2 k2 => ⟨rfl, ?_⟩⟩
    have nls : left ≠ st := fun e => by
      obtain ⟨xs, e1⟩ := hs.has
      rw [← e, hl] at e1; cases e1
    have K2 : Kp st H H2 := (S1.kp st).trans k2
    have l2 := k2 _ _ l1 nls
    have fr : ∀ {H' : Hp} {p : Addr}, Kp st H H' → H' p = none → Stt K ns H' st → H p = none := fun {H' p} k e t => by
      cases e1 : H p with
      | none => rfl
      | some o =>
        obtain ⟨xs, e2⟩ := t.has
        have := k _ _ e1 fun z => by rw [z, e2] at e; cases e
        rw [e] at this; cases this
    refine ite2 (fun _ tp htp => ?_) (fun _ found hf => ?_)
    · refine q usual tp _ usual_ok (fr K2 htp hs2) ?_ (hs2.same (same_new htp)) (K2.trans ((same_new htp).kp st))
      rw [upd_same]
      exact congrArg (fun l => some (HO.tup l)) (by decide +kernel)
    have f0 := fr K2 hf hs2
    have S3 := same_new (o := HO.lst []) hf
    have hs3 := hs2.same S3
    have nfl : found ≠ left := fun z => by rw [z, l2] at hf; cases hf
    have nfs : found ≠ st := fun z => by
      obtain ⟨xs, e2⟩ := hs2.has
      rw [z, e2] at hf; cases hf
    have l3 := S3 _ _ l2
    have f3 : upd H2 found (HO.lst []) found = some (HO.lst []) := upd_same
    have K3 : Kp st H (upd H2 found (HO.lst [])) := K2.trans (S3.kp st)
    generalize upd H2 found (HO.lst []) = H3 at *
    have inv0 : TInv K ns st left found H H3 signs12 [] [] 0 := ⟨hs3, l3, f3, rfl, fun j p n e => (by simp at e), fun p e => (by simp at e), List.Perm.refl _, K3, Nat.zero_le _⟩
    have mosts : ∀ i : Nat, i < 5 → ∀ x, ([V.int 4, V.int 3, V.int 3, V.int 2, V.int 2] : List V)[i]? = some x → ∃ m n : Nat, x = .int m ∧ 0 < m ∧ lims[i]? = some n ∧ (i = 0 → m ≤ n) ∧ m ≤ n + 1 ∧ n ≤ 4 ∧ (lims.take i).sum + n ≤ 10 ∧ (lims.take (i + 1)).sum = (lims.take i).sum + n := fun i hi x e => by
      match i, hi, e with
      | 0, _, e => cases e; exact ⟨4, 4, rfl, by decide⟩
      | 1, _, e => cases e; exact ⟨3, 2, rfl, by decide⟩
      | 2, _, e => cases e; exact ⟨3, 2, rfl, by decide⟩
      | 3, _, e => cases e; exact ⟨2, 1, rfl, by decide⟩
      | 4, _, e => cases e; exact ⟨2, 1, rfl, by decide⟩
    refine tfor_all (C := fun p => H3 p = none) (J := fun p => Itt K p) (H1 := fun p => upd H3 p (.tup [.int 4, .int 3, .int 3, .int 2, .int 2])) (fun R hR => ?_) fun p hp => ?_
    · walk_at "rd"
      exact fun p hp => ⟨⟨_, .inl (.inl upd_same)⟩, hR p hp⟩
    refine for_it (n := 5) (walk_tup (xs := [.int 4, .int 3, .int 3, .int 2, .int 2])) (fun i σ H4 => H4 p = some (.tup [.int 4, .int 3, .int 3, .int 2, .int 2]) ∧ ∃ v3 v4 v5 v6 ls parts, σ = [some (.ref st), some (.ref left), some (.ref found), v3, v4, v5, v6] ∧
      TInv K ns st left found H H4 ls parts [] i) ?_ (fun i σ H hi h => .inl (.inl h.1)) ?_ ?_
    · have S4 := same_new (o := HO.tup [.int 4, .int 3, .int 3, .int 2, .int 2]) hp
      exact ⟨upd_same, none, none, none, none, signs12, [], rfl, ⟨inv0.stt.same S4, S4 _ _ inv0.l, S4 _ _ inv0.f, inv0.ln, inv0.lim, inv0.ne, inv0.perm, inv0.kp.trans (S4.kp st), inv0.tot⟩⟩
    · rintro i x σ H4 H5 hi ⟨tp, v3, v4, v5, v6, ls, parts, rfl, inv⟩ ⟨rfl, hx⟩
      obtain ⟨m, n, rfl, m0, hn, mn0, mn, n4, tn, t1⟩ := mosts i hi x hx
      walk_at "rd"
      intro p1 hp1
      have S5 := same_new (o := HO.lst []) hp1
      have inv5 := inv.same S5
      have tp5 := S5 _ _ tp
      have y5 : upd H5 p1 (HO.lst []) p1 = some (HO.lst []) := upd_same
      generalize upd H5 p1 (HO.lst []) = H6 at *
      have te : tame (wsD parts) = true := wsD_tame inv5.ok8
      refine ⟨wsD parts, dp_ws (.inl (.inl inv5.f)), .list [], .lst (.inl (.inl y5)) .nil, shaped_of te (Nat.le_trans (wsD_depth _) (by decide)), by decide, .inr ?_⟩
      have ev : PyData.eqv (wsD parts) (.list []) = decide (parts = []) := eqv_dec te rfl (wsD_inj (y := []))
      rw [ev]
      obtain ⟨least, hle, l0⟩ : ∃ least : Nat, (if decide (parts = []) = true then 1 else 0 : Int) = least ∧ ((i = 0 ∧ least = 1) ∨ (i ≠ 0 ∧ least = 0)) := by
        by_cases e : parts = []
        · exact ⟨1, by simp [e], .inl ⟨by rw [← inv5.ln, e]; rfl, rfl⟩⟩
        · exact ⟨0, by simp [e], .inr ⟨fun z => e (List.eq_nil_of_length_eq_zero (inv5.ln.trans z)), rfl⟩⟩
      rw [hle]
      refine tfor_all (ι := Int × Hp) (C := fun x => 0 ≤ x.1 ∧ x.1 < m ∧ Stt K ns x.2 st ∧ Kp st H6 x.2) (J := fun x => Itr 0 ((least : Int) + x.1).toNat) (H1 := fun x => x.2) (fun R hR => ?_) fun x hx => ?_
      · walk_at "rd"
        exact ⟨ns, st, m, rfl, inv5.stt, by omega, fun z H' z1 z2 t k => ⟨z, rfl, by omega, by omega, hR (z, H') ⟨z1, z2, t, k⟩⟩⟩
      obtain ⟨z, H7⟩ := x
      obtain ⟨c1, c2, c3, c4⟩ := hx
      dsimp only at c1 c2 c3 c4
      have inv7 := inv5.draw nls nfs c3 c4
      have nps : p ≠ st := fun e => by
        obtain ⟨xs, e2⟩ := inv.stt.has
        rw [← e, tp] at e2; cases e2
      have tp7 := c4 _ _ tp5 nps
      have hn' : ((least : Int) + z).toNat ≤ n := by omega
      refine for_it (n := ((least : Int) + z).toNat) walk_range (fun k σ H8 => H8 p = some (.tup [.int 4, .int 3, .int 3, .int 2, .int 2]) ∧ ∃ v6 ls part, σ = [some (.ref st), some (.ref left), some (.ref found), some (.int m), some (.str (S part)), some (.int least), v6] ∧ part.length = k ∧
        TInv K ns st left found H H8 ls parts part i) ?_ (fun _ _ _ _ _ => trivial) ?_ ?_
      · exact ⟨tp7, _, _, [], rfl, rfl, inv7⟩
      · rintro k x σ H8 H9 hk ⟨tp8, v6, ls, part, rfl, pl, inv8⟩ ⟨rfl, rfl⟩
        walk_at "rd"
        have few := inv8.few (by omega)
        refine ⟨.inl ⟨rfl, _, .inl (.inl inv8.l)⟩, _, .inl (.inl (.inl inv8.l)), ?_⟩
        refine ⟨ns, st, _, rfl, inv8.stt, by rw [List.length_map]; omega, fun y H10 y1 y2 t10 k10 => ?_⟩
        rw [List.length_map] at y2
        have inv10 := inv8.draw nls nfs t10 k10
        obtain ⟨j, hj, rfl⟩ : ∃ j : Nat, j < ls.length ∧ y = (j : Int) := ⟨y.toNat, by omega, by omega⟩
        have lz : ls.length ≤ 12 := by
          have e := inv8.perm.length_eq
          rw [List.length_append, List.length_append, show signs12.length = 12 from rfl] at e
          omega
        refine ⟨_, _, rfl, inv10.l, by omega, by omega, j, seqIndex_of (by omega) (by rw [List.length_map]; omega), sV1 ls[j], by rw [List.getElem?_map, List.getElem?_eq_getElem hj]; rfl, _, rfl, ?_, ?_, _, ls.eraseIdx j, part ++ [ls[j]], S_app _ _, rfl, by rw [List.length_append, pl]; rfl, ?_⟩
        · exact Nat.le_trans (show part.length + 1 ≤ 100 by omega) (by decide)
        · have npl : p ≠ left := fun e => by
            have := inv8.l
            rw [← e, tp8] at this; cases this
          rw [upd_ne npl]
          exact k10 _ _ tp8 nps
        · have el : (ls.map sV1).eraseIdx j = (ls.eraseIdx j).map sV1 := map_eraseIdx' _ _ _
          rw [el]
          refine ⟨inv10.stt.kp kp_upd inv10.l (fun _ _ z => nomatch z) (Ne.symm nls), upd_same, by rw [upd_ne nfl]; exact inv10.f, inv10.ln, inv10.lim, inv10.ne, ?_, inv10.kp.mut hl, inv10.tot⟩
          refine List.Perm.trans ?_ inv10.perm
          rw [List.append_assoc]
          exact List.Perm.append_left _ (List.Perm.append_left _ (perm_eraseIdx hj))
      · rintro σ H8 ⟨tp8, v6, ls, part, rfl, pl, inv8⟩
        walk_at "rd"
        have pz : parts.length ≤ 5 := by rw [inv8.ln]; omega
        refine ⟨.inl ⟨rfl, _, .inl (.inl inv8.f)⟩, _, inv8.f, ?_, ?_, ⟨_, rfl⟩, ls, parts ++ [part], ?_⟩
        · rw [List.length_map]
          exact Nat.lt_of_le_of_lt pz (by decide)
        · have npf : p ≠ found := fun e => by
            have := inv8.f
            rw [← e, tp8] at this; cases this
          rw [upd_ne npf]
          exact tp8
        · have tt := inv8.tot
          refine ⟨inv8.stt.kp kp_upd inv8.f (fun _ _ z => nomatch z) (Ne.symm nfs), by rw [upd_ne (Ne.symm nfl)]; exact inv8.l, by rw [upd_same, List.map_append]; rfl, by rw [List.length_append, inv8.ln]; rfl, fun j q c hq hc => ?_, fun q hq => ?_, ?_, inv8.kp.mut f0, ?_⟩
          · by_cases hj : j < parts.length
            · rw [List.getElem?_append_left hj] at hq
              exact inv8.lim j q c hq hc
            · rw [List.getElem?_append_right (by omega)] at hq
              have hj0 : j - parts.length = 0 := by
                cases e : j - parts.length with
                | zero => rfl
                | succ _ => rw [e] at hq; simp at hq
              have hji : j = i := by have := inv8.ln; omega
              rw [hj0] at hq
              cases (Option.some.inj hq : part = q)
              rw [hji, hn] at hc
              cases hc
              omega
          · rcases l0 with ⟨i0, e1⟩ | ⟨i0, e1⟩
            · have e2 : parts = [] := List.eq_nil_of_length_eq_zero (inv8.ln.trans i0)
              rw [e2] at hq
              cases (Option.some.inj hq : part = q)
              intro e3
              rw [e3] at pl
              simp only [List.length_nil] at pl
              omega
            · rw [List.getElem?_append_left (by rw [inv8.ln]; omega)] at hq
              exact inv8.ne q hq
          · refine List.Perm.trans (List.Perm.of_eq ?_) inv8.perm
            simp
          · rw [t1, List.flatten_append, List.length_append]
            simp only [List.flatten_cons, List.flatten_nil, List.append_nil]
            omega
    · rintro σ H4 ⟨tp, v3, v4, v5, v6, ls, parts, rfl, inv⟩
      walk_at "rd"
      have ln := inv.ln
      have l4 := inv.lim
      have l5 := inv.ne
      have l6 := inv.perm
      have l7 := inv.f
      match parts, ln, l4, l5, l6, l7 with
      | [b, h, so, be, no], _, l4, l5, l6, l7 =>
        have nd12 : signs12.Nodup := by decide
        have sg12 : ∀ c ∈ signs12, sgn c = true := by decide
        have fe : [b, h, so, be, no].flatten = (⟨b, h, so, be, no⟩ : RS).every := by simp [RS.every]
        rw [fe] at l6
        have ok : (⟨b, h, so, be, no⟩ : RS).Ok := ⟨l4 0 b 4 rfl rfl, l4 1 h 2 rfl rfl, l4 2 so 2 rfl rfl, l4 3 be 1 rfl rfl, l4 4 no 1 rfl rfl, l5 b rfl,
          List.all_eq_true.mpr fun c hc => sg12 c (l6.mem_iff.mp (List.mem_append_left _ hc)), (List.nodup_append.mp (l6.nodup_iff.mpr nd12)).1⟩
        refine ⟨_, .inl ⟨.inl (.inl l7), fun t ht => ?_⟩⟩
        exact q ⟨b, h, so, be, no⟩ t _ ok (fr inv.kp ht inv.stt) upd_same (inv.stt.same (same_new ht)) (inv.kp.trans ((same_new ht).kp st))
def sp_law_rules (a : Ad) : Sp := fun vs H Q _ => ∃ tp r, vs = [.ref tp] ∧ H tp = some (.tup (RS.tup r)) ∧ r.Ok ∧ ∀ p dx H', H p = none → H' p = some (.ins a.c_Rules dx r.f) → Same H H' → Q (.ref p) H'
theorem ok__law_rules (T : Txt K mg a) : FnOk P w K mg base CX0 4 a.f__law_rules a.d__law_rules P__law_rules (sp_law_rules a) := by
  refine T.F__law_rules.ok sc__law_rules (fun vs H Q E h => ?_) (fun cdv A outer s H vs Q E hr h => ?_)
  · obtain ⟨tp, r, rfl, _⟩ := h
    rfl
  · obtain ⟨tp, r, rfl, ht, ok, q⟩ := h
    have G_Rules_init := ok_Rules_init (P := P) (w := w) (base := base) T
    have B_Rules_init := bi_Rules_init T
    obtain ⟨Ds_Rules_init0, D_Rules_init0, B_Rules_init0⟩ := bi_Rules_init0 T
    refine ⟨_,
(pss_one (ps_ret (pe_make T.c_Rules.mc G_Rules_init (hr.mono (by decide)) rfl T.c_Rules.g B_Rules_init .nil pass0 (pa_cons (pe_ix ix_tup (pv 0) pe_int (fun _ _ => rfl)) (pa_cons (pe_ix ix_tup (pv 0) pe_int (fun _ _ => rfl)) (pa_cons (pe_ix ix_tup (pv 0) pe_int (fun _ _ => rfl)) (pa_cons (pe_ix ix_tup (pv 0) pe_int (fun _ _ => rfl)) (pa_cons (pe_ix ix_tup (pv 0) pe_int (fun _ _ => rfl)) pa_nil))))))))
      , ?_⟩
    rw [show start N__law_rules [V.ref tp] = [some (.ref tp)] from rfl]
    walk_at "rd"
    refine ⟨_, .inl (.inl ht), _, rfl, _, .inl (.inl ht), _, rfl, _, .inl (.inl ht), _, rfl, _, .inl (.inl ht), _, rfl, _, .inl (.inl ht), _, rfl, fun x dx hx hdx ne => ?_⟩
    refine ⟨x, dx, r, rfl, ok, upd_same, fun H' h1 h2 => ⟨rfl, q x dx H' hx h1 (Same.made hx hdx h2)⟩⟩
end
end Qw

set_option Elab.async false
set_option linter.all false
set_option maxRecDepth 100000
set_option maxHeartbeats 4000000
namespace Qw
open PySem L2
local macro_rules | `(tactic| walk_at "rd") => `(tactic| simp only [iEnum, iRng3, tRevL, rSlS, rSlL, gSub, rSetL, wipe, List.map_cons, List.map_nil, rAll, rAny, rIsi, tM1, tM0, iZipLT, iZip, iRng2, tLenSetS, rListStr, rMulS, rRep, rCntB, tRevS, rNeD, rEqD, tSeq, tNext, tAsg, tRet, tRetN, tDrop, tIfS, sFld, sFldAug, tVar, tC, tOp, tUn, tTest, tB, tAnd, tOr, tNot, tAndV, tOrV, tNotV, tIf, tTup, tLst, tCons, tNil, tCB, tCall, tMeth, tMake, tFld, rI, rI0, rU, rEq, rNe, rCat, gName, gTup, gCons, gNil, tPar, tPar3, tBM, tBM0, rAppend, rExtend, rPopAt, rIxL, rIxT, rIxS, tSl, rSlS, rSlL, tPart, tNoPart, iStr, iTup, iList, iRng1, tAug, ipI, L2.rAdd, L2.rSub, L2.rAddS, tChain, rIsB, rNotB, scal_ss, scal_ii, scal_bb, scal_nn, scal_in, scal_ni, tYes,
  cx_K, cx_N, List.getElem?_cons_zero, List.getElem?_cons_succ, List.set_cons_zero, List.set_cons_succ, List.nil_append, List.cons_append, List.append_nil, List.length_cons, List.length_nil, Nat.zero_add,
  Option.some.injEq, V.ref.injEq, V.int.injEq, V.str.injEq, V.bl.injEq, HO.ins.injEq, HO.lst.injEq, HO.tup.injEq, List.cons.injEq, exists_eq_left, exists_eq_left', exists_eq_right, exists_eq_right', and_true, true_and, exists_and_left, exists_and_right, and_assoc, decide_eq_true_eq, Bool.not_eq_true', decide_eq_false_iff_not, reduceCtorEq, exists_const, forall_const, if_true, if_false, false_and, and_false, ite_true, ite_false, Bool.true_eq_false, Bool.false_eq_true, Nat.reduceLeDiff, Nat.reduceAdd, small_line, small_lt, upd_ne, ne_eq, not_false_eq_true, Nat.zero_le, Prod.mk.injEq, upd_same, upd_upd, S_tl, S_len, S_app, S_one, S_inj,
  lk_breaks, lk_hard, lk_soft, lk_bend, lk_note, lk_rules, lk_state, lk_bent, lk_word, lk_begun, lk_opened, lk_place, pt_state, pt_bent, pt_word, pt_wordS, pt_wordN, pt_begun, pt_opened, pt_place, pt_place1, len_mf, litv_empty, litv_note, litv_nl, mf_inj, rf_inj, lkn_begin, lkn_ended, lkn_plain, lkn_quoted, lkn_step, lkn_fault, lkn_key, lkn_told, lkn_quotes, lkn_special, pt_open1, not_true_eq_false, not_false_eq_true])
local macro_rules | `(tactic| walk_at "rdh") => `(tactic| simp only [iEnum, iRng3, tRevL, rSlS, rSlL, gSub, rSetL, wipe, List.map_cons, List.map_nil, rAll, rAny, rIsi, tM1, tM0, iZipLT, iZip, iRng2, tLenSetS, rListStr, rMulS, rRep, rCntB, tRevS, rNeD, rEqD, tSeq, tNext, tAsg, tRet, tRetN, tDrop, tIfS, sFld, sFldAug, tVar, tC, tOp, tUn, tTest, tB, tAnd, tOr, tNot, tAndV, tOrV, tNotV, tIf, tTup, tLst, tCons, tNil, tCB, tCall, tMeth, tMake, tFld, rI, rI0, rU, rEq, rNe, rCat, gName, gTup, gCons, gNil, tPar, tPar3, tBM, tBM0, rAppend, rExtend, rPopAt, rIxL, rIxT, rIxS, tSl, rSlS, rSlL, tPart, tNoPart, iStr, iTup, iList, iRng1, tAug, ipI, L2.rAdd, L2.rSub, L2.rAddS, tChain, rIsB, rNotB, scal_ss, scal_ii, scal_bb, scal_nn, scal_in, scal_ni, tYes,
  cx_K, cx_N, List.getElem?_cons_zero, List.getElem?_cons_succ, List.set_cons_zero, List.set_cons_succ, List.nil_append, List.cons_append, List.append_nil, List.length_cons, List.length_nil, Nat.zero_add,
  Option.some.injEq, V.ref.injEq, V.int.injEq, V.str.injEq, V.bl.injEq, HO.ins.injEq, HO.lst.injEq, HO.tup.injEq, List.cons.injEq, exists_eq_left, exists_eq_left', exists_eq_right, exists_eq_right', and_true, true_and, exists_and_left, exists_and_right, and_assoc, decide_eq_true_eq, Bool.not_eq_true', decide_eq_false_iff_not, reduceCtorEq, exists_const, forall_const, if_true, if_false, false_and, and_false, ite_true, ite_false, Bool.true_eq_false, Bool.false_eq_true, Nat.reduceLeDiff, Nat.reduceAdd, small_line, small_lt, upd_ne, ne_eq, not_false_eq_true, Nat.zero_le, Prod.mk.injEq, upd_same, upd_upd, S_tl, S_len, S_app, S_one, S_inj,
  lk_breaks, lk_hard, lk_soft, lk_bend, lk_note, lk_rules, lk_state, lk_bent, lk_word, lk_begun, lk_opened, lk_place, pt_state, pt_bent, pt_word, pt_wordS, pt_wordN, pt_begun, pt_opened, pt_place, pt_place1, len_mf, litv_empty, litv_note, litv_nl, mf_inj, rf_inj, lkn_begin, lkn_ended, lkn_plain, lkn_quoted, lkn_step, lkn_fault, lkn_key, lkn_told, lkn_quotes, lkn_special, pt_open1, not_true_eq_false, not_false_eq_true, *])
local macro_rules | `(tactic| walk_at "pl") => `(tactic| (first | decide | (refine Nat.lt_of_le_of_lt (length_putF _ _ _) ?_; repeat (first | decide | refine pl2 ?_))))
local macro_rules | `(tactic| walk_at "al") => `(tactic| (intro p hp; generalize hH : upd _ p _ = H1; obtain ⟨S, e⟩ := gen_new hH hp; clear hH))
theorem atI_S {t : Tx} {z : Int} (h0 : 0 ≤ z) (h : z < t.length) : ∃ (j : Nat) (hj : j < t.length), z = (j : Int) ∧ atI (S t).cps.toList z = some t[j] := by
  rw [S_tl]
  exact at_in h0 h
theorem atI_S' {t : Tx} {j c : Nat} (h : t[j]? = some c) : atI (S t).cps.toList (j : Int) = some c := by
  rw [S_tl]
  exact atI_nat h
theorem tseq_split {A B : TS} {D : Ends} {σ : St} {H : Hp} (Mid : St → Hp → Prop) (h1 : ∀ N : St → Hp → Prop, (∀ σ' H', Mid σ' H' → N σ' H') → A { D with nx := N } σ H) (h2 : ∀ σ' H', Mid σ' H' → B D σ' H') : tSeq A B D σ H := h1 _ h2
section
variable {P : Program} {w : World} {K : PySem.W.Frag} {mg : Str → Option Value} {base : Heap} {a : Ad}
def sp_law_text (K : PySem.W.Frag) : Sp := fun vs H Q _ => ∃ (ns : List Int) (st tp : Addr) (r : RS) (m : Nat), vs = [.ref st, .ref tp, .int m] ∧ Stt K ns H st ∧ H tp = some (.tup (RS.tup r)) ∧ r.Ok ∧ m ≤ 1000 ∧
  ∀ (t : Tx) H', t.length ≤ m → t.all sgn = true → Stt K ns H' st → Kp st H H' → Q (.str (S t)) H'
theorem ok__law_text (T : Txt K mg a) : FnOk P w K mg base CX0 4 a.f__law_text a.d__law_text P__law_text (sp_law_text K) := by
  refine T.F__law_text.ok sc__law_text (fun vs H Q E h => ?_) (fun cdv A outer s H vs Q E hr h => ?_)
  · obtain ⟨ns, st, tp, r, m, rfl, _⟩ := h
    rfl
  · obtain ⟨ns, st, tp, r, m, rfl, hs, ht, ok, hm, q⟩ := h
    have G__law_next := ok__law_next (P := P) (w := w) (base := base) T
    have B__law_next := bi__law_next T
    refine ⟨_,
(pss_cons (ps_par (i := 3) (j := 4) (by rfl) sc__law_text.nd rfl rfl (by decide) rfl rfl (pa_cons (pe_op op_add_str (pe_join pe_str (pv 1)) pe_str) (pa_cons pe_str pa_nil)) (by rfl))
    (pss_cons (ps_for PassesOwn.never rfl (pi_range1 rfl T.b_range (pa_cons (pe_call G__law_next (hr.mono (by decide)) rfl T.f__law_next.g T.f__law_next.k B__law_next .nil pass0 (pa_cons (pv 0) (pa_cons (pe_op op_add (pv 2) pe_int) pa_nil))) pa_nil)) (pg_name (i := 5) sc__law_text.nd rfl (by first | exact Or.inl rfl | exact Or.inr rfl))
    (pss_cons (ps_set (i := 6) sc__law_text.nd rfl (by first | exact Or.inl rfl | exact Or.inr rfl) (pe_ifExp (pt_cmpR op_gt (pe_call G__law_next (hr.mono (by decide)) rfl T.f__law_next.g T.f__law_next.k B__law_next .nil pass0 (pa_cons (pv 0) (pa_cons pe_int pa_nil))) pe_int (nomark _)) (pv 3) pe_str))
    (pss_one (ps_set (i := 4) sc__law_text.nd rfl (by first | exact Or.inl rfl | exact Or.inr rfl) (pe_op op_add_str (pv 4) (pe_ix ix_str (pv 6) (pe_call G__law_next (hr.mono (by decide)) rfl T.f__law_next.g T.f__law_next.k B__law_next .nil pass0 (pa_cons (pv 0) (pa_cons (pe_callB call_len_str (by rfl) T.b_len PySem.boot_len (pa_cons (pv 6) pa_nil)) pa_nil))) (fun _ _ => rfl)))))))
    (pss_one (ps_ret (pv 4)))))
      , ?_⟩
    rw [show start N__law_text [V.ref st, V.ref tp, V.int m] = [some (.ref st), some (.ref tp), some (.int m), none, none, none, none] from rfl]
    walk_at "rd"
    have ev : r.every.length ≤ 10 := by
      have h1 := ok.l1; have h2 := ok.l2; have h3 := ok.l3; have h4 := ok.l4; have h5 := ok.l5
      simp only [RS.every, List.length_append]; omega
    have jn : Txt.join (S []) [S r.breaks, S r.hard, S r.soft, S r.bend, S r.note] = S r.every := by
      have := join_flat [r.breaks, r.hard, r.soft, r.bend, r.note]
      simpa [RS.every] using this
    have lab : Str.ofString "ab \n" = S [97, 98, 32, 10] := by decide +kernel
    have lcd : Str.ofString "cde~!" = S [99, 100, 101, 126, 33] := by decide +kernel
    refine ⟨⟨_, rfl⟩, [S r.breaks, S r.hard, S r.soft, S r.bend, S r.note], .inr (.inl (.inl ht)), ?_, ?_⟩
    · have h1 := ok.l1; have h2 := ok.l2; have h3 := ok.l3; have h4 := ok.l4; have h5 := ok.l5
      simp only [List.map_cons, List.map_nil, List.sum_cons, List.sum_nil, S_len, List.length_cons, List.length_nil]; omega
    rw [jn, lab, lcd, S_app]
    have sgS : ∀ c ∈ r.every ++ [97, 98, 32, 10], sgn c = true := fun c hc => by
      rcases List.mem_append.mp hc with h | h
      · exact List.all_eq_true.mp ok.sg c h
      · exact (show ∀ c ∈ [97, 98, 32, 10], sgn c = true by decide) c h
    have sgC : ∀ c ∈ [99, 100, 101, 126, 33], sgn c = true := by decide
    have lS : (r.every ++ [97, 98, 32, 10]).length ≤ 14 := by simp only [List.length_append, List.length_cons, List.length_nil]; omega
    have l0 : 0 < (r.every ++ [97, 98, 32, 10]).length := by simp only [List.length_append, List.length_cons, List.length_nil]; omega
    generalize r.every ++ [97, 98, 32, 10] = sg at *
    refine ⟨by rw [S_len, S_len]; exact Nat.le_trans (show r.every.length + 4 ≤ 14 by omega) (by decide), ?_⟩
    refine tfor_all (ι := Int × Hp) (C := fun x => 0 ≤ x.1 ∧ x.1 < (m : Int) + 1 ∧ Stt K ns x.2 st ∧ Kp st H x.2) (J := fun x => Itr 0 x.1.toNat) (H1 := fun x => x.2) (fun R hR => ?_) fun x hx => ?_
    · walk_at "rd"
      exact ⟨ns, st, _, rfl, hs, by omega, fun z H' z1 z2 t k => ⟨z, rfl, by omega, by omega, hR (z, H') ⟨z1, z2, t, k⟩⟩⟩
    obtain ⟨z, H1⟩ := x
    obtain ⟨c1, c2, c3, c4⟩ := hx
    dsimp only at c1 c2 c3 c4
    refine for_it (n := z.toNat) walk_range (fun k σ H2 => ∃ v5 v6 t, σ = [some (.ref st), some (.ref tp), some (.int m), some (.str (S sg)), some (.str (S t)), v5, v6] ∧ t.length = k ∧ t.all sgn = true ∧ Stt K ns H2 st ∧ Kp st H H2)
      ⟨_, _, [], rfl, rfl, rfl, c3, c4⟩ (fun _ _ _ _ _ => trivial) ?_ ?_
    · rintro k x σ H2 H3 hk ⟨v5, v6, t, rfl, tl, ts, t2, k2⟩ ⟨rfl, rfl⟩
      walk_at "rd"
      refine ⟨ns, st, 4, rfl, t2, by decide, fun y H4 y1 y2 t4 k4 => ⟨y, rfl, ?_⟩⟩
      have fin : ∀ c H', sgn c = true → Stt K ns H' st → Kp st H4 H' → t.length + 1 ≤ sizeLine ∧ (t ++ [c]).length = k + 1 ∧ (t ++ [c]).all sgn = true ∧ Stt K ns H' st ∧ Kp st H H' := fun c H' h1 h2 h3 =>
        ⟨Nat.le_trans (show t.length + 1 ≤ 2001 by omega) (by decide), by rw [List.length_append, tl]; rfl, by rw [List.all_append, ts]; simp [h1], h2, (k2.trans k4).trans h3⟩
      refine ite2 (fun _ => ?_) (fun _ => ?_)
      · refine ⟨Nat.le_trans lS (by decide), ns, st, _, rfl, t4, by omega, fun y' H5 z1 z2 t5 k5 => ?_⟩
        obtain ⟨j, hj, e1, e2⟩ := at_in (xs := sg) z1 z2
        exact ⟨y', rfl, Nat.le_trans lS (by decide), _, e2, fin _ H5 (sgS _ (List.getElem_mem hj)) t5 k5⟩
      · refine ⟨ns, st, _, rfl, t4, by decide, fun y' H5 z1 z2 t5 k5 => ?_⟩
        obtain ⟨j, hj, e1, e2⟩ := at_in (xs := [99, 100, 101, 126, 33]) z1 z2
        exact ⟨y', rfl, _, e2, fin _ H5 (sgC _ (List.getElem_mem hj)) t5 k5⟩
    · rintro σ H2 ⟨v5, v6, t, rfl, tl, ts, t2, k2⟩
      walk_at "rd"
      exact q t H2 (by omega) ts t2 k2
def sp_law_quoted : Sp := fun vs H Q _ => ∃ (tp : Addr) (r : RS) (t : Tx) (k q : Nat), vs = [.ref tp, .str (S t), .int k] ∧ H tp = some (.tup (RS.tup r)) ∧ t.length ≤ 2000 ∧ t[k]? = some q ∧
  ∀ p H', H p = none → Same H H' → (match lq r q k (t.drop (k + 1)) (k + 1) [] with
    | .error b => H' p = some (.tup [.non, .int b])
    | .ok (f, e) => H' p = some (.tup [.str (S f), .int e])) → Q (.ref p) H'
theorem ok__law_quoted (T : Txt K mg a) : FnOk P w K mg base CX0 1 a.f__law_quoted a.d__law_quoted P__law_quoted sp_law_quoted := by
  refine T.F__law_quoted.ok sc__law_quoted (fun vs H Q E h => ?_) (fun cdv A outer s H vs Q E hr h => ?_)
  · obtain ⟨tp, r, t, k, q, rfl, _⟩ := h
    rfl
  · obtain ⟨tp, r, t, k, q, rfl, ht, hl, hq, kk⟩ := h
    refine ⟨_,
(pss_cons (ps_par3 (i := 3) (j := 4) (l := 5) (by rfl) sc__law_quoted.nd rfl rfl rfl (by decide) (by decide) (by decide) rfl rfl rfl (pa_cons (pv 2) (pa_cons (pe_ix ix_str (pv 1) (pv 2) (fun _ _ => rfl)) (pa_cons pe_str pa_nil))) (by rfl))
    (pss_cons (ps_set (i := 2) sc__law_quoted.nd rfl (by first | exact Or.inl rfl | exact Or.inr rfl) (pe_op op_add (pv 2) pe_int))
    (pss_cons (ps_while PassesOwn.never (pt_cmpR op_lt (pv 2) (pe_callB call_len_str (by rfl) T.b_len PySem.boot_len (pa_cons (pv 1) pa_nil)) (nomark _)) (pss_cons (ps_if (pt_cmpR op_eq (pe_ix ix_str (pv 1) (pv 2) (fun _ _ => rfl)) (pv 4) (nomark _)) (pss_one (ps_ret (pe_tup (pa_cons (pv 5) (pa_cons (pe_op op_add (pv 2) pe_int) pa_nil))))) pss_nil)
    (pss_cons (ps_if (PW.pt (pw_and (pt_cmpR op_in_sign (pv 4) (pe_ix ix_tup (pv 0) pe_int (fun _ _ => rfl)) rfl) (pw_and (pt_cmpR op_ne (pe_ix ix_tup (pv 0) pe_int (fun _ _ => rfl)) pe_str (nomark _)) (pw_and1 (pt_cmpR op_eq (pe_ix ix_str (pv 1) (pv 2) (fun _ _ => rfl)) (pe_ix ix_tup (pv 0) pe_int (fun _ _ => rfl)) (nomark _)))))) (pss_cons (ps_set (i := 2) sc__law_quoted.nd rfl (by first | exact Or.inl rfl | exact Or.inr rfl) (pe_op op_add (pv 2) pe_int))
    (pss_one (ps_if (pt_cmpR op_eq (pv 2) (pe_callB call_len_str (by rfl) T.b_len PySem.boot_len (pa_cons (pv 1) pa_nil)) (nomark _)) (pss_one (ps_ret (pe_tup (pa_cons pe_non (pa_cons (pv 3) pa_nil))))) pss_nil))) pss_nil)
    (pss_cons (ps_set (i := 5) sc__law_quoted.nd rfl (by first | exact Or.inl rfl | exact Or.inr rfl) (pe_op op_add_str (pv 5) (pe_ix ix_str (pv 1) (pv 2) (fun _ _ => rfl))))
    (pss_one (ps_set (i := 2) sc__law_quoted.nd rfl (by first | exact Or.inl rfl | exact Or.inr rfl) (pe_op op_add (pv 2) pe_int)))))))
    (pss_one (ps_ret (pe_tup (pa_cons pe_non (pa_cons (pv 3) pa_nil))))))))
      , ?_⟩
    rw [show start N__law_quoted [V.ref tp, V.str (S t), V.int k] = [some (.ref tp), some (.str (S t)), some (.int k), none, none, none] from rfl]
    walk_at "rd"
    refine ⟨Nat.le_trans hl (by decide), q, atI_nat hq, ?_⟩
    have hk : k < t.length := (List.getElem?_eq_some_iff.mp hq).1
    refine while_rule (fun n σ H' => H' = H ∧ ∃ (i : Nat) (f : Tx), σ = [some (.ref tp), some (.str (S t)), some (.int i), some (.int k), some (.str (S [q])), some (.str (S f))] ∧ n = t.length - i ∧ i ≤ t.length ∧ f.length ≤ i ∧
      lq r q k (t.drop i) i f = lq r q k (t.drop (k + 1)) (k + 1) []) _ ⟨rfl, k + 1, [], rfl, rfl, by omega, by simp, rfl⟩ ?_
    rintro n σ1 H1 R ⟨rfl, i, f, rfl, rfl, hi, hf, inv⟩ hT hF
    walk_at "rd"
    have sz : t.length ≤ sizeLine := Nat.le_trans hl (by decide)
    refine ⟨sz, ?_⟩
    by_cases hlt : i < t.length
    · rw [decide_eq_true (by omega)]
      refine hT _ ?_
      have hc : t[i]? = some t[i] := List.getElem?_eq_getElem hlt
      have a1 := atI_nat hc
      have dr := drop_at hc
      generalize t[i] = c at *
      walk_at "rd"
      refine ⟨sz, c, a1, ?_⟩
      rw [dr] at inv
      refine ite2 (fun c1 p hp => ?_) (fun c1 => ?_)
      · rw [lq_one c1] at inv
        rw [← inv] at kk
        exact kk p _ hp (same_new hp) (by rw [upd_same]; rfl)
      have sf : f.length + 1 ≤ sizeLine := Nat.le_trans (show f.length + 1 ≤ 2001 by omega) (by decide)
      have plain : ¬ (q ∈ r.soft ∧ r.bend = [c]) → t.length ≤ sizeLine ∧ ∃ x, atI t (i : Int) = some x ∧ f.length + 1 ≤ sizeLine ∧ ∃ n', n' < t.length - i ∧ ∃ j : Nat, (i : Int) + 1 = j ∧ n' = t.length - j ∧ j ≤ t.length ∧ (f ++ [x]).length ≤ j ∧
          lq r q k (t.drop j) j (f ++ [x]) = lq r q k (t.drop (k + 1)) (k + 1) [] := fun h2 => by
        refine ⟨sz, c, a1, sf, t.length - (i + 1), by omega, i + 1, rfl, rfl, by omega, by rw [List.length_append]; simp only [List.length_cons, List.length_nil]; omega, ?_⟩
        rw [← inv, lq_plain c1 h2]
      refine ⟨_, .inl (.inl ht), _, rfl, _, rfl, ite2 (fun c2 => ?_) (fun c2 => plain fun h => c2 h.1)⟩
      refine ⟨_, .inl (.inl ht), _, rfl, rfl, ite2 (fun c3 => ?_) (fun c3 => plain fun h => ?_)⟩
      · refine ⟨sz, c, a1, _, .inl (.inl ht), _, rfl, rfl, ite2 (fun c4 => ?_) (fun c4 => plain fun h => ?_)⟩
        · have hb : q ∈ r.soft ∧ r.bend = [c] := ⟨c2, by simpa [S_inj] using (of_decide_eq_true c4).symm⟩
          refine ⟨sz, ite2 (fun c5 p hp => ?_) (fun c5 => ?_)⟩
          · have e0 : t.drop (i + 1) = [] := List.drop_eq_nil_of_le (by omega)
            rw [e0, lq_last c1] at inv
            rw [← inv] at kk
            exact kk p _ hp (same_new hp) upd_same
          · have hd : t[i + 1]? = some (t[i + 1]'(by omega)) := List.getElem?_eq_getElem (by omega)
            have a2 := atI_nat hd
            have dr2 := drop_at hd
            generalize t[i + 1]'(by omega) = d at *
            refine ⟨sz, d, a2, sf, t.length - (i + 2), by omega, i + 2, rfl, rfl, by omega, by rw [List.length_append]; simp only [List.length_cons, List.length_nil]; omega, ?_⟩
            rw [← inv, dr2, lq_bend c1 hb]
        · exact c4 (decide_eq_true (by rw [h.2]))
      · apply c3
        rw [h.2]
        simp [S_inj]
    · rw [decide_eq_false (by omega)]
      refine hF _ ?_
      have e0 : t.drop i = [] := List.drop_eq_nil_of_le (by omega)
      rw [e0] at inv
      walk_at "rd"
      intro p hp
      rw [← inv] at kk
      exact kk p _ hp (same_new hp) upd_same
def sp_law_word : Sp := fun vs H Q _ => ∃ (tp : Addr) (r : RS) (t : Tx) (k : Nat), vs = [.ref tp, .str (S t), .int k] ∧ H tp = some (.tup (RS.tup r)) ∧ r.Ok ∧ t.length ≤ 2000 ∧ k ≤ t.length ∧
  ∀ p H', H p = none → Same H H' → (match lw r t t.length k [] with
    | .error b => H' p = some (.tup [.non, .int b])
    | .ok (f, e) => H' p = some (.tup [.str (S f), .int e])) → Q (.ref p) H'
theorem ok__law_word (T : Txt K mg a) : FnOk P w K mg base CX0 2 a.f__law_word a.d__law_word P__law_word sp_law_word := by
  refine T.F__law_word.ok sc__law_word (fun vs H Q E h => ?_) (fun cdv A outer s H vs Q E hr h => ?_)
  · obtain ⟨tp, r, t, k, rfl, _⟩ := h
    rfl
  · obtain ⟨tp, r, t, k, rfl, ht, ok, hl, hk, kk⟩ := h
    have G__law_quoted := ok__law_quoted (P := P) (w := w) (base := base) T
    have B__law_quoted := bi__law_quoted T
    refine ⟨_,
(pss_cons (ps_set (i := 3) sc__law_word.nd rfl (by first | exact Or.inl rfl | exact Or.inr rfl) pe_str)
    (pss_cons (ps_while PassesOwn.never (PW.pt (pw_and (pt_cmpR op_lt (pv 2) (pe_callB call_len_str (by rfl) T.b_len PySem.boot_len (pa_cons (pv 1) pa_nil)) (nomark _)) (pw_and1 (pt_cmpR op_notIn_sign (pe_ix ix_str (pv 1) (pv 2) (fun _ _ => rfl)) (pe_op op_add_str (pe_ix ix_tup (pv 0) pe_int (fun _ _ => rfl)) (pe_ix ix_tup (pv 0) pe_int (fun _ _ => rfl))) rfl)))) (pss_one (ps_if (pt_cmpR op_in_sign (pe_ix ix_str (pv 1) (pv 2) (fun _ _ => rfl)) (pe_op op_add_str (pe_ix ix_tup (pv 0) pe_int (fun _ _ => rfl)) (pe_ix ix_tup (pv 0) pe_int (fun _ _ => rfl))) rfl) (pss_cons (ps_asg (pe_call G__law_quoted (hr.mono (by decide)) rfl T.f__law_quoted.g T.f__law_quoted.k B__law_quoted .nil pass0 (pa_cons (pv 0) (pa_cons (pv 1) (pa_cons (pv 2) pa_nil)))) (pg_tup rfl (pgs_cons (pg_name (i := 4) sc__law_word.nd rfl (by first | exact Or.inl rfl | exact Or.inr rfl)) (pgs_cons (pg_name (i := 2) sc__law_word.nd rfl (by first | exact Or.inl rfl | exact Or.inr rfl)) pgs_nil))))
    (pss_cons (ps_if (pt_cmpR op_isN (pv 4) pe_non (nomark _)) (pss_one (ps_ret (pe_tup (pa_cons pe_non (pa_cons (pv 2) pa_nil))))) pss_nil)
    (pss_one (ps_set (i := 3) sc__law_word.nd rfl (by first | exact Or.inl rfl | exact Or.inr rfl) (pe_op op_add_str (pv 3) (pv 4)))))) (pss_one (ps_if (PW.pt (pw_and (pt_cmpR op_ne (pe_ix ix_tup (pv 0) pe_int (fun _ _ => rfl)) pe_str (nomark _)) (pw_and1 (pt_cmpR op_eq (pe_ix ix_str (pv 1) (pv 2) (fun _ _ => rfl)) (pe_ix ix_tup (pv 0) pe_int (fun _ _ => rfl)) (nomark _))))) (pss_cons (ps_if (pt_cmpR op_eq (pe_op op_add (pv 2) pe_int) (pe_callB call_len_str (by rfl) T.b_len PySem.boot_len (pa_cons (pv 1) pa_nil)) (nomark _)) (pss_one (ps_ret (pe_tup (pa_cons pe_non (pa_cons (pv 2) pa_nil))))) pss_nil)
    (pss_one (ps_par (i := 3) (j := 2) (by rfl) sc__law_word.nd rfl rfl (by decide) rfl rfl (pa_cons (pe_op op_add_str (pv 3) (pe_ix ix_str (pv 1) (pe_op op_add (pv 2) pe_int) (fun _ _ => rfl))) (pa_cons (pe_op op_add (pv 2) pe_int) pa_nil)) (by rfl)))) (pss_one (ps_par (i := 3) (j := 2) (by rfl) sc__law_word.nd rfl rfl (by decide) rfl rfl (pa_cons (pe_op op_add_str (pv 3) (pe_ix ix_str (pv 1) (pv 2) (fun _ _ => rfl))) (pa_cons (pe_op op_add (pv 2) pe_int) pa_nil)) (by rfl))))))))
    (pss_one (ps_ret (pe_tup (pa_cons (pv 3) (pa_cons (pv 2) pa_nil)))))))
      , ?_⟩
    rw [show start N__law_word [V.ref tp, V.str (S t), V.int k] = [some (.ref tp), some (.str (S t)), some (.int k), none, none] from rfl]
    have sz : t.length ≤ sizeLine := Nat.le_trans hl (by decide)
    have szb : r.breaks.length + r.note.length ≤ sizeLine := Nat.le_trans (show r.breaks.length + r.note.length ≤ 5 by have h1 := ok.l1; have h5 := ok.l5; omega) (by decide)
    have szq : r.hard.length + r.soft.length ≤ sizeLine := Nat.le_trans (show r.hard.length + r.soft.length ≤ 4 by have h1 := ok.l2; have h5 := ok.l3; omega) (by decide)
    walk_at "rd"
    refine while_rule (fun n σ H' => Same H H' ∧ ∃ (i m : Nat) (f : Tx) (v : Option V), σ = [some (.ref tp), some (.str (S t)), some (.int i), some (.str (S f)), v] ∧ n = t.length - i ∧ i ≤ t.length ∧ f.length ≤ i ∧ t.length ≤ m + i ∧
      lw r t m i f = lw r t t.length k []) _ ⟨Same.refl _, k, t.length, [], _, rfl, rfl, hk, Nat.zero_le _, by omega, rfl⟩ ?_
    rintro n σ1 H1 R ⟨s1, i, m, f, v, rfl, rfl, hi, hf, hm, inv⟩ hT hF
    have ht1 := s1 _ _ ht
    walk_at "rd"
    refine ⟨sz, ?_⟩
    have fin : lw r t m i f = .ok (f, i) → R false H1 := fun e => by
      refine hF _ ?_
      rw [← inv, e] at kk
      walk_at "rd"
      exact fun p hp => kk p _ (s1.free hp) (s1.trans (same_new hp)) upd_same
    by_cases hlt : i < t.length
    · have hc : t[i]? = some t[i] := List.getElem?_eq_getElem hlt
      have a1 := atI_nat hc
      generalize t[i] = c at *
      obtain ⟨m, rfl⟩ : ∃ m', m = m' + 1 := ⟨m - 1, by omega⟩
      rw [if_pos (by omega)]
      refine ⟨sz, c, a1, _, .inl (.inl ht1), _, rfl, _, .inl (.inl ht1), _, rfl, _, rfl, _, rfl, szb, ?_⟩
      rw [S_app, S_tl]
      by_cases c1 : c ∈ r.breaks ++ r.note
      · rw [decide_eq_true c1]
        exact fin (by simp only [lw, hc, if_pos c1])
      · rw [decide_eq_false c1]
        refine hT _ ?_
        walk_at "rd"
        have hc1 : c ∉ r.breaks ++ r.note := c1
        have sf : f.length + 1 ≤ sizeLine := Nat.le_trans (show f.length + 1 ≤ 2001 by omega) (by decide)
        refine ⟨sz, c, a1, _, .inl (.inl ht1), _, rfl, _, .inl (.inl ht1), _, rfl, _, rfl, _, rfl, szq, ?_⟩
        rw [S_app, S_tl]
        refine ite2 (fun c2 => ?_) (fun c2 => ?_)
        · refine ⟨tp, r, t, i, c, rfl, ht1, hl, hc, fun p H2 hp s2 res => ?_⟩
          have bd := lq_bd r c i (t.drop (i + 1)) (i + 1) []
          rw [List.length_drop] at bd
          have s02 := s1.trans s2
          have ht2 := s2 _ _ ht1
          cases e : lq r c i (t.drop (i + 1)) (i + 1) [] with
          | error b =>
            rw [e] at res bd
            have inv2 : lw r t (m + 1) i f = .error b := by simp only [lw, hc, if_neg hc1, if_pos c2, e]
            rw [← inv, inv2] at kk
            dsimp only at res
            refine ⟨p, rfl, _, .inl (.inl res), rfl, _, _, rfl, _, _, rfl, rfl, ?_⟩
            refine ite2 (fun _ p2 hp2 => ?_) (fun h => absurd rfl h)
            exact kk p2 _ (s02.free hp2) (s02.trans (same_new hp2)) upd_same
          | ok z =>
            obtain ⟨g, e2⟩ := z
            rw [e] at res bd
            dsimp only at res bd
            simp only [List.length_nil] at bd
            have inv2 : lw r t (m + 1) i f = lw r t m e2 (f ++ g) := by simp only [lw, hc, if_neg hc1, if_pos c2, e]
            refine ⟨p, rfl, _, .inl (.inl res), rfl, _, _, rfl, _, _, rfl, rfl, ?_⟩
            refine ite2 (fun h => by cases h) (fun _ => ?_)
            refine ⟨_, rfl, Nat.le_trans (show f.length + g.length ≤ 3000 by omega) (by decide), ?_⟩
            exact ⟨t.length - e2, by omega, s02, e2, rfl, m, f ++ g, S_app _ _, rfl, by omega, by rw [List.length_append]; omega, by omega, by rw [← inv2, inv]⟩
        have plain : r.bend ≠ [c] → t.length ≤ sizeLine ∧ ∃ x, atI t (i : Int) = some x ∧ f.length + 1 ≤ sizeLine ∧ ∃ n', n' < t.length - i ∧ Same H H1 ∧ ∃ j : Nat, (i : Int) + 1 = j ∧ n' = t.length - j ∧ j ≤ t.length ∧ (f ++ [x]).length ≤ j ∧
            ∃ m2, t.length ≤ m2 + j ∧ lw r t m2 j (f ++ [x]) = lw r t t.length k [] := fun h2 => by
          refine ⟨sz, c, a1, sf, t.length - (i + 1), by omega, s1, i + 1, rfl, rfl, by omega, by rw [List.length_append]; simp only [List.length_cons, List.length_nil]; omega, m, by omega, ?_⟩
          rw [← inv]
          simp only [lw, hc, if_neg hc1, if_neg c2, if_neg h2]
        refine ⟨_, .inl (.inl ht1), _, rfl, rfl, ite2 (fun c3 => ?_) (fun c3 => plain fun h => c3 (by rw [h]; simp [S_inj]))⟩
        refine ⟨sz, c, a1, _, .inl (.inl ht1), _, rfl, rfl, ite2 (fun c4 => ?_) (fun c4 => plain fun h => c4 (decide_eq_true (by rw [h])))⟩
        have hb : r.bend = [c] := by simpa [S_inj] using (of_decide_eq_true c4).symm
        refine ⟨sz, ite2 (fun c5 p hp => ?_) (fun c5 => ?_)⟩
        · have hn : t[i + 1]? = none := List.getElem?_eq_none_iff.mpr (by omega)
          have inv2 : lw r t (m + 1) i f = .error i := by simp only [lw, hc, if_neg hc1, if_neg c2, if_pos hb, hn]
          rw [← inv, inv2] at kk
          exact kk p _ (s1.free hp) (s1.trans (same_new hp)) upd_same
        · have hd : t[i + 1]? = some (t[i + 1]'(by omega)) := List.getElem?_eq_getElem (by omega)
          have a2 := atI_nat hd
          generalize t[i + 1]'(by omega) = d at *
          have inv2 : lw r t (m + 1) i f = lw r t m (i + 2) (f ++ [d]) := by simp only [lw, hc, if_neg hc1, if_neg c2, if_pos hb, hd]
          refine ⟨sz, d, a2, sf, t.length - (i + 2), by omega, s1, i + 2, rfl, rfl, by omega, by rw [List.length_append]; simp only [List.length_cons, List.length_nil]; omega, m, by omega, by rw [← inv2, inv]⟩
    · rw [if_neg (by omega)]
      have hn : t[i]? = none := List.getElem?_eq_none_iff.mpr (by omega)
      refine fin ?_
      cases m with
      | zero => rfl
      | succ m => simp only [lw, hn]
/-- what the law's own reading tells -/
def LRes (H H' : Hp) (v : V) (x : Except Nat (List W3)) : Prop := match x with
  | .error b => v = .int b
  | .ok ds => ∃ tp l1 l2 ys, v = .ref tp ∧ H tp = none ∧ H l1 = none ∧ H l2 = none ∧ l1 ≠ l2 ∧ H' tp = some (.tup [.ref l1, .ref l2]) ∧ H' l1 = some (.lst ((ds.map (·.1)).map sV)) ∧ H' l2 = some (.lst ys) ∧
    Paired (Pls H') ys (ds.map fun d => ((d.2.1 : Int), (d.2.2 : Int)))
def sp_law_read : Sp := fun vs H Q _ => ∃ (tp : Addr) (r : RS) (t : Tx), vs = [.ref tp, .str (S t)] ∧ H tp = some (.tup (RS.tup r)) ∧ r.Ok ∧ t.length ≤ 2000 ∧
  ∀ v H', Same H H' → LRes H H' v (lr r t (t.length + 1) 0 []) → Q v H'
theorem ok__law_read (T : Txt K mg a) : FnOk P w K mg base CX0 3 a.f__law_read a.d__law_read P__law_read sp_law_read := by
  refine T.F__law_read.ok sc__law_read (fun vs H Q E h => ?_) (fun cdv A outer s H vs Q E hr h => ?_)
  · obtain ⟨tp, r, t, rfl, _⟩ := h
    rfl
  · obtain ⟨tp, r, t, rfl, ht, ok, hl, kk⟩ := h
    have G__law_word := ok__law_word (P := P) (w := w) (base := base) T
    have B__law_word := bi__law_word T
    refine ⟨_,
(pss_cons (ps_par3 (i := 2) (j := 3) (l := 4) (by rfl) sc__law_read.nd rfl rfl rfl (by decide) (by decide) (by decide) rfl rfl rfl (pa_cons (pe_lst pa_nil) (pa_cons (pe_lst pa_nil) (pa_cons pe_int pa_nil))) (by rfl))
    (pss_cons (ps_while PassesOwn.never (pt_cmpR op_lt (pv 4) (pe_callB call_len_str (by rfl) T.b_len PySem.boot_len (pa_cons (pv 1) pa_nil)) (nomark _)) (pss_cons (ps_if (PW.pt (pw_and (pt_cmpR op_ne (pe_ix ix_tup (pv 0) pe_int (fun _ _ => rfl)) pe_str (nomark _)) (pw_and1 (pt_cmpR op_eq (pe_ix ix_str (pv 1) (pv 4) (fun _ _ => rfl)) (pe_ix ix_tup (pv 0) pe_int (fun _ _ => rfl)) (nomark _))))) (pss_cons (ps_set (i := 5) sc__law_read.nd rfl (by first | exact Or.inl rfl | exact Or.inr rfl) (pe_bm PySem.F.plainAttrs_str PySem.F.slot_str_find PySem.F.type_str_find mt_find3 (pv 1) (pa_cons pe_str (pa_cons (pe_op op_add (pv 4) pe_int) pa_nil))))
    (pss_one (ps_set (i := 4) sc__law_read.nd rfl (by first | exact Or.inl rfl | exact Or.inr rfl) (pe_ifExp (pt_cmpR op_ge (pv 5) pe_int (nomark _)) (pv 5) (pe_callB call_len_str (by rfl) T.b_len PySem.boot_len (pa_cons (pv 1) pa_nil)))))) pss_nil)
    (pss_one (ps_if (PW.pt (pw_and (pt_cmpR op_lt (pv 4) (pe_callB call_len_str (by rfl) T.b_len PySem.boot_len (pa_cons (pv 1) pa_nil)) (nomark _)) (pw_and1 (pt_cmpR op_in_sign (pe_ix ix_str (pv 1) (pv 4) (fun _ _ => rfl)) (pe_ix ix_tup (pv 0) pe_int (fun _ _ => rfl)) rfl)))) (pss_one (ps_set (i := 4) sc__law_read.nd rfl (by first | exact Or.inl rfl | exact Or.inr rfl) (pe_op op_add (pv 4) pe_int))) (pss_one (ps_if (PW.pt (pw_and (pt_cmpR op_lt (pv 4) (pe_callB call_len_str (by rfl) T.b_len PySem.boot_len (pa_cons (pv 1) pa_nil)) (nomark _)) (pw_and1 (pt_cmpR op_notIn_sign (pe_ix ix_str (pv 1) (pv 4) (fun _ _ => rfl)) (pe_ix ix_tup (pv 0) pe_int (fun _ _ => rfl)) rfl)))) (pss_cons (ps_asg (pe_call G__law_word (hr.mono (by decide)) rfl T.f__law_word.g T.f__law_word.k B__law_word .nil pass0 (pa_cons (pv 0) (pa_cons (pv 1) (pa_cons (pv 4) pa_nil)))) (pg_tup rfl (pgs_cons (pg_name (i := 6) sc__law_read.nd rfl (by first | exact Or.inl rfl | exact Or.inr rfl)) (pgs_cons (pg_name (i := 5) sc__law_read.nd rfl (by first | exact Or.inl rfl | exact Or.inr rfl)) pgs_nil))))
    (pss_cons (ps_if (pt_cmpR op_isN (pv 6) pe_non (nomark _)) (pss_one (ps_ret (pv 5))) pss_nil)
    (pss_cons (ps_expr (pe_bm PySem.F.plainAttrs_list PySem.F.slot_list_append PySem.F.type_list_append mt_append (pv 2) (pa_cons (pv 6) pa_nil)))
    (pss_cons (ps_expr (pe_bm PySem.F.plainAttrs_list PySem.F.slot_list_append PySem.F.type_list_append mt_append (pv 3) (pa_cons (pe_tup (pa_cons (pv 4) (pa_cons (pv 5) pa_nil))) pa_nil)))
    (pss_one (ps_set (i := 4) sc__law_read.nd rfl (by first | exact Or.inl rfl | exact Or.inr rfl) (pv 5))))))) pss_nil))))))
    (pss_one (ps_ret (pe_tup (pa_cons (pv 2) (pa_cons (pv 3) pa_nil)))))))
      , ?_⟩
    rw [show start N__law_read [V.ref tp, V.str (S t)] = [some (.ref tp), some (.str (S t)), none, none, none, none, none] from rfl]
    have sz : t.length ≤ sizeLine := Nat.le_trans hl (by decide)
    walk_at "rd"
    intro l1 hl1
    have S1 := same_new (o := HO.lst []) hl1
    have e1 : upd H l1 (HO.lst []) l1 = some (HO.lst []) := upd_same
    generalize upd H l1 (HO.lst []) = H1 at *
    intro l2 hl2
    have S2 := same_new (o := HO.lst []) hl2
    have e2 : upd H1 l2 (HO.lst []) l2 = some (HO.lst []) := upd_same
    have e1' := S2 _ _ e1
    have n12 : l1 ≠ l2 := ne_of_none e1 hl2
    generalize upd H1 l2 (HO.lst []) = H2 at *
    have S02 := S1.trans S2
    have hl2' := S1.free hl2
    refine while_rule (fun n σ H' => Same H H' ∧ ∃ (i m : Nat) (acc : List W3) (ys : List V) (v5 v6 : Option V), σ = [some (.ref tp), some (.str (S t)), some (.ref l1), some (.ref l2), some (.int i), v5, v6] ∧ n = t.length - i ∧ i ≤ t.length ∧ t.length < m + i ∧ acc.length ≤ i ∧
      H' l1 = some (.lst ((acc.map (·.1)).map sV)) ∧ H' l2 = some (.lst ys) ∧ Paired (Pls H') ys (acc.map fun d => ((d.2.1 : Int), (d.2.2 : Int))) ∧ lr r t m i acc = lr r t (t.length + 1) 0 [])
      _ ⟨S02, 0, t.length + 1, [], [], _, _, rfl, rfl, by omega, by omega, by simp, e1', e2, .nil, rfl⟩ ?_
    rintro n σ1 H3 R ⟨s3, i, m, acc, ys, v5, v6, rfl, rfl, hi, hm, ha, f1, f2, f3, inv⟩ hT hF
    have ht3 := s3 _ _ ht
    walk_at "rd"
    refine ⟨sz, ?_⟩
    by_cases hlt : i < t.length
    · rw [decide_eq_true (by omega)]
      refine hT _ ?_
      have hc : t[i]? = some t[i] := List.getElem?_eq_getElem hlt
      have a1 := atI_nat hc
      generalize t[i] = c at *
      obtain ⟨m, rfl⟩ : ∃ m', m = m' + 1 := ⟨m - 1, by omega⟩
      refine tseq_split (fun σ' H' => H' = H3 ∧ ∃ v5, σ' = [some (.ref tp), some (.str (S t)), some (.ref l1), some (.ref l2), some (.int (if r.note = [c] then nlAt t (i + 1) else i : Nat)), v5, v6]) (fun N hN => ?_) ?_
      · walk_at "rd"
        refine ⟨_, .inl (.inl ht3), _, rfl, rfl, ite2 (fun c1 => ?_) (fun c1 => ?_)⟩
        · refine ⟨sz, c, a1, _, .inl (.inl ht3), _, rfl, rfl, ite2 (fun c2 => ?_) (fun c2 => ?_)⟩
          · have hb : r.note = [c] := by simpa [S_inj] using (of_decide_eq_true c2).symm
            have fn := find_nl (t := t) (i := i + 1) (by omega)
            refine ⟨rfl, ?_⟩
            rcases fn with ⟨g1, g2⟩ | ⟨g1, g2⟩
            · have g1 : Txt.find3 (S t) (S [LE]) ((i : Int) + 1) = -1 := g1
              refine ite2 (fun h => absurd h (by omega)) (fun _ => ⟨sz, hN _ _ ⟨rfl, some (.int (Txt.find3 (S t) (S [LE]) ((i : Int) + 1))), ?_⟩⟩)
              rw [if_pos hb, g2]
            · have g1 : Txt.find3 (S t) (S [LE]) ((i : Int) + 1) = (nlAt t (i + 1) : Int) := g1
              refine ite2 (fun _ => hN _ _ ⟨rfl, some (.int (Txt.find3 (S t) (S [LE]) ((i : Int) + 1))), ?_⟩) (fun h => absurd h (by omega))
              rw [if_pos hb, g1]
          · refine hN _ _ ⟨rfl, v5, ?_⟩
            rw [if_neg (fun h => c2 (decide_eq_true (by rw [h])))]
        · refine hN _ _ ⟨rfl, v5, ?_⟩
          rw [if_neg (fun h => c1 (by rw [h]; simp [S_inj]))]
      · rintro σ' H' ⟨rfl, v5', rfl⟩
        generalize hk1 : (if r.note = [c] then nlAt t (i + 1) else i) = k1
        have ns := nlAt_spec (t := t) (i := i + 1) (by omega)
        have k1i : i ≤ k1 := by rw [← hk1]; split <;> omega
        have k1l : k1 ≤ t.length := by rw [← hk1]; split <;> omega
        walk_at "rd"
        refine ⟨sz, ?_⟩
        by_cases hk : k1 < t.length
        · have hc' : t[k1]? = some t[k1] := List.getElem?_eq_getElem hk
          have a2 := atI_nat hc'
          generalize t[k1] = c' at *
          rw [if_pos (by omega)]
          refine ⟨sz, c', a2, _, .inl (.inl ht3), _, rfl, _, rfl, ite2 (fun (d1 : c' ∈ r.breaks) => ?_) (fun (d1 : ¬ c' ∈ r.breaks) => ?_)⟩
          · have il : lr r t (m + 1) i acc = lr r t m (k1 + 1) acc := by simp only [lr, hc, hk1, hc', if_pos d1]
            exact ⟨t.length - (k1 + 1), by omega, s3, k1 + 1, rfl, rfl, by omega, m, by omega, acc, by omega, f1, ys, f2, f3, by rw [← il, inv]⟩
          · rw [if_pos (by omega)]
            refine ⟨sz, ?_⟩
            refine ⟨sz, c', a2, _, .inl (.inl ht3), _, rfl, _, rfl, ite2 (fun (d2 : ¬ c' ∈ r.note) => ?_) (fun d2 => ?_)⟩
            · refine ⟨tp, r, t, k1, rfl, ht3, ok, hl, k1l, fun p0 H4 hp0 s4 res => ?_⟩
              have d3 : c' ∉ r.breaks ++ r.note := fun h => (List.mem_append.mp h).elim d1 d2
              have bd := lw_bd r t t.length k1 [] k1l
              have s04 := s3.trans s4
              cases e : lw r t t.length k1 [] with
              | error b =>
                rw [e] at res
                dsimp only at res
                refine ⟨p0, rfl, _, .inl (.inl res), rfl, _, _, rfl, _, _, rfl, rfl, ?_⟩
                refine ite2 (fun _ => ?_) (fun h => absurd rfl h)
                have il : lr r t (m + 1) i acc = .error b := by simp only [lr, hc, hk1, hc', if_neg d1, if_neg d2, e]
                rw [← inv, il] at kk
                exact kk _ _ s04 rfl
              | ok z =>
                obtain ⟨g, e2⟩ := z
                rw [e] at res bd
                dsimp only at res bd
                have ps : k1 + 1 ≤ e2 := by
                  obtain ⟨n', hn'⟩ : ∃ n', t.length = n' + 1 := ⟨t.length - 1, by omega⟩
                  rw [hn'] at e
                  exact lw_pos hc' d3 e
                have il : lr r t (m + 1) i acc = lr r t m e2 (acc ++ [(g, k1, e2)]) := by simp only [lr, hc, hk1, hc', if_neg d1, if_neg d2, e]
                have g1 := s4 _ _ f1
                have g2 := s4 _ _ f2
                refine ⟨p0, rfl, _, .inl (.inl res), rfl, _, _, rfl, _, _, rfl, rfl, ?_⟩
                refine ite2 (fun h => by cases h) (fun _ => ?_)
                refine ⟨.inl ⟨rfl, _, .inl (.inl g1)⟩, _, g1, ?_, ?_⟩
                · rw [List.length_map, List.length_map]
                  exact Nat.lt_of_le_of_lt (show acc.length ≤ 2000 by omega) (by decide)
                have S5 : Same H (upd H4 l1 (HO.lst ((acc.map (·.1)).map sV ++ [V.str (S g)]))) := Same.mut s04 hl1
                have T5 : Tk H4 (upd H4 l1 (HO.lst ((acc.map (·.1)).map sV ++ [V.str (S g)]))) := kp_upd.tk g1 fun _ z => by cases z
                have h51 : upd H4 l1 (HO.lst ((acc.map (·.1)).map sV ++ [V.str (S g)])) l1 = some (HO.lst ((acc.map (·.1)).map sV ++ [V.str (S g)])) := upd_same
                have h52 : upd H4 l1 (HO.lst ((acc.map (·.1)).map sV ++ [V.str (S g)])) l2 = some (HO.lst ys) := by rw [upd_ne (Ne.symm n12)]; exact g2
                generalize upd H4 l1 (HO.lst ((acc.map (·.1)).map sV ++ [V.str (S g)])) = H5 at *
                refine ⟨.inl ⟨rfl, _, .inl (.inl h52)⟩, fun p hp => ?_⟩
                have S6 := same_new (o := HO.tup [V.int k1, V.int e2]) hp
                have hp0' : H p = none := S5.free hp
                have h6p : upd H5 p (HO.tup [V.int k1, V.int e2]) p = some (HO.tup [V.int k1, V.int e2]) := upd_same
                have h61 := S6 _ _ h51
                have h62 := S6 _ _ h52
                have n2p : l2 ≠ p := ne_of_none h52 hp
                generalize upd H5 p (HO.tup [V.int k1, V.int e2]) = H6 at *
                have S06 : Same H H6 := S5.trans S6
                have T7 : Tk H6 (upd H6 l2 (HO.lst (ys ++ [V.ref p]))) := kp_upd.tk h62 fun _ z => by cases z
                refine ⟨_, h62, ?_, t.length - e2, by omega, Same.mut S06 hl2', e2, rfl, rfl, by omega, m, by omega, acc ++ [(g, k1, e2)], ?_, ?_, ?_, by rw [← il, inv]⟩
                · rw [f3.length, List.length_map]
                  exact Nat.lt_of_le_of_lt (show acc.length ≤ 2000 by omega) (by decide)
                · rw [List.length_append]
                  simp only [List.length_cons, List.length_nil]
                  omega
                · rw [upd_ne n12, h61, List.map_append, List.map_append]
                  rfl
                · rw [List.map_append]
                  refine Paired.app (Paired.mapP f3 fun _ _ z => z.mono fun b xs q => T7 _ _ (S6 _ _ (T5 _ _ (s4 _ _ q)))) (.cons ⟨p, rfl, T7 _ _ h6p⟩ .nil)
            · have d2 : c' ∈ r.note := Classical.byContradiction d2
              have il : lr r t (m + 1) i acc = lr r t m k1 acc := by simp only [lr, hc, hk1, hc', if_neg d1, if_pos d2]
              have ki : i < k1 := by
                by_cases h : r.note = [c]
                · rw [if_pos h] at hk1; omega
                · rw [if_neg h] at hk1
                  subst hk1
                  rw [hc] at hc'
                  cases hc'
                  have l5 := ok.l5
                  match hnn : r.note, d2, l5 with
                  | [x], d2, _ => rw [List.mem_singleton.mp d2] at h; exact absurd hnn h
              exact ⟨t.length - k1, by omega, s3, k1, rfl, rfl, by omega, m, by omega, acc, by omega, f1, ys, f2, f3, by rw [← il, inv]⟩
        · rw [if_neg (by omega)]
          refine ⟨sz, ?_⟩
          rw [if_neg (by omega)]
          have hn : t[k1]? = none := List.getElem?_eq_none_iff.mpr (by omega)
          have il : lr r t (m + 1) i acc = lr r t m k1 acc := by
            simp only [lr, hc, hk1, hn]
            cases m <;> simp [lr, hn]
          exact ⟨t.length - k1, by omega, s3, k1, rfl, rfl, by omega, m, by omega, acc, by omega, f1, ys, f2, f3, by rw [← il, inv]⟩
    · rw [decide_eq_false (by omega)]
      refine hF _ ?_
      have hn : t[i]? = none := List.getElem?_eq_none_iff.mpr (by omega)
      have e : lr r t m i acc = .ok acc := by cases m <;> simp [lr, hn]
      rw [← inv, e] at kk
      walk_at "rd"
      intro p hp
      have s4 := same_new (o := HO.tup [V.ref l1, V.ref l2]) hp
      exact kk _ _ (s3.trans s4) ⟨p, l1, l2, ys, rfl, s3.free hp, hl1, hl2', n12, upd_same, s4 _ _ f1, s4 _ _ f2, Paired.mapP f3 fun _ _ z => z.mono fun b xs => s4 b _⟩
theorem ty_Words (T : Txt K mg a) {H : Hp} {p dx : Addr} {fs : List (Str × V)} (h : H p = some (.ins a.c_Words dx fs)) : TyX K H (.ref p) (.ref a.c_Words) :=
  .base (.ins h T.c_Words.cl T.i_Words.ha T.i_Words.hn T.i_Words.ht T.i_Words.hm)
theorem ty_Fault (T : Txt K mg a) {H : Hp} {p dx : Addr} {fs : List (Str × V)} (h : H p = some (.ins a.c_Fault dx fs)) : TyX K H (.ref p) (.ref a.c_Fault) :=
  .base (.ins h T.c_Fault.cl T.i_Fault.ha T.i_Fault.hn T.i_Fault.ht T.i_Fault.hm)
end
end Qw

set_option Elab.async false
set_option linter.all false
set_option maxRecDepth 100000
set_option maxHeartbeats 4000000
namespace Qw
open PySem L2
/-! pieces of lists and texts, comprehensions told by a relation (for the laws but k01, where QwLawD and QwLawE hold them) -/
theorem cut_from (xs : List V) (k : Nat) : cutV xs (some (k : Int)) none = xs.drop k := by
  unfold cutV
  rw [HT.sIx_nat, HT.sIx_none]
  rcases Nat.le_total k xs.length with h | h
  · rw [Nat.min_eq_left h]
    exact List.take_of_length_le (by rw [List.length_drop]; exact Nat.le_refl _)
  · rw [Nat.min_eq_right h, List.drop_eq_nil_of_le (Nat.le_refl _), List.drop_eq_nil_of_le h]
    simp
theorem cutS_from (l : Tx) (k : Nat) : cutS (S l) (some (k : Int)) none = S (l.drop k) := by
  unfold cutS
  rw [S_len, HT.sIx_nat, HT.sIx_none]
  rcases Nat.le_total k l.length with h | h
  · rw [Nat.min_eq_left h]
    refine congrArg S ?_
    exact List.take_of_length_le (by rw [List.length_drop]; exact Nat.le_refl _)
  · rw [Nat.min_eq_right h]
    refine congrArg S ?_
    show (l.drop l.length).take _ = _
    rw [List.drop_eq_nil_of_le (Nat.le_refl _), List.drop_eq_nil_of_le h]
    simp
theorem cut_to (xs : List V) (k : Nat) : cutV xs none (some (k : Int)) = xs.take k := by
  unfold cutV
  rw [HT.sIx_nat, HT.sIx_none, List.drop_zero, Nat.sub_zero]
  rcases Nat.le_total k xs.length with h | h
  · rw [Nat.min_eq_left h]
  · rw [Nat.min_eq_right h, List.take_of_length_le (Nat.le_refl _), List.take_of_length_le h]
theorem Paired.rev {α β : Type} {F : α → β → Prop} : ∀ {l : List α} {m : List β}, Paired F l m → Paired F l.reverse m.reverse
  | _, _, .nil => .nil
  | _, _, .cons r t => by
    rw [List.reverse_cons, List.reverse_cons]
    exact Paired.app (Paired.rev t) (.cons r .nil)
theorem Paired.drop' {α β : Type} {F : α → β → Prop} : ∀ {l : List α} {m : List β} (k : Nat), Paired F l m → Paired F (l.drop k) (m.drop k)
  | _, _, 0, h => h
  | _, _, _ + 1, .nil => .nil
  | _, _, k + 1, .cons _ t => Paired.drop' k t
theorem Paired.take' {α β : Type} {F : α → β → Prop} : ∀ {l : List α} {m : List β} (k : Nat), Paired F l m → Paired F (l.take k) (m.take k)
  | _, _, 0, _ => by simp only [List.take_zero]; exact .nil
  | _, _, _ + 1, .nil => .nil
  | _, _, k + 1, .cons r t => .cons r (Paired.take' k t)
theorem kp_free {st p : Addr} {H H' : Hp} {o : HO} (k : Kp st H H') (hs : H' st = some o) (hp : H' p = none) : H p = none := by
  cases e : H p with
  | none => rfl
  | some u =>
    have := k _ _ e fun z => by rw [z, hs] at hp; cases hp
    rw [hp] at this; cases this
theorem fresh_ne {H : Hp} {p st : Addr} {o : HO} (hs : H st = some o) (hp : H p = none) : p ≠ st := Ne.symm (ne_of_none hs hp)
theorem cutS_to (l : Tx) (k : Nat) : cutS (S l) none (some (k : Int)) = S (l.take k) := by
  unfold cutS
  rw [S_len, HT.sIx_nat, HT.sIx_none]
  rcases Nat.le_total k l.length with h | h
  · rw [Nat.min_eq_left h]
    rfl
  · rw [Nat.min_eq_right h]
    refine congrArg S ?_
    show (l.drop 0).take _ = _
    rw [List.drop_zero, Nat.sub_zero, List.take_of_length_le (Nat.le_refl _), List.take_of_length_le h]
theorem lc_rel {α : Type} {J : It} {G : Hp → Prop} {Y : Nat → Hp → V → Hp → Prop} {g : TG} {tt : TT} {te : TE} {vs : List Nat} {σ : St} {H1 : Hp} {D : Addr} {Qd : Hp → Prop}
    (as : List α) (F : Hp → V → α → Prop) (mono : ∀ {p : Addr} {H H' : Hp} {v : V} {x : α}, Kp p H H' → (∃ xs, H p = some (.lst xs)) → F H v x → F H' v x)
    (w : Walk J as.length G Y) (hz : as.length ≤ 1000000) (h1 : H1 D = none) (hG : ∀ H, Same H1 H → G H)
    (hs : ∀ (R : VK) (R' : Hp → Prop) i a x H H', as[i]? = some a → Same H1 H → Y i H x H' → (∀ y H4, Same H H4 → F H4 y a → R y H4) →
      g x (wipe σ vs) H' fun σ2 H2 => wipe σ2 vs = wipe σ vs ∧ tt σ2 H2 fun b H3 => if b = true then te σ2 H3 R else R' H3)
    (hd : ∀ H ys, Same H1 H → H D = some (.lst ys) → Paired (F H) ys as → Qd H) :
    ∃ W : Nat → Nat → Hp → Prop, (∃ m, W 0 m (upd H1 D (.lst []))) ∧ ∀ i m H, W i m H →
      (J.stop i H ∧ Qd H) ∨ (J.go i H ∧ ∃ Nx : Hp → Prop, (∀ H', Nx H' → ∃ m', m' < m ∧ W (i + 1) m' H') ∧ ∀ x H', J.yld i H x H' → g x (wipe σ vs) H' fun σ2 H2 => wipe σ2 vs = wipe σ vs ∧ tt σ2 H2 fun b H3 =>
        if b = true then te σ2 H3 fun y H4 => ∃ acc, H4 D = some (.lst acc) ∧ acc.length < sizeLine ∧ Nx (upd H4 D (.lst (acc ++ [y]))) else Nx H3) := by
  refine lc_it w (fun i H => Same H1 H ∧ ∃ ys, H D = some (.lst ys) ∧ Paired (F H) ys (as.take i)) ⟨same_new h1, [], upd_same, by simp only [List.take_zero]; exact .nil⟩ (fun _ H _ p => hG H p.1) ?_ fun H p => by
    obtain ⟨p1, ys, p2, p3⟩ := p
    rw [List.take_length] at p3
    exact hd H ys p1 p2 p3
  rintro i x H H' hi ⟨p1, ys, p2, p3⟩ y
  obtain ⟨a, ha⟩ : ∃ a, as[i]? = some a := ⟨as[i], List.getElem?_eq_getElem hi⟩
  refine hs _ _ i a x H H' ha p1 y fun z H4 s4 f4 => ⟨_, s4 _ _ p2, ?_, ?_, _, upd_same, ?_⟩
  · rw [p3.length, List.length_take]
    exact Nat.lt_of_lt_of_le (show min i as.length < 1000001 by omega) (by decide)
  · exact Same.mut (p1.trans s4) h1
  · have kq : Kp D H4 (upd H4 D (.lst (ys ++ [z]))) := kp_upd
    rw [take_at ha]
    exact Paired.app (Paired.mapP p3 fun _ _ f => mono kq ⟨_, s4 _ _ p2⟩ (mono (s4.kp D) ⟨_, p2⟩ f)) (.cons (mono kq ⟨_, s4 _ _ p2⟩ f4) .nil)
theorem tlc_all {ι : Type} {C : ι → Prop} {J : ι → It} {H1 : ι → Hp} {wi : TI} {g : TG} {tt : TT} {te : TE} {vs : List Nat} {σ : St} {H : Hp} {Q : VK} (hw : ∀ R : It → Hp → Prop, (∀ x, C x → R (J x) (H1 x)) → wi σ H R)
    (h2 : ∀ x, C x → ∀ D, H1 x D = none → ∃ W : Nat → Nat → Hp → Prop, (∃ m, W 0 m (upd (H1 x) D (.lst []))) ∧ ∀ i m H, W i m H →
      ((J x).stop i H ∧ Q (.ref D) H) ∨ ((J x).go i H ∧ ∃ Nx : Hp → Prop, (∀ H', Nx H' → ∃ m', m' < m ∧ W (i + 1) m' H') ∧ ∀ y H', (J x).yld i H y H' → g y (wipe σ vs) H' fun σ2 H2 => wipe σ2 vs = wipe σ vs ∧ tt σ2 H2 fun b H3 =>
        if b = true then te σ2 H3 fun y H4 => ∃ acc, H4 D = some (.lst acc) ∧ acc.length < sizeLine ∧ Nx (upd H4 D (.lst (acc ++ [y]))) else Nx H3)) : tLc wi g tt te vs σ H Q := hw _ h2
end Qw

set_option Elab.async false
set_option linter.all false
set_option maxRecDepth 100000
set_option maxHeartbeats 4000000
namespace Qw
open PySem L2
/-! answers, for the laws but k01 -/
theorem pe_fldK {X : Cx} {K : PySem.W.Frag} {e : Expr} {f : Str} {ta : TE} {pos : Pos} (h : X.K = K) (he : PE X e ta) (hb : attributeBase e f X.env (eval e X.env) = eval e X.env) : PE X (.Attribute e f pos) (tFld K ta f) := by
  subst h
  exact pe_fld he hb
theorem SqT.same {K : PySem.W.Frag} {H H' : Hp} {p : Addr} {xs : List V} (s : Same H H') (h : SqT K H p xs) : SqT K H' p xs := by
  rcases h with (h | ⟨o, h⟩) | h
  · exact .inl (.inl (s _ _ h))
  · exact .inl (.inr ⟨o, s _ _ h⟩)
  · exact .inr h
mutual
theorem Dp.same {K : PySem.W.Frag} {H H' : Hp} (s : Same H H') : ∀ (d : PyData) (v : V), Dp K H v d → Dp K H' v d
  | .none, _, h => by cases h; exact .non
  | .bool _, _, h => by cases h; exact .bl _
  | .int _, _, h => by cases h; exact .int _
  | .str _, _, h => by cases h; exact .str _
  | .list ds, _, h => by
    cases h with
    | lst hs ha => exact .lst (s.seq hs) (DpAll.same s ds _ ha)
  | .tuple ds, _, h => by
    cases h with
    | tup hs ha => exact .tup (SqT.same s hs) (DpAll.same s ds _ ha)
  | .dict _, _, h => by cases h
theorem DpAll.same {K : PySem.W.Frag} {H H' : Hp} (s : Same H H') : ∀ (ds : List PyData) (vs : List V), DpAll K H vs ds → DpAll K H' vs ds
  | [], _, h => by cases h; exact .nil
  | d :: ds, _, h => by
    cases h with
    | cons h1 h2 => exact .cons (Dp.same s d _ h1) (DpAll.same s ds _ h2)
end
section
variable {P : Program} {w : World} {K : PySem.W.Frag} {mg : Str → Option Value} {base : Heap} {a : Ad}
/-- an answer at p -/
def Ans (a : Ad) (H : Hp) (p : Addr) (x : Told) : Prop := match x with
  | .error n => ∃ dx, H p = some (.ins a.c_Fault dx [("place", .int n)])
  | .ok (ws, ps) => ∃ dx l1 l2 ys, H p = some (.ins a.c_Words dx (WF l1 l2)) ∧ H l1 = some (.lst (ws.map fun w => .str (S w))) ∧ H l2 = some (.lst ys) ∧ Paired (Pls H) ys ps
theorem Ansd.ans {H H' : Hp} {p : Addr} {x : Told} (h : Ansd a H H' p x) : Ans a H' p x := by
  cases x with
  | error n => exact h
  | ok z =>
    obtain ⟨ws, ps⟩ := z
    obtain ⟨dx, l1, l2, ys, h1, h2, h3, h4, _⟩ := h
    exact ⟨dx, l1, l2, ys, h1, h2, h3, h4⟩
theorem Ans.same {H H' : Hp} {p : Addr} {x : Told} (h : Ans a H p x) (s : Same H H') : Ans a H' p x := by
  cases x with
  | error n =>
    obtain ⟨dx, h⟩ := h
    exact ⟨dx, s _ _ h⟩
  | ok z =>
    obtain ⟨ws, ps⟩ := z
    obtain ⟨dx, l1, l2, ys, h1, h2, h3, h4⟩ := h
    exact ⟨dx, l1, l2, ys, s _ _ h1, s _ _ h2, s _ _ h3, Paired.mapP h4 fun _ _ z => z.mono fun b xs => s b _⟩
def isOk : Told → Bool
  | .error _ => false
  | .ok _ => true
def clsOf (a : Ad) : Told → Addr
  | .error _ => a.c_Fault
  | .ok _ => a.c_Words
theorem clsOf_cl (T : Txt K mg a) (x : Told) : Cls K (clsOf a x) := by
  cases x
  · exact T.c_Fault.cl
  · exact T.c_Words.cl
theorem clsOf_k (T : Txt K mg a) (x : Told) : PySem.W.kitOne K (.ref (clsOf a x)) (.ref a.c_Words) = some (isOk x) := by
  cases x
  · exact T.k_FW
  · exact T.k_WW
theorem Ans.ty (T : Txt K mg a) {H : Hp} {p : Addr} {x : Told} (h : Ans a H p x) : TyX K H (.ref p) (.ref (clsOf a x)) := by
  cases x with
  | error n =>
    obtain ⟨dx, h⟩ := h
    exact ty_Fault T h
  | ok z =>
    obtain ⟨dx, l1, l2, ys, h1, _⟩ := h
    exact ty_Words T h1
theorem few_quotes {r : RS} (ok : r.Ok) : r.hard.length + r.soft.length ≤ 100 := by have h1 := ok.l2; have h2 := ok.l3; omega
theorem shown_bool (b : Bool) : (PyData.list [.bool b]).showable = true ∧ (PyData.list [.bool b]).hasDict = false ∧ (PyData.list [.bool b]).depth ≤ 32 ∧ (PyData.list [.bool b]).shown.length ≤ sizeLine := by
  cases b <;> exact ⟨by decide, by decide, by decide, by decide +kernel⟩
end
end Qw

set_option Elab.async false
set_option linter.all false
set_option maxRecDepth 100000
set_option maxHeartbeats 4000000
namespace Qw
open PySem L2
local macro_rules | `(tactic| walk_at "rd") => `(tactic| simp only [iEnum, iRng3, tRevL, rSlS, rSlL, gSub, rSetL, wipe, List.map_cons, List.map_nil, rAll, rAny, rIsi, tM1, tM0, iZipLT, iZip, iRng2, tLenSetS, rListStr, rMulS, rRep, rCntB, tRevS, rNeD, rEqD, tSeq, tNext, tAsg, tRet, tRetN, tDrop, tIfS, sFld, sFldAug, tVar, tC, tOp, tUn, tTest, tB, tAnd, tOr, tNot, tAndV, tOrV, tNotV, tIf, tTup, tLst, tCons, tNil, tCB, tCall, tMeth, tMake, tFld, rI, rI0, rU, rEq, rNe, rCat, gName, gTup, gCons, gNil, tPar, tPar3, tBM, tBM0, rAppend, rExtend, rPopAt, rIxL, rIxT, rIxS, tSl, rSlS, rSlL, tPart, tNoPart, iStr, iTup, iList, iRng1, tAug, ipI, L2.rAdd, L2.rSub, L2.rAddS, tChain, rIsB, rNotB, scal_ss, scal_ii, scal_bb, scal_nn, scal_in, scal_ni, tYes,
  cx_K, cx_N, List.getElem?_cons_zero, List.getElem?_cons_succ, List.set_cons_zero, List.set_cons_succ, List.nil_append, List.cons_append, List.append_nil, List.length_cons, List.length_nil, Nat.zero_add,
  Option.some.injEq, V.ref.injEq, V.int.injEq, V.str.injEq, V.bl.injEq, HO.ins.injEq, HO.lst.injEq, HO.tup.injEq, List.cons.injEq, exists_eq_left, exists_eq_left', exists_eq_right, exists_eq_right', and_true, true_and, exists_and_left, exists_and_right, and_assoc, decide_eq_true_eq, Bool.not_eq_true', decide_eq_false_iff_not, reduceCtorEq, exists_const, forall_const, if_true, if_false, false_and, and_false, ite_true, ite_false, Bool.true_eq_false, Bool.false_eq_true, Nat.reduceLeDiff, Nat.reduceAdd, small_line, small_lt, upd_ne, ne_eq, not_false_eq_true, Nat.zero_le, Prod.mk.injEq, upd_same, upd_upd, S_tl, S_len, S_app, S_one, S_inj,
  lk_breaks, lk_hard, lk_soft, lk_bend, lk_note, lk_rules, lk_state, lk_bent, lk_word, lk_begun, lk_opened, lk_place, pt_state, pt_bent, pt_word, pt_wordS, pt_wordN, pt_begun, pt_opened, pt_place, pt_place1, len_mf, litv_empty, litv_note, litv_nl, mf_inj, rf_inj, lkn_begin, lkn_ended, lkn_plain, lkn_quoted, lkn_step, lkn_fault, lkn_key, lkn_told, lkn_quotes, lkn_special, pt_open1, not_true_eq_false, not_false_eq_true])
local macro_rules | `(tactic| walk_at "rdh") => `(tactic| simp only [iEnum, iRng3, tRevL, rSlS, rSlL, gSub, rSetL, wipe, List.map_cons, List.map_nil, rAll, rAny, rIsi, tM1, tM0, iZipLT, iZip, iRng2, tLenSetS, rListStr, rMulS, rRep, rCntB, tRevS, rNeD, rEqD, tSeq, tNext, tAsg, tRet, tRetN, tDrop, tIfS, sFld, sFldAug, tVar, tC, tOp, tUn, tTest, tB, tAnd, tOr, tNot, tAndV, tOrV, tNotV, tIf, tTup, tLst, tCons, tNil, tCB, tCall, tMeth, tMake, tFld, rI, rI0, rU, rEq, rNe, rCat, gName, gTup, gCons, gNil, tPar, tPar3, tBM, tBM0, rAppend, rExtend, rPopAt, rIxL, rIxT, rIxS, tSl, rSlS, rSlL, tPart, tNoPart, iStr, iTup, iList, iRng1, tAug, ipI, L2.rAdd, L2.rSub, L2.rAddS, tChain, rIsB, rNotB, scal_ss, scal_ii, scal_bb, scal_nn, scal_in, scal_ni, tYes,
  cx_K, cx_N, List.getElem?_cons_zero, List.getElem?_cons_succ, List.set_cons_zero, List.set_cons_succ, List.nil_append, List.cons_append, List.append_nil, List.length_cons, List.length_nil, Nat.zero_add,
  Option.some.injEq, V.ref.injEq, V.int.injEq, V.str.injEq, V.bl.injEq, HO.ins.injEq, HO.lst.injEq, HO.tup.injEq, List.cons.injEq, exists_eq_left, exists_eq_left', exists_eq_right, exists_eq_right', and_true, true_and, exists_and_left, exists_and_right, and_assoc, decide_eq_true_eq, Bool.not_eq_true', decide_eq_false_iff_not, reduceCtorEq, exists_const, forall_const, if_true, if_false, false_and, and_false, ite_true, ite_false, Bool.true_eq_false, Bool.false_eq_true, Nat.reduceLeDiff, Nat.reduceAdd, small_line, small_lt, upd_ne, ne_eq, not_false_eq_true, Nat.zero_le, Prod.mk.injEq, upd_same, upd_upd, S_tl, S_len, S_app, S_one, S_inj,
  lk_breaks, lk_hard, lk_soft, lk_bend, lk_note, lk_rules, lk_state, lk_bent, lk_word, lk_begun, lk_opened, lk_place, pt_state, pt_bent, pt_word, pt_wordS, pt_wordN, pt_begun, pt_opened, pt_place, pt_place1, len_mf, litv_empty, litv_note, litv_nl, mf_inj, rf_inj, lkn_begin, lkn_ended, lkn_plain, lkn_quoted, lkn_step, lkn_fault, lkn_key, lkn_told, lkn_quotes, lkn_special, pt_open1, not_true_eq_false, not_false_eq_true, *])
local macro_rules | `(tactic| walk_at "pl") => `(tactic| (first | decide | (refine Nat.lt_of_le_of_lt (length_putF _ _ _) ?_; repeat (first | decide | refine pl2 ?_))))
local macro_rules | `(tactic| walk_at "al") => `(tactic| (intro p hp; generalize hH : upd _ p _ = H1; obtain ⟨S, e⟩ := gen_new hH hp; clear hH))
/-! ### a text that comes in pieces -/
theorem line_le'' {n : Nat} (h : n ≤ 100000) : n ≤ sizeLine := Nat.le_trans h (by decide)
def SF (mp fl : Addr) (b : Bool) : List (Str × V) := [("machine", .ref mp), ("found", .ref fl), ("over", .bl b)]
theorem lk_machine (mp fl : Addr) (b : Bool) : List.lookup ("machine" : Str) (SF mp fl b) = some (.ref mp) := by kernel_rfl
theorem lk_found (mp fl : Addr) (b : Bool) : List.lookup ("found" : Str) (SF mp fl b) = some (.ref fl) := by kernel_rfl
theorem lk_over (mp fl : Addr) (b : Bool) : List.lookup ("over" : Str) (SF mp fl b) = some (.bl b) := by kernel_rfl
theorem lkn_take (mp fl : Addr) (b : Bool) : List.lookup ("take" : Str) (SF mp fl b) = none := by kernel_rfl
theorem lkn_end (mp fl : Addr) (b : Bool) : List.lookup ("end" : Str) (SF mp fl b) = none := by kernel_rfl
/-- all but these are kept -/
def K2 (p q : Addr) (H H' : Hp) : Prop := ∀ b o, H b = some o → b ≠ p → b ≠ q → H' b = some o
theorem K2.trans {p q : Addr} {H H1 H2 : Hp} (a : K2 p q H H1) (b : K2 p q H1 H2) : K2 p q H H2 := fun c o e n m => b c o (a c o e n m) n m
theorem _root_.L2.Same.k2 {H H' : Hp} (p q : Addr) (s : Same H H') : K2 p q H H' := fun b o e _ _ => s b o e
theorem Kp.k2l {p : Addr} {H H' : Hp} (q : Addr) (k : Kp p H H') : K2 p q H H' := fun b o e n _ => k b o e n
theorem Kp.k2r {q : Addr} {H H' : Hp} (p : Addr) (k : Kp q H H') : K2 p q H H' := fun b o e _ n => k b o e n
theorem K2.tk {p q : Addr} {H H' : Hp} (k : K2 p q H H') {o1 o2 : HO} (h1 : H p = some o1) (h2 : H q = some o2) (n1 : ∀ xs, o1 ≠ .tup xs) (n2 : ∀ xs, o2 ≠ .tup xs) : Tk H H' := fun b xs e => k b _ e (fun z => by rw [z, h1] at e; exact n1 xs (Option.some.inj e)) (fun z => by rw [z, h2] at e; exact n2 xs (Option.some.inj e))
abbrev runZ (r : RS) (rp : Addr) (u : Tx) : MS × List W3 := (MS.zero rp).run r u
/-- a splitter behind the text u -/
structure Spl (a : Ad) (H : Hp) (p dx mp dm fl rp dr : Addr) (r : RS) (u : Tx) : Prop where
  h1 : H p = some (.ins a.c_Splitter dx (SF mp fl false))
  h2 : H mp = some (.ins a.c_Machine dm (runZ r rp u).1.f)
  h3 : ∃ xs, H fl = some (.lst xs) ∧ Fnds H xs (runZ r rp u).2
  h4 : H rp = some (.ins a.c_Rules dr r.f)
theorem Spl.same {a : Ad} {H H' : Hp} {p dx mp dm fl rp dr : Addr} {r : RS} {u : Tx} (h : Spl a H p dx mp dm fl rp dr r u) (s : Same H H') : Spl a H' p dx mp dm fl rp dr r u := by
  obtain ⟨xs, x1, x2⟩ := h.h3
  exact ⟨s _ _ h.h1, s _ _ h.h2, ⟨xs, s _ _ x1, x2.mono s.tk⟩, s _ _ h.h4⟩
theorem Spl.ne1 {a : Ad} {H : Hp} {p dx mp dm fl rp dr : Addr} {r : RS} {u : Tx} (h : Spl a H p dx mp dm fl rp dr r u) : p ≠ mp ∧ p ≠ fl ∧ mp ≠ fl ∧ rp ≠ mp ∧ rp ≠ fl ∧ rp ≠ p := by
  obtain ⟨xs, x1, x2⟩ := h.h3
  refine ⟨ne_of h.h1 h.h2 fun z => ?_, ne_of h.h1 x1 (fun z => by cases z), ne_of h.h2 x1 (fun z => by cases z), ne_of h.h4 h.h2 fun z => ?_, ne_of h.h4 x1 (fun z => by cases z), ne_of h.h4 h.h1 fun z => ?_⟩
  · injection z with _ _ z; exact absurd (congrArg List.length z) (by show ¬ (3 = 7); decide)
  · injection z with _ _ z; exact absurd (congrArg List.length z) (by show ¬ (5 = 7); decide)
  · injection z with _ _ z; exact absurd (congrArg List.length z) (by show ¬ (5 = 3); decide)
section
variable {P : Program} {w : World} {K : PySem.W.Frag} {mg : Str → Option Value} {base : Heap} {a : Ad}
def sp_Splitter_init (a : Ad) : Sp := fun vs H Q _ => ∃ p dx rp dr r, vs = [.ref p, .ref rp] ∧ H p = some (.ins a.c_Splitter dx []) ∧ H rp = some (.ins a.c_Rules dr (RS.f r)) ∧
  ∀ H' mp dm fl, H mp = none → H fl = none → Spl a H' p dx mp dm fl rp dr r [] → Kp p H H' → Q .non H'
theorem ok_Splitter_init (T : Txt K mg a) : FnOk P w K mg base CX0 3 a.f_Splitter_init a.d_Splitter_init P_Splitter_init (sp_Splitter_init a) := by
  refine T.F_Splitter_init.ok sc_Splitter_init (fun vs H Q E h => ?_) (fun cdv A outer s H vs Q E hr h => ?_)
  · obtain ⟨p, dx, rp, dr, r, rfl, _⟩ := h
    rfl
  · obtain ⟨p, dx, rp, dr, r, rfl, hM, hR, k⟩ := h
    have G_Machine_init := ok_Machine_init (P := P) (w := w) (base := base) T
    have B_Machine_init := bi_Machine_init T
    refine ⟨_,
(pss_cons (ps_fld (pv 0) (pe_make T.c_Machine.mc G_Machine_init (hr.mono (by decide)) rfl T.c_Machine.g B_Machine_init .nil pass0 (pa_cons (pv 1) pa_nil)) rfl)
    (pss_cons (ps_fld (pv 0) (pe_lst pa_nil) rfl)
    (pss_one (ps_fld (pv 0) pe_bl rfl))))
      , ?_⟩
    rw [show start N_Splitter_init [V.ref p, V.ref rp] = [some (.ref p), some (.ref rp)] from rfl]
    have hc := T.c_Splitter.cl
    have n1 := T.n_Splitter_machine
    have n2 := T.n_Splitter_found
    have n3 := T.n_Splitter_over
    walk_at "rdh"
    intro x dm hx hdm ne
    refine ⟨x, dm, rp, rfl, upd_same, fun H2 h1 h2 => ⟨rfl, ?_⟩⟩
    have S1 : Same H H2 := Same.made hx hdm h2
    refine ⟨_, _, _, S1 _ _ hM, hc, n1, by decide, fun f hf => ?_⟩
    have npf : f ≠ p := ne_upd hf
    have hf2 := none_upd hf
    have npx : x ≠ p := Ne.symm (ne_of_none hM hx)
    have nxf : x ≠ f := ne_of_none h1 hf2
    have nrp : rp ≠ p := ne_of hR hM fun z => by injection z with _ _ z; exact absurd (congrArg List.length z) (by show ¬ (5 = 0); decide)
    refine ⟨_, _, _, by rw [upd_ne (Ne.symm npf), upd_same], hc, n2, by walk_at "pl", hc, n3, by walk_at "pl", ?_⟩
    refine k _ x dm f hx (S1.free hf2) ⟨?_, ?_, ⟨[], ?_, .nil⟩, ?_⟩ ?_
    · rw [upd_same]
      exact congrArg (fun l => some (HO.ins a.c_Splitter dx l)) (by kernel_rfl)
    · rw [upd_ne npx, upd_ne nxf, upd_ne npx]
      exact h1
    · rw [upd_ne npf, upd_same]
    · rw [upd_ne nrp, upd_ne (ne_of_none (S1 _ _ hR) hf2), upd_ne nrp]
      exact S1 _ _ hR
    · refine Kp.upd (fun b o e n => ?_)
      rw [upd_ne (ne_of_none (S1 _ _ e) hf2), upd_ne n]
      exact S1 _ _ e
def sp_take (a : Ad) : Sp := fun vs H Q _ => ∃ p dx mp dm fl rp dr r u t, vs = [.ref p, .str (S t)] ∧ Spl a H p dx mp dm fl rp dr r u ∧ r.hard.length + r.soft.length ≤ 100 ∧ u.length + t.length ≤ 50000 ∧ t.all sgn = true ∧
  ∀ l H', H l = none → H' l = some (.lst (((runZ r rp u).1.run r t).2.map fun d => .str (S d.1))) → Spl a H' p dx mp dm fl rp dr r (u ++ t) → K2 mp fl H H' → Q (.ref l) H'
theorem ok_Splitter_take (T : Txt K mg a) : FnOk P w K mg base CX0 4 a.f_Splitter_take a.d_Splitter_take P_Splitter_take (sp_take a) := by
  refine T.F_Splitter_take.ok sc_Splitter_take (fun vs H Q E h => ?_) (fun cdv A outer s H vs Q E hr h => ?_)
  · obtain ⟨p, dx, mp, dm, fl, rp, dr, r, u, t, rfl, _⟩ := h
    rfl
  · obtain ⟨p, dx, mp, dm, fl, rp, dr, r, u, t, rfl, hS, hq, hl, hs, k⟩ := h
    have G_are_signs := ok_are_signs (P := P) (w := w) (base := base) T
    have B_are_signs := bi_are_signs T
    have G_Machine_step := ok_Machine_step (P := P) (w := w) (base := base) T
    have B_Machine_step := bi_Machine_step T
    refine ⟨_,
(pss_cons (ps_if (pt_not (pt_val (pe_call G_are_signs (hr.mono (by decide)) rfl T.f_are_signs.g T.f_are_signs.k B_are_signs .nil pass0 (pa_cons (pv 1) pa_nil)))) (pss_one ps_never) pss_nil)
    (pss_cons (ps_if (pt_val (pe_fld (pv 0) rfl)) (pss_one ps_never) pss_nil)
    (pss_cons (ps_set (i := 2) sc_Splitter_take.nd rfl (by first | exact Or.inl rfl | exact Or.inr rfl) (pe_callB call_len_seq (by rfl) T.b_len PySem.boot_len (pa_cons (pe_fld (pv 0) rfl) pa_nil)))
    (pss_cons (ps_for PassesOwn.never rfl (pi_str (pv 1)) (pg_name (i := 3) sc_Splitter_take.nd rfl (by first | exact Or.inl rfl | exact Or.inr rfl))
    (pss_one (ps_expr (pe_bm PySem.F.plainAttrs_list PySem.F.slot_list_extend PySem.F.type_list_extend mt_extend (pe_fld (pv 0) rfl) (pa_cons (pe_meth (pe_fld (pv 0) rfl) T.c_Machine.cl T.m_Machine_step G_Machine_step (hr.mono (by decide)) B_Machine_step .nil pass0 (pa_cons (pv 3) pa_nil)) pa_nil)))))
    (pss_one (ps_ret (pe_lc (own := [("pair", 4)]) (g := gName 4) (tt := tYes) rfl sc_Splitter_take.nd (pi_list (pe_slice sl_list (pe_fld (pv 0) rfl) (po_some (pv 2)) po_none)) (blkOk_by (own := [("pair", 4)]) (N := N_Splitter_take) (sc := defScope st_Splitter_take) (by decide +kernel)) (fun _ _ _ _ _ => (pg_name (i := 4) sc_Splitter_take.nd rfl (by first | exact Or.inl rfl | exact Or.inr rfl))) (fun _ _ _ _ _ => pts_nil) (fun _ _ _ _ _ => (pe_ix (ix_tupK (K := K) rfl) (pv 4) pe_int (fun _ _ => rfl))))))))))
      , ?_⟩
    rw [show start N_Splitter_take [V.ref p, V.str (S t)] = [some (.ref p), some (.str (S t)), none, none, none] from rfl]
    have hc := T.c_Splitter.cl
    have n1 := T.n_Splitter_machine
    have n2 := T.n_Splitter_found
    have n3 := T.n_Splitter_over
    have h1 := hS.h1
    walk_at "rdh"
    refine ⟨t, rfl, by omega, fun H0 s0 => ⟨_, rfl, ?_⟩⟩
    rw [hs]
    refine ite2 (fun z => by cases z) (fun _ => ?_)
    have hS0 := hS.same s0
    refine ⟨_, _, _, hS0.h1, hc, n3, _, lk_over _ _ _, _, rfl, ite2 (fun z => by cases z) (fun _ => ?_)⟩
    obtain ⟨xs0, x1, x2⟩ := hS0.h3
    refine ⟨_, _, _, hS0.h1, hc, n2, _, lk_found _ _ _, _, rfl, _, .inl (.inl (.inl x1)), ?_⟩
    obtain ⟨e1, e2, e3, e4, e5, e6⟩ := hS0.ne1
    have lx0 : xs0.length ≤ u.length := by
      have h1 := x2.length
      have h2 : (runZ r rp u).2.length ≤ u.length := MS.out_run r u (MS.zero rp)
      omega
    refine tfor_it (J := Its (S t)) (H1 := H0) (n := t.length) (G := fun _ => True) (fun R hR => ⟨_, rfl, _, rfl, hR⟩) walk_text (fun i σ H' => ∃ v3 ys, σ = [some (.ref p), some (.str (S t)), some (.int (xs0.length : Nat)), v3, none] ∧
      Spl a H' p dx mp dm fl rp dr r (u ++ t.take i) ∧ H' fl = some (.lst (xs0 ++ ys)) ∧ Fnds H' ys ((runZ r rp u).1.run r (t.take i)).2 ∧ K2 mp fl H0 H') ⟨_, [], rfl, ?_, ?_, .nil, fun _ _ e _ _ => e⟩ (fun _ _ _ _ _ => trivial) ?_ ?_
    · rw [List.take_zero, List.append_nil]; exact hS0
    · rw [List.append_nil]; exact x1
    · rintro i x σ Hx H2 hi ⟨v3, ys, rfl, S2, f2, g2, k2⟩ ⟨rfl, c, hc1, rfl⟩
      have m2 := S2.h2
      have q1 := S2.h1
      walk_at "rdh"
      have pl : (runZ r rp (u ++ t.take i)).1.place = u.length + i := by
        rw [runZ, MS.place_run, List.length_append, List.length_take]
        show 0 + _ = _
        omega
      have ru : (runZ r rp (u ++ t.take i)).1.rules = rp := MS.rules_run r _ _
      have ok := (MS.Ok.zero rp).run r (u ++ t.take i)
      have et : u ++ t.take (i + 1) = u ++ t.take i ++ [c] := by rw [take_at hc1, List.append_assoc]
      have es : (runZ r rp (u ++ t.take i)).1 = ((runZ r rp u).1.run r (t.take i)).1 := by rw [runZ, MS.run_app]
      have ly : ys.length ≤ i := by
        have h1 := g2.length
        have h2 := MS.out_run r (t.take i) (runZ r rp u).1
        rw [List.length_take] at h2
        omega
      obtain ⟨xs2, y1, y2⟩ := S2.h3
      obtain rfl : xs2 = xs0 ++ ys := by
        have := y1.symm.trans f2
        injection this with this
        injection this
      refine ⟨_, lk_found _ _ _, .inl ⟨rfl, _, .inl (.inl f2)⟩, _, lk_machine _ _ _, _, rfl, _, _, m2, lkn_step _, mp, dm, _, c, dr, r, rfl, m2, (by rw [ru]; exact S2.h4), hq, ok, (by rw [pl]; omega), fun l H3 zs q1' q2 q3 q4 q5 => ?_⟩
      have nlf : l ≠ fl := fun z => by rw [z, f2] at q1'; cases q1'
      have f3 := q5 _ _ f2 (Ne.symm e3)
      have kk : K2 mp fl H2 (upd H3 fl (.lst (xs0 ++ ys ++ zs))) := fun b o e n1 n2 => by
        rw [upd_ne n2]; exact q5 b o e n1
      have tk2 : Tk H2 H3 := q5.tk m2 fun _ z => by cases z
      have tk3 : Tk H3 (upd H3 fl (.lst (xs0 ++ ys ++ zs))) := kp_upd.tk f3 fun _ z => by cases z
      have ezs : zs.length ≤ 1 := by
        have h1 := q3.length
        have h2 := MS.out_step r (runZ r rp (u ++ t.take i)).1 c
        omega
      refine ⟨fl, rfl, l, rfl, _, f3, _, q2, ?_, ⟨kk _ _ S2.h1 e1 e2, ?_, ⟨_, upd_same, ?_⟩, kk _ _ S2.h4 e4 e5⟩, ys ++ zs, ?_, ?_, k2.trans kk⟩
      · rw [List.length_append]
        exact Nat.le_trans (show xs0.length + ys.length + zs.length ≤ 100000 by omega) (by decide)
      · rw [upd_ne e3, q4, et, show runZ r rp (u ++ t.take i ++ [c]) = _ from MS.run_one r _ c _]
      · rw [et, show runZ r rp (u ++ t.take i ++ [c]) = _ from MS.run_one r _ c _]
        exact Paired.app ((y2.mono tk2).mono tk3) (q3.mono tk3)
      · rw [upd_same, List.append_assoc]
      · rw [take_at hc1, MS.run_one, ← es]
        exact Paired.app ((g2.mono tk2).mono tk3) (q3.mono tk3)
    · rintro σ H2 ⟨v3, ys, rfl, S2, f2, g2, k2⟩
      rw [List.take_length] at S2 g2
      have q1 := S2.h1
      walk_at "rdh"
      have ly : ys.length ≤ t.length := by
        have h1 := g2.length
        have h2 := MS.out_run r t (runZ r rp u).1
        omega
      refine tlc_all (ι := Addr × Hp) (C := fun z => z.2 z.1 = some (.lst ys) ∧ Same H2 z.2) (J := fun z => Itl K z.1) (H1 := fun z => z.2) (fun R hR => ?_) fun z hz D hD => ?_
      · walk_at "rdh"
        refine ⟨_, lk_found _ _ _, _, rfl, _, .inl (.inl f2), ?_⟩
        rw [cut_from, List.drop_left]
        walk_at "al"
        rename_i p2 hp2 H3 S3 e3'
        exact ⟨⟨_, .inl (.inl e3')⟩, hR (p2, H3) ⟨e3', S3⟩⟩
      obtain ⟨p2, H3⟩ := z
      obtain ⟨z1, z2⟩ := hz
      dsimp only at z1 z2 hD
      have g3 := g2.mono z2.tk
      refine lc_map ((runZ r rp u).1.run r t).2 (fun d => .str (S d.1)) (G := fun H => SqL K H p2 ys) (g3.length ▸ walk_list) (by rw [← g3.length]; omega) hD (fun H s => .inl (.inl (s _ _ z1))) ?_ ?_
      · rintro R R' i d x H4 H4' hi s4 ⟨rfl, hx⟩ hk
        obtain ⟨b, v, rfl, o1, o2⟩ := Paired.at' g3 hi hx
        walk_at "rdh"
        exact ⟨_, .inl (.inl (s4 _ _ o1)), _, atI_nat (j := 0) rfl, hk _ (Same.refl _)⟩
      · intro H4 s4 e4'
        have S24 := z2.trans s4
        have fr : H D = none := by
          cases e : H D with
          | none => rfl
          | some o =>
            exfalso
            have hD2 : H2 D = none := z2.free hD
            by_cases n1 : D = mp
            · rw [n1, S2.h2] at hD2; cases hD2
            by_cases n2 : D = fl
            · rw [n2, f2] at hD2; cases hD2
            have := k2 _ _ (s0 _ _ e) n1 n2
            rw [hD2] at this; cases this
        exact k D H4 fr e4' (S2.same S24) (((s0.k2 mp fl).trans k2).trans (S24.k2 _ _))
def sp_end (a : Ad) : Sp := fun vs H Q _ => ∃ p dx mp dm fl rp dr r u, vs = [.ref p] ∧ Spl a H p dx mp dm fl rp dr r u ∧ u.length ≤ 50000 ∧
  ∀ q H', H q = none → Ansd a H H' q (told3 (readAll r u rp)) → H' p = some (.ins a.c_Splitter dx (SF mp fl true)) → K2 p mp H H' → Q (.ref q) H'
theorem ok_Splitter_end (T : Txt K mg a) : FnOk P w K mg base CX0 3 a.f_Splitter_end a.d_Splitter_end P_Splitter_end (sp_end a) := by
  refine T.F_Splitter_end.ok sc_Splitter_end (fun vs H Q E h => ?_) (fun cdv A outer s H vs Q E hr h => ?_)
  · obtain ⟨p, dx, mp, dm, fl, rp, dr, r, u, rfl, _⟩ := h
    rfl
  · obtain ⟨p, dx, mp, dm, fl, rp, dr, r, u, rfl, hS, hl, k⟩ := h
    have G_Machine_fault := ok_Machine_fault (P := P) (w := w) (base := base) T
    have B_Machine_fault := bi_Machine_fault T
    have G_Fault_init := ok_Fault_init (P := P) (w := w) (base := base) T
    have B_Fault_init := bi_Fault_init T
    have G_Machine_ended := ok_Machine_ended (P := P) (w := w) (base := base) T
    have B_Machine_ended := bi_Machine_ended T
    have G_Words_init := ok_Words_init (P := P) (w := w) (base := base) T
    have B_Words_init := bi_Words_init T
    refine ⟨_,
(pss_cons (ps_if (pt_val (pe_fld (pv 0) rfl)) (pss_one ps_never) pss_nil)
    (pss_cons (ps_fld (pv 0) pe_bl rfl)
    (pss_cons (ps_set (i := 1) sc_Splitter_end.nd rfl (by first | exact Or.inl rfl | exact Or.inr rfl) (pe_meth0 (pe_fld (pv 0) rfl) T.c_Machine.cl T.m_Machine_fault G_Machine_fault (hr.mono (by decide)) B_Machine_fault .nil pass0))
    (pss_cons (ps_if (pt_cmpR op_notN (pv 1) pe_non (nomark _)) (pss_one (ps_ret (pe_make T.c_Fault.mc G_Fault_init (hr.mono (by decide)) rfl T.c_Fault.g B_Fault_init .nil pass0 (pa_cons (pv 1) pa_nil)))) pss_nil)
    (pss_cons (ps_set (i := 2) sc_Splitter_end.nd rfl (by first | exact Or.inl rfl | exact Or.inr rfl) (pe_op op_cat (pe_fld (pv 0) rfl) (pe_meth0 (pe_fld (pv 0) rfl) T.c_Machine.cl T.m_Machine_ended G_Machine_ended (hr.mono (by decide)) B_Machine_ended .nil pass0)))
    (pss_one (ps_ret (pe_make T.c_Words.mc G_Words_init (hr.mono (by decide)) rfl T.c_Words.g B_Words_init .nil pass0 (pa_cons (pe_lc (own := [("pair", 3)]) (g := gName 3) (tt := tYes) rfl sc_Splitter_end.nd (pi_list (pv 2)) (blkOk_by (own := [("pair", 3)]) (N := N_Splitter_end) (sc := defScope st_Splitter_end) (by decide +kernel)) (fun _ _ _ _ _ => (pg_name (i := 3) sc_Splitter_end.nd rfl (by first | exact Or.inl rfl | exact Or.inr rfl))) (fun _ _ _ _ _ => pts_nil) (fun _ _ _ _ _ => (pe_ix (ix_tupK (K := K) rfl) (pv 3) pe_int (fun _ _ => rfl)))) (pa_cons (pe_lc (own := [("pair", 3)]) (g := gName 3) (tt := tYes) rfl sc_Splitter_end.nd (pi_list (pv 2)) (blkOk_by (own := [("pair", 3)]) (N := N_Splitter_end) (sc := defScope st_Splitter_end) (by decide +kernel)) (fun _ _ _ _ _ => (pg_name (i := 3) sc_Splitter_end.nd rfl (by first | exact Or.inl rfl | exact Or.inr rfl))) (fun _ _ _ _ _ => pts_nil) (fun _ _ _ _ _ => (pe_ix (ix_tupK (K := K) rfl) (pv 3) pe_int (fun _ _ => rfl)))) pa_nil))))))))))
      , ?_⟩
    rw [show start N_Splitter_end [V.ref p] = [some (.ref p), none, none, none] from rfl]
    have hc := T.c_Splitter.cl
    have n1 := T.n_Splitter_machine
    have n2 := T.n_Splitter_found
    have n3 := T.n_Splitter_over
    have h1 := hS.h1
    obtain ⟨n1', n2', n3', n4', n5', n6'⟩ := hS.ne1
    walk_at "rdh"
    have esf : putF (Str.ofString "over") (V.bl true) (SF mp fl false) = SF mp fl true := by kernel_rfl
    rw [esf]
    refine ⟨_, lk_over _ _ _, _, rfl, ite2 (fun z => by cases z) (fun _ => ⟨by show 3 < 1000; decide, ?_⟩)⟩
    have k1 : Kp p H (upd H p (HO.ins a.c_Splitter dx (SF mp fl true))) := kp_upd
    have p1 : upd H p (HO.ins a.c_Splitter dx (SF mp fl true)) p = some (HO.ins a.c_Splitter dx (SF mp fl true)) := upd_same
    have tk1 := k1.tk h1 fun _ z => by cases z
    obtain ⟨xs, x1, x2⟩ := hS.h3
    have m1 := k1 _ _ hS.h2 (Ne.symm n1')
    have f1 := k1 _ _ x1 (Ne.symm n2')
    have g1 := x2.mono tk1
    generalize upd H p (HO.ins a.c_Splitter dx (SF mp fl true)) = H1 at *
    have fr1 : ∀ {b}, H1 b = none → H b = none := fun {b} hb => by
      cases e : H b with
      | none => rfl
      | some o =>
        exfalso
        by_cases n : b = p
        · rw [n, p1] at hb; cases hb
        · rw [k1 _ _ e n] at hb; cases hb
    refine ⟨_, lk_machine _ _ _, _, rfl, _, _, m1, lkn_fault _, mp, dm, _, rfl, m1, fun H2 s2 => ?_⟩
    have hu : u.length ≤ 50000 := hl
    cases ef : (runZ r rp u).1.fault with
    | some n =>
      have er : readAll r u rp = .error n := by unfold readAll; rw [show (MS.run r (MS.zero rp) u).1.fault = some n from ef]
      rw [er] at k
      dsimp only
      refine ite2 (fun _ => ?_) (fun c => absurd (fun z => by cases z) c)
      intro x dx' hx hdx ne
      refine ⟨x, dx', _, rfl, upd_same, fun H' g1 g2 => ⟨rfl, ?_⟩⟩
      have sm := Same.made hx hdx g2
      exact k x H' (fr1 (s2.free hx)) ⟨dx', g1⟩ (sm _ _ (s2 _ _ p1)) ((k1.k2l mp).trans ((s2.trans sm).k2 _ _))
    | none =>
      have er : readAll r u rp = .ok ((runZ r rp u).2 ++ (runZ r rp u).1.out) := by unfold readAll; rw [show (MS.run r (MS.zero rp) u).1.fault = none from ef]
      rw [er] at k
      dsimp only
      refine ite2 (fun c => absurd rfl c) (fun _ => ?_)
      have p2 := s2 _ _ p1
      have m2 := s2 _ _ m1
      have f2 := s2 _ _ f1
      refine ⟨_, _, _, p2, hc, n2, _, lk_found _ _ _, _, _, _, p2, hc, n1, _, lk_machine _ _ _, _, rfl, _, _, m2, lkn_ended _, mp, dm, _, rfl, m2, fun l H3 ys q1 q2 q3 q4 q5 => ?_⟩
      have f3 := q5 _ _ f2 (Ne.symm n3')
      have p3 := q5 _ _ p2 n1'
      have tk3 : Tk H2 H3 := q5.tk m2 fun _ z => by cases z
      have lxs : xs.length ≤ u.length := by
        have h1 := g1.length
        have h2 : (runZ r rp u).2.length ≤ u.length := MS.out_run r u (MS.zero rp)
        omega
      have lys : ys.length ≤ 1 := by
        have h1 := q3.length
        have : (runZ r rp u).1.out.length ≤ 1 := by unfold MS.out; split <;> simp
        omega
      have fr3 : ∀ {b}, H3 b = none → H b = none := fun {b} hb => by
        refine fr1 ?_
        cases e : H1 b with
        | none => rfl
        | some o =>
          exfalso
          by_cases n : b = mp
          · rw [n, q4] at hb; cases hb
          · rw [q5 _ _ (s2 _ _ e) n] at hb; cases hb
      have kk : K2 p mp H H3 := ((k1.k2l mp).trans (s2.k2 _ _)).trans (q5.k2r p)
      refine ⟨_, rfl, _, rfl, _, f3, _, q2, line_le'' (by omega), fun l5 hl5 => ?_⟩
      obtain ⟨S5, e5⟩ := gen_new (o := HO.lst (xs ++ ys)) rfl hl5
      generalize upd H3 l5 (HO.lst (xs ++ ys)) = H5 at *
      have t3 : Fnds H5 (xs ++ ys) ((runZ r rp u).2 ++ (runZ r rp u).1.out) := Paired.app (((g1.mono s2.tk).mono tk3).mono S5.tk) (q3.mono S5.tk)
      generalize hds : (runZ r rp u).2 ++ (runZ r rp u).1.out = ds at *
      generalize hxy : xs ++ ys = zs at *
      have hlen := t3.length
      have dl : zs.length ≤ 60000 := by rw [← hxy, List.length_append]; omega
      refine tlc_map ds (fun d => .str (S d.1)) (J := Itl K l5) (H1 := H5) (G := fun H => SqL K H l5 zs) (fun R hR => ?_) (hlen ▸ walk_list) (by omega) (fun H s => .inl (.inl (s _ _ e5))) ?_ ?_
      · exact ⟨_, rfl, l5, rfl, ⟨_, .inl (.inl e5)⟩, hR⟩
      · rintro R R' i d x H6 H7 hi s6 ⟨rfl, hx⟩ hR
        obtain ⟨b, v, rfl, g1, g2⟩ := Paired.at' t3 hi hx
        walk_at "rd"
        refine ⟨_, .inl (.inl (s6 _ _ g1)), _, rfl, hR _ (Same.refl _)⟩
      · intro D H6 hD s6 e6
        obtain ⟨us, u1, u2, u3⟩ := fnds_pl t3
        refine tlc_map us id (J := Itl K l5) (H1 := H6) (G := fun H => SqL K H l5 zs) (fun R hR => ?_) ((hlen.trans u1.symm) ▸ walk_list) (by omega) (fun H s => .inl (.inl (s _ _ (s6 _ _ e5)))) ?_ ?_
        · exact ⟨_, rfl, l5, rfl, ⟨_, .inl (.inl (s6 _ _ e5))⟩, hR⟩
        · rintro R R' i v x H7 H8 hi s7 ⟨rfl, hx⟩ hR
          obtain ⟨b, w, rfl, g1⟩ := u3 i x v hx hi
          walk_at "rd"
          exact ⟨_, .inl (.inl (s7 _ _ (s6 _ _ g1))), _, rfl, hR _ (Same.refl _)⟩
        · intro D3 H7 hD3 s7 e7
          rw [List.map_id] at e7
          intro x dx' hx hdx ne
          have s37 := (S5.trans s6).trans s7
          have sm : Same H7 (upd (upd H7 dx' (.own x)) x (.ins a.c_Words dx' [])) := Same.made hx hdx fun _ _ e _ => e
          refine ⟨x, dx', D, D3, _, _, rfl, upd_same, sm _ _ (s7 _ _ e6), sm _ _ e7, fun w1 w2 H' r1 r2 r3 r4 r5 r6 r7 => ⟨rfl, ?_⟩⟩
          have sf : Same H7 H' := Same.made hx hdx r7
          refine k x H' (fr3 (s37.free hx)) ⟨dx', w1, w2, us, r6, ?_, r5, ?_, fr3 ((s37.trans sm).free r1), fr3 ((s37.trans sm).free r2), r3⟩ ((s37.trans sf) _ _ p3) (kk.trans ((s37.trans sf).k2 _ _))
          · rw [r4, List.map_map]; rfl
          · exact Paired.mapP u2 fun _ _ z => z.mono fun b xs => ((s6.trans s7).trans sf) b _
end
end Qw

set_option Elab.async false
set_option linter.all false
set_option maxRecDepth 100000
set_option maxHeartbeats 4000000
namespace Qw
open PySem L2 PySem.Spec PyProof.Rows
/-! ### own errors: isinstance of one that is caught, the making of one with a field -/
/-- what the text says of an error's class -/
structure ErrC (K : PySem.W.Frag) (D : Addr) : Prop where
  ga : PySem.W.findIn K (.ref D) "__getattribute__" = some (some (.builtin "BaseException.__getattribute__"))
  gg : PySem.W.findIn K (.ref D) "__getattr__" = some none
  be : PySem.W.subIn K (.ref D) (.type "BaseException") = some true
  hd : PySem.W.hasDictIn K D = true
  cl : PySem.W.findIn K (.ref D) "__class__" = some (some (.builtin "object.__class__"))
  gn : PySem.W.specialIn K (.builtin "object.__class__") "__get__" = some (some (.builtin "getset_descriptor.__get__"))
  tk : PySem.W.takesIn K (.builtin "object.__class__") = some true
  ob : PySem.W.mroIn K D (.type "object") = some true
  ty : PySem.W.typeIn K (.ref D) = some (.type "type")
  kp : PySem.W.keepIn K (.ref D) = true
theorem ErrC.some {K : PySem.W.Frag} {D : Addr} (e : ErrC K D) : (PySem.W.clsIn K D).isSome = true := by
  obtain ⟨cd, hc, _⟩ := PySem.W.any_some e.hd
  rw [hc]
  rfl
theorem ErrC.xf {K : PySem.W.Frag} {D : Addr} (e : ErrC K D) : XfC K D := ⟨e.ga, e.gg, e.be, e.hd⟩
theorem ErrC.raises {X : Cx} {D : Addr} (e : ErrC X.K D) : Raises X (.ref D) := raises_own e.be e.ty
/-- a clause's test -/
theorem ErrC.clause {K : PySem.W.Frag} {C D : Addr} {b : Bool} (e : ErrC K D) (h : PySem.W.subIn K (.ref C) (.ref D) = Option.some b) : PySem.W.exmOne K (.ref C) (.ref D) = Option.some b := PySem.W.exm_ref e.be e.hd e.ty h
/-- isinstance(error, c) in the suite, the error at a of the class cls, its fields at d -/
def rIsX (K : PySem.W.Frag) (cls : Value) (d : Option Addr) (a : Addr) : List V → Hp → VK → Prop := fun xs H Q => ∃ (D : Addr) (c : V) (cv : Value) (b : Bool), cls = .ref D ∧ ErrC K D ∧ xs = [.ref a, c] ∧ (∀ u, RelV c u → u = cv) ∧
  PySem.W.kitOne K (.ref D) cv = Option.some b ∧ (d = Option.none ∨ ∃ dd fs, d = Option.some dd ∧ H dd = Option.some (.xd fs)) ∧ Q (.bl b) H
theorem call_isX {X : Cx} {a : Addr} {cls : Value} {d : Option Addr} {oe : Obj} {pn : List (Addr × Obj)} (zc : Zc cls d oe) (fl : ∃ vs, oe.data = .fields vs) : CallR (X.suite a ((a, oe) :: pn)) (.builtin "isinstance") (rIsX X.K cls d a) := by
  intro pins s σ H xs us Q I r h
  obtain ⟨D, c, cv, b, rfl, C, rfl, hcv, e, hd, q⟩ := h
  obtain ⟨u1, us1, rfl, r1, rr⟩ : ∃ u1 us1, us = u1 :: us1 ∧ RelV (.ref a) u1 ∧ Vals [c] us1 := by
    cases r with
    | cons x y => exact ⟨_, _, rfl, x, y⟩
  obtain ⟨u2, rfl, r2⟩ := rr.one
  cases r1
  cases hcv _ r2
  obtain ⟨at_, _⟩ := I.pin (a, oe) (List.mem_append.mpr (.inl List.mem_cons_self))
  obtain ⟨fv, hv⟩ := fl
  have done : ∀ od : Option Obj, PySem.W.InstAt s.heap a oe D od → wpAny (model X.prog X.w) (X.suite a ((a, oe) :: pn)).A (call (.builtin "isinstance") [.ref a, cv]) (EP (X.suite a ((a, oe) :: pn)) pins σ Q) (X.suite a ((a, oe) :: pn)).xe s := fun od J =>
    PySem.W.kia_one (PySem.W.kitx_exc C.some C.ga C.gg C.be C.cl C.gn C.tk C.ob) I.kIn J e (fun z => nomatch z) fun tk => ⟨.bl b, H, I.kept (t' := tk) fun _ _ z => z, rfl, q⟩
  have nc : PySem.W.notCls oe = true := by unfold PySem.W.notCls; rw [hv]
  rcases hd with rfl | ⟨dd, fs, rfl, hx⟩
  · refine done Option.none ⟨at_, zc.1, nc, ?_⟩
    rw [zc.2]
    trivial
  · obtain ⟨mA, hns, _⟩ := (show ObjOk X.prog X.w H s.heap dd (.xd fs) from I.hok dd _ hx)
    obtain ⟨od, ho, _⟩ := lookIn_ns hns
    refine done (Option.some od) ⟨at_, zc.1, nc, ?_⟩
    rw [zc.2]
    exact ho
/-- Base.__init__(self, ..) of an own class without one of its own, over ValueError -/
theorem pe_upinit {X : Cx} {x : Str} {D : Addr} {pl : Sem Bool} {e : Expr} {es : List Expr} {ta : TA} {p1 p2 pos : Pos} (hg : Gl X x) (hm : X.mg x = Option.some (.ref D)) (rd : PySem.W.readsIn X.K D (.type "type") = true)
    (gt : PySem.W.specialIn X.K (.ref D) "__getattribute__" = Option.some (Option.some (.builtin "type.__getattribute__")))
    (vV : PySem.W.findCls X.K (.ref D) (.type "type") "__init__" = Option.some (.val (.builtin "ValueError.__init__"))) (ha : PA X (e :: es) ta) (hdb : (x == ("__debug__" : Str)) = false := by decide)
    (hc : eval (.Call (.Attribute (.Name x p1) "__init__" p2) (e :: es) [] pos) X.env = (do
      let ov ← eval (.Name x p1) X.env
      standAt p2.atName
      let (g, first) ← holding [ov] (getMethod ov "__init__" pl)
      callWith pos g first (backTo pos (starEach (e :: es) X.env)) (backToKw pos (keywordEach [] X.env))) := by rfl)
    (he : starEach (e :: es) X.env = (false, eval e X.env) :: starEach es X.env := by rfl) (hpl : (backTo pos (starEach es X.env)).any (·.1) = false := by rfl) :
    PE X (.Call (.Attribute (.Name x p1) "__init__" p2) (e :: es) [] pos) (tVeI X.K ta) := by
  refine ⟨fun pins s σ H Q I h => ?_⟩
  refine PySem.W.methodCall_KW (ld_glob I hg hm ?_ hdb) hc
  refine PySem.W.method_cls I.kIn gt (PySem.W.cls_value I.kIn rd vV (by decide +kernel) ?_)
  have J0 := I.tok (s.toks + 1)
  show wpAny _ _ (callWith pos (Value.builtin "ValueError.__init__") [] (backTo pos (starEach (e :: es) X.env)) []) _ _ _
  refine callWith_method1 (thn (ha.run pos pins _ σ H _ J0 h) fun us s1 hh => ?_) he hpl
  obtain ⟨vs, H1, I1, r1, b, C, ws, rfl, hl, O, eb, q⟩ := hh
  obtain ⟨u0, ur, rfl, ra, rw'⟩ : ∃ u0 ur, us = u0 :: ur ∧ RelV (.ref b) u0 ∧ Vals ws ur := by
    cases r1 with
    | cons x y => exact ⟨_, _, rfl, x, y⟩
  cases ra
  refine oinit_ok O I1 eb ?_ fun s' J => ⟨.non, H1, J, rfl, q⟩
  have := rw'.length
  rw [sizeLine_eq]
  omega
end Qw

set_option Elab.async false
set_option linter.all false
set_option maxRecDepth 100000
set_option maxHeartbeats 4000000
namespace Qw
open PySem L2 LamX NdefX PySem.Spec PyProof.Rows
/-! ### lambdas with parameters: made, and called by a local name -/
/-- its words, the cells that it captured, its code object -/
structure LF where
  qual : Str
  params : Arguments
  body : Expr
  scope : Scope
  cl : List (Str × Addr)
  c : Addr
/-- as the words of a def that has no body: its frame is made alike -/
abbrev LF.nf (L : LF) : NF := ⟨"<lambda>", L.qual, L.params, [], L.scope, L.cl, L.c⟩
abbrev LF.obj (L : LF) (pm ctv : Value) : Obj := PySem.W.kla_obj "<lambda>" L.qual L.params L.body L.scope L.cl pm L.c ctv
/-- the object at f is the lambda L -/
def LamO (f : Addr) (L : LF) : HO := .ext fun h => ∃ pm ctv : Value, h.get? f = some (L.obj pm ctv)
theorem lamO_at {P : Program} {w : World} {H : Hp} {h : Heap} {f : Addr} {L : LF} (hok : HOk P w H h) (e : H f = some (LamO f L)) : ∃ pm ctv : Value, h.get? f = some (L.obj pm ctv) := (hok f _ e).1
theorem lamO_tup {f : Addr} {L : LF} {xs : List V} : LamO f L ≠ .tup xs := fun z => by unfold LamO at z; cases z
/-- a table is kept by what keeps all but another -/
theorem TabS.kp {H H' : Hp} {P Q : Addr} {q : Str} (t : TabS H Q q) (k : Kp P H H') (n : Q ≠ P) (hP : ∃ ps, H P = some (.tbl ps)) : TabS H' Q q := by
  obtain ⟨ps, h1, h2, h3⟩ := t
  obtain ⟨qs, hq⟩ := hP
  refine ⟨ps, k _ _ h1 n, h2, fun pos cv hc => ?_⟩
  obtain ⟨c, e1, e2⟩ := h3 pos cv hc
  refine ⟨c, e1, k _ _ e2 fun z => ?_⟩
  rw [z, hq] at e2
  exact codeO_ne qs (Option.some.inj e2).symm
section
variable {X : Cx} {pins : List (Addr × Obj)} {σ : L2.St} {H : Hp} {s : Shared}
theorem inv_lam {L : LF} {t' : Nat} {pm ctv : Value} (I : Inv X pins σ H s) : Inv X pins σ (upd H s.heap.objs.size (LamO s.heap.objs.size L)) { s with heap := s.heap.push (L.obj pm ctv), toks := t' } := by
  have e : (s.heap.push (L.obj pm ctv)).get? s.heap.objs.size = some (L.obj pm ctv) := Heap.get?_push_size _ rfl
  exact I.laid (a := s.heap.objs.size) (fun _ _ z => Heap.get?_push_of_some _ z) (Nat.le_refl _) ⟨⟨pm, ctv, e⟩, ⟨_, e⟩, fun _ _ ⟨p, t, z⟩ st => ⟨p, t, st _ z⟩⟩
/-- a lambda's object is made; its code object is new, or known from the table -/
theorem lam_put {c P : Addr} {q : Str} {params : Arguments} {body : Expr} {scope : Scope} {pos : Pos} {E : Value → Shared → Prop} {Q : Value → Shared → Prop} (I : Inv X pins σ H s) (TB : TabB X.base X.mg c P) (cd : X.env.code = .ref c) (hq : X.env.qual ++ "<lambda>" = q)
    (T : TabS H P q) (df : defaultsOf params X.env = ([], [])) (fr : ∀ y ∈ scope.names, y.2 = .free → ∃ c, X.env.cells.lookup y.1 = some c)
    (h : ∀ (f c' : Addr) (H1 : Hp) (s' : Shared), Inv X pins σ H1 s' → Kp P H H1 → (∀ b, H1 b = none → H b = none) → TabS H1 P q → H f = none →
      H1 f = some (LamO f ⟨q, params, body, scope, cloFrom X.env.cells scope.names [], c'⟩) → H1 c' = some (CodeO c' q) → Q (.ref f) s') :
    wpAny (model X.prog X.w) X.A (eval (.Lambda params body scope pos) X.env) Q E s := by
  subst hq
  obtain ⟨ps, tP, tok, tc⟩ := T
  have hb := TB.bm.keeps I.bk
  have tP' : s.heap.get? P = some { cls := .none, data := .fields ps } := I.hok P _ tP
  refine PySem.W.kla_eval df ?_
  cases e : codeAmong pos ps.toList with
  | some cv =>
    obtain ⟨c', rfl, co⟩ := tc pos cv e
    refine PySem.W.kla_makeFunctionHit (mg := X.mg) (c := c) (P := P) (ps := ps) (closure_ok fr) I.ok.glob (I.mod.glob.keeps I.bk) cd (TB.code.keeps I.bk) tP' tok e hb fun ctv h' tk old _ => ?_
    have J : Inv X pins σ H { s with heap := h', toks := tk } := I.kept old
    have nf : H h'.objs.size = none := J.hok.fresh (Nat.le_refl _)
    have ne : ∀ {b : Addr} {o : HO}, H b = some o → b ≠ h'.objs.size := fun z => ne_of_none z nf
    have J2 := inv_lam (L := ⟨X.env.qual ++ "<lambda>", params, body, scope, cloFrom X.env.cells scope.names [], c'⟩) (t' := tk) (pm := (X.mg "__name__").getD .none) (ctv := ctv) J
    refine h h'.objs.size c' _ _ J2 (fun b o z _ => (upd_ne (ne z)).trans z) (fun b z => none_upd z) ⟨ps, (upd_ne (ne tP)).trans tP, tok, fun p v w => ?_⟩ nf upd_same ((upd_ne (ne co)).trans co)
    obtain ⟨d, e1, e2⟩ := tc p v w
    exact ⟨d, e1, (upd_ne (ne e2)).trans e2⟩
  | none =>
    refine PySem.W.kla_makeFunction (mg := X.mg) (c := c) (P := P) (ps := ps) (closure_ok fr) I.ok.glob (I.mod.glob.keeps I.bk) cd (TB.code.keeps I.bk) tP' tok e TB.gP hb fun c' ctv h' tk old big lt rec_ tab => ?_
    obtain ⟨c2, oc, vs, t, e2, r1, r2, r3⟩ := rec_
    cases e2
    have nC : H c' = none := I.hok.fresh big
    have J := inv_table (t' := tk) (more := #[rawInt pos.line, rawInt pos.col, .ref c']) (h' := h') I tP (fun b o n z => old b o n z) tab big ⟨oc, vs, t, r1, r2, r3⟩
    have eP : upd (upd H P (.tbl (ps ++ #[rawInt pos.line, rawInt pos.col, .ref c']))) c' (CodeO c' (X.env.qual ++ "<lambda>")) P = some (.tbl (ps ++ #[rawInt pos.line, rawInt pos.col, .ref c'])) := by rw [upd_ne (ne_of_none tP nC), upd_same]
    have oth : ∀ {b : Addr} {o : HO}, H b = some o → b ≠ P → upd (upd H P (.tbl (ps ++ #[rawInt pos.line, rawInt pos.col, .ref c']))) c' (CodeO c' (X.env.qual ++ "<lambda>")) b = some o := fun z n => by
      rw [upd_ne (ne_of_none z nC), upd_ne n]
      exact z
    generalize hG : upd (upd H P (.tbl (ps ++ #[rawInt pos.line, rawInt pos.col, .ref c']))) c' (CodeO c' (X.env.qual ++ "<lambda>")) = G at *
    have eC : G c' = some (CodeO c' (X.env.qual ++ "<lambda>")) := by rw [← hG]; exact upd_same
    have nf : G h'.objs.size = none := J.hok.fresh (Nat.le_refl _)
    have ne : ∀ {b : Addr} {o : HO}, G b = some o → b ≠ h'.objs.size := fun z => ne_of_none z nf
    have fr0 : ∀ b, G b = none → H b = none := fun b z => by
      rw [← hG] at z
      exact none_upd (none_upd z)
    have J2 := inv_lam (L := ⟨X.env.qual ++ "<lambda>", params, body, scope, cloFrom X.env.cells scope.names [], c'⟩) (t' := tk) (pm := (X.mg "__name__").getD .none) (ctv := ctv) J
    refine h h'.objs.size c' _ _ J2 (fun b o z n => (upd_ne (ne (oth z n))).trans (oth z n)) (fun b z => fr0 _ (none_upd z)) ⟨_, (upd_ne (ne eP)).trans eP, ?_, fun p v w => ?_⟩ (fr0 _ nf) upd_same ((upd_ne (ne eC)).trans eC)
    · rw [Array.toList_append]
      exact PySem.TriplesOk_snoc _ _ _ _ tok
    · rw [Array.toList_append] at w
      rcases among_app _ tok w with z | z
      · obtain ⟨d, e1, e2⟩ := tc p v z
        have z2 := oth e2 fun y => by
          rw [y, tP] at e2
          exact codeO_ne ps (Option.some.inj e2).symm
        exact ⟨d, e1, (upd_ne (ne z2)).trans z2⟩
      · exact ⟨c', z, (upd_ne (ne eC)).trans eC⟩
end
/-- the reading of a lambda -/
def tLamP (P : Addr) (q : Str) (mk : Addr → LF) : TE := fun _ H Q => TabS H P q ∧ ∀ f c' H1, Kp P H H1 → (∀ b, H1 b = none → H b = none) → TabS H1 P q → H f = none → H1 f = some (LamO f (mk c')) → H1 c' = some (CodeO c' q) → Q (.ref f) H1
section
variable {X : Cx}
theorem pe_lamP {c P : Addr} {q : Str} {params : Arguments} {body : Expr} {scope : Scope} {pos : Pos} (TB : TabB X.base X.mg c P) (cd : X.env.code = .ref c) (hq : X.env.qual ++ "<lambda>" = q) (df : defaultsOf params X.env = ([], []))
    (fr : ∀ y ∈ scope.names, y.2 = .free → X.env.scope.names.lookup y.1 = some .cell ∨ X.env.scope.names.lookup y.1 = some .free) :
    PE X (.Lambda params body scope pos) (tLamP P q fun c' => ⟨q, params, body, scope, cloFrom X.env.cells scope.names [], c'⟩) :=
  ⟨fun pins s σ H Q I h => lam_put I TB cd hq h.1 df (fun y hy e => (fr y hy e).elim (fun z => I.ok.has _ (.inl z)) fun z => I.ok.has _ (.inr z)) fun f c' H1 s' J k n t hf e1 e2 => ⟨.ref f, H1, J, rfl, h.2 f c' H1 k n t hf e1 e2⟩⟩
end
/-- what the lambda L promises: its parameters ps, what its captured names fr hold ws -/
structure LOk (P : Program) (w : World) (K : PySem.W.Frag) (mg : Str → Option Value) (base : Heap) (CX : CXT) (k : Nat) (L : LF) (ps fr : List Str) (ws : List (Option V)) (sp : Sp) : Prop where
  len : ∀ vs H Q E, sp vs H Q E → vs.length = ps.length
  run : ∀ (f : Addr) (A : Around) (outer : List Env) (s : Shared) (H : Hp) (us : List Value) (vs : List V) (Q : VK) (E : XK), Room k A → Env0 P w K mg base A outer s H → H f = some (LamO f L) → H L.c = some (CodeO L.c L.qual) →
    CellsAt L.cl fr ws s.heap H → Vals vs us → sp vs H Q E → codeAny (model P w) A (.call (.ref f) ⟨us, []⟩) (CR CX outer P w H s Q E) s
section
variable {CX : CXT} {P : Program} {w : World} {K : PySem.W.Frag} {mg : Str → Option Value} {base : Heap} {N ps fr : List Str} {L : LF} {k : Nat} {ws : List (Option V)} {sp : Sp}
theorem lok_of (S : NScope N ps fr L.scope) (bd : ∀ (pm ctv : Value) (us : List Value), us.length = ps.length → bindArgs (PySem.W.kla_fn "<lambda>" L.qual L.params L.body L.scope L.cl pm (.ref L.c) ctv) ⟨us, []⟩ = pure (ps.zip us))
    (len : ∀ vs H Q E, sp vs H Q E → vs.length = ps.length)
    (go : ∀ (f : Addr) (A : Around) (outer : List Env) (s : Shared) (H : Hp) (vs : List V) (Q : VK) (E : XK), Room k (A.deeper (envF L.nf f s.heap.objs.size)) → sp vs H Q E →
      ∃ t, PE (ncx CX P w K mg base N L.nf f A outer s H E) L.body t ∧ t (startF N vs ws) H Q) : LOk P w K mg base CX (k + 1) L ps fr ws sp := by
  refine ⟨len, fun f A outer s H us vs Q E hr e0 hf hc C r q => ?_⟩
  have lv := len _ _ _ _ q
  have lim : s.heap.NoLimit := e0.mod.nolimit.keeps fun _ _ e => (e0.bs _ _ e).1
  obtain ⟨pm, ctv, ho⟩ := lamO_at e0.hok hf
  refine PySem.W.kla_callFunE hr.depth ho rfl S.co S.gen rfl (codeO_at e0.hok hc) ?_
  rw [bd pm ctv us (r.length ▸ lv)]
  refine wpAny_pure (wpAny_newFunctionEnv S.nocell (fun ⟨n, _⟩ hy => S.par n (List.of_mem_zip hy).1) (fun h₁ hns hsb => ⟨lim.fresh _ hsb, ?_⟩) S.kind)
  have old : ∀ b o, s.heap.get? b = some o → h₁.get? b = some o := fun b o e => hsb.extBut b o (Nat.ne_of_lt (Heap.lt_size e)) (Heap.get?_push_of_some _ e)
  obtain ⟨t, pt, qt⟩ := go f A outer s H vs Q E (hr.deeper _) q
  have J : Inv (ncx CX P w K mg base N L.nf f A outer s H E) [] (startF N vs ws) H { s with heap := h₁, toks := s.toks + (ps.zip us).length } := inv_startN S hr.hd e0 lv r C hns old
  refine PySem.W.kla_codeExpr (wpAny_mono (pt.run [] _ (startF N vs ws) H Q J qt) (fun u s' z => ?_) fun _ _ z => z)
  obtain ⟨v, H', J', rv, z⟩ := z
  exact ⟨v, H', J'.os, J'.bare, J'.base, J'.hok, rv, z⟩
end
/-- x(..), x a local that holds one of the lambdas told by G -/
def tCallLam (i : Nat) (G : LF → Sp → Prop) (E : L2.St → XK) (t : TA) : TE := fun σ H Q => ∃ f L sp, σ[i]? = some (some (.ref f)) ∧ G L sp ∧ H f = some (LamO f L) ∧ t σ H fun vs H1 => H1 f = some (LamO f L) ∧ H1 L.c = some (CodeO L.c L.qual) ∧ sp vs H1 Q (E σ)
/-- what lambdas a frame may call: its promise, and what its cells hold all the while -/
def Knows (X : Cx) (CX : CXT) (k : Nat) (G : LF → Sp → Prop) : Prop := ∀ L sp, G L sp → ∃ ps fr ws, LOk X.prog X.w X.K X.mg X.base CX k L ps fr ws sp ∧ ∀ pins σ H s, Inv X pins σ H s → CellsAt L.cl fr ws s.heap H
section
variable {X : Cx} {CX : CXT} {k i : Nat} {x : Str} {G : LF → Sp → Prop} {E : L2.St → XK} {t : TA} {e : Expr} {es : List Expr} {p pos : Pos}
theorem pe_callLam (Kn : Knows X CX k G) (hr : Room k X.A) (hx : ∀ σ, PassesAt CX X σ (E σ)) (hN : X.N[i]? = some x) (hv : Vis X.env.scope x) (ha : PA X (e :: es) t) (hd : (x == ("__debug__" : Str)) = false := by decide) (hcd : (x == ("__classdict__" : Str)) = false := by decide)
    (he : starEach (e :: es) X.env = (false, eval e X.env) :: starEach es X.env := by rfl) (hpl : (backTo pos (starEach es X.env)).any (·.1) = false := by rfl) : PE X (.Call (.Name x p) (e :: es) [] pos) (tCallLam i G E t) := by
  refine ⟨fun pins s σ H Q I h => ?_⟩
  obtain ⟨f, L, sp, hs, g, hf, ht⟩ := h
  obtain ⟨ps, fr, ws, lo, cells⟩ := Kn L sp g
  have fa : ∀ {H : Hp} {s : Shared}, Inv X pins σ H s → H f = some (LamO f L) → PySem.W.FnAt f s.heap := fun J z => by
    obtain ⟨pm, ctv, o⟩ := lamO_at J.hok z
    exact ⟨_, _, _, _, o⟩
  refine wpAny_Call_Name_kw (thn ((pe_var (pos := p) hN hv hd hcd).run pins s σ H (fun v H1 => v = .ref f ∧ H1 = H) I ⟨.ref f, hs, rfl, rfl⟩) fun u s1 hh => ?_)
  obtain ⟨v, H1, I1, r1, rfl, rfl⟩ := hh
  cases r1
  refine PySem.W.callWith_F (first := []) (fa I1 hf) (thn (ha.run pos pins s1 σ _ _ I1 ht) fun us s2 hh => ?_) he hpl
  obtain ⟨vs, H2, I2, r, h1, h2, q⟩ := hh
  refine ⟨fa I2 h1, ?_⟩
  show wpAny _ _ (call (.ref f) us) _ _ _
  refine wpAny_call (codeAny_mono (lo.run f X.A X.stack s2 H2 us vs Q (E σ) hr I2.env0 h1 h2 (cells pins σ H2 s2 I2) r q) fun y s' z => ?_)
  match y, z with
  | .error e', z => exact hx σ pins H2 s2 e' s' I2 z
  | .ok (.ret u), z => exact I2.after z
end
end Qw

set_option Elab.async false
set_option linter.all false
set_option maxRecDepth 100000
set_option maxHeartbeats 4000000
namespace Qw
open PySem L2
local macro_rules | `(tactic| walk_at "rd") => `(tactic| simp only [iEnum, iRng3, tRevL, rSlS, rSlL, gSub, rSetL, wipe, List.map_cons, List.map_nil, rAll, rAny, rIsi, tM1, tM0, iZipLT, iZip, iRng2, tLenSetS, rListStr, rMulS, rRep, rCntB, tRevS, rNeD, rEqD, tSeq, tNext, tAsg, tRet, tRetN, tDrop, tIfS, sFld, sFldAug, tVar, tC, tOp, tUn, tTest, tB, tAnd, tOr, tNot, tAndV, tOrV, tNotV, tIf, tTup, tLst, tCons, tNil, tCB, tCall, tMeth, tMake, tFld, rI, rI0, rU, rEq, rNe, rCat, gName, gTup, gCons, gNil, tPar, tPar3, tBM, tBM0, rAppend, rExtend, rPopAt, rIxL, rIxT, rIxS, tSl, rSlS, rSlL, tPart, tNoPart, iStr, iTup, iList, iRng1, tAug, ipI, L2.rAdd, L2.rSub, L2.rAddS, tChain, rIsB, rNotB, scal_ss, scal_ii, scal_bb, scal_nn, scal_in, scal_ni, tYes,
  cx_K, cx_N, List.getElem?_cons_zero, List.getElem?_cons_succ, List.set_cons_zero, List.set_cons_succ, List.nil_append, List.cons_append, List.append_nil, List.length_cons, List.length_nil, Nat.zero_add,
  Option.some.injEq, V.ref.injEq, V.int.injEq, V.str.injEq, V.bl.injEq, HO.ins.injEq, HO.lst.injEq, HO.tup.injEq, List.cons.injEq, exists_eq_left, exists_eq_left', exists_eq_right, exists_eq_right', and_true, true_and, exists_and_left, exists_and_right, and_assoc, decide_eq_true_eq, Bool.not_eq_true', decide_eq_false_iff_not, reduceCtorEq, exists_const, forall_const, if_true, if_false, false_and, and_false, ite_true, ite_false, Bool.true_eq_false, Bool.false_eq_true, Nat.reduceLeDiff, Nat.reduceAdd, small_line, small_lt, upd_ne, ne_eq, not_false_eq_true, Nat.zero_le, Prod.mk.injEq, upd_same, upd_upd, S_tl, S_len, S_app, S_one, S_inj,
  lk_breaks, lk_hard, lk_soft, lk_bend, lk_note, lk_rules, lk_state, lk_bent, lk_word, lk_begun, lk_opened, lk_place, pt_state, pt_bent, pt_word, pt_wordS, pt_wordN, pt_begun, pt_opened, pt_place, pt_place1, len_mf, litv_empty, litv_note, litv_nl, mf_inj, rf_inj, lkn_begin, lkn_ended, lkn_plain, lkn_quoted, lkn_step, lkn_fault, lkn_key, lkn_told, lkn_quotes, lkn_special, pt_open1, not_true_eq_false, not_false_eq_true])
local macro_rules | `(tactic| walk_at "rdh") => `(tactic| simp only [iEnum, iRng3, tRevL, rSlS, rSlL, gSub, rSetL, wipe, List.map_cons, List.map_nil, rAll, rAny, rIsi, tM1, tM0, iZipLT, iZip, iRng2, tLenSetS, rListStr, rMulS, rRep, rCntB, tRevS, rNeD, rEqD, tSeq, tNext, tAsg, tRet, tRetN, tDrop, tIfS, sFld, sFldAug, tVar, tC, tOp, tUn, tTest, tB, tAnd, tOr, tNot, tAndV, tOrV, tNotV, tIf, tTup, tLst, tCons, tNil, tCB, tCall, tMeth, tMake, tFld, rI, rI0, rU, rEq, rNe, rCat, gName, gTup, gCons, gNil, tPar, tPar3, tBM, tBM0, rAppend, rExtend, rPopAt, rIxL, rIxT, rIxS, tSl, rSlS, rSlL, tPart, tNoPart, iStr, iTup, iList, iRng1, tAug, ipI, L2.rAdd, L2.rSub, L2.rAddS, tChain, rIsB, rNotB, scal_ss, scal_ii, scal_bb, scal_nn, scal_in, scal_ni, tYes,
  cx_K, cx_N, List.getElem?_cons_zero, List.getElem?_cons_succ, List.set_cons_zero, List.set_cons_succ, List.nil_append, List.cons_append, List.append_nil, List.length_cons, List.length_nil, Nat.zero_add,
  Option.some.injEq, V.ref.injEq, V.int.injEq, V.str.injEq, V.bl.injEq, HO.ins.injEq, HO.lst.injEq, HO.tup.injEq, List.cons.injEq, exists_eq_left, exists_eq_left', exists_eq_right, exists_eq_right', and_true, true_and, exists_and_left, exists_and_right, and_assoc, decide_eq_true_eq, Bool.not_eq_true', decide_eq_false_iff_not, reduceCtorEq, exists_const, forall_const, if_true, if_false, false_and, and_false, ite_true, ite_false, Bool.true_eq_false, Bool.false_eq_true, Nat.reduceLeDiff, Nat.reduceAdd, small_line, small_lt, upd_ne, ne_eq, not_false_eq_true, Nat.zero_le, Prod.mk.injEq, upd_same, upd_upd, S_tl, S_len, S_app, S_one, S_inj,
  lk_breaks, lk_hard, lk_soft, lk_bend, lk_note, lk_rules, lk_state, lk_bent, lk_word, lk_begun, lk_opened, lk_place, pt_state, pt_bent, pt_word, pt_wordS, pt_wordN, pt_begun, pt_opened, pt_place, pt_place1, len_mf, litv_empty, litv_note, litv_nl, mf_inj, rf_inj, lkn_begin, lkn_ended, lkn_plain, lkn_quoted, lkn_step, lkn_fault, lkn_key, lkn_told, lkn_quotes, lkn_special, pt_open1, not_true_eq_false, not_false_eq_true, *])
local macro_rules | `(tactic| walk_at "pl") => `(tactic| (first | decide | (refine Nat.lt_of_le_of_lt (length_putF _ _ _) ?_; repeat (first | decide | refine pl2 ?_))))
local macro_rules | `(tactic| walk_at "al") => `(tactic| (intro p hp; generalize hH : upd _ p _ = H1; obtain ⟨S, e⟩ := gen_new hH hp; clear hH))
/-! ### pieces behind the end -/
theorem cxK0 {CX : CXT} {P : Program} {w : World} {K : PySem.W.Frag} {mg : Str → Option Value} {base : Heap} {N : List Str} {q : Str} {sc : Scope} {f : Addr} {cd : Value} {A : Around} {o : List Env} {s : Shared} {H : Hp} {E : XK} : (L2.cxOf CX P w K mg base N q sc f cd A o s H E).K = K := rfl
section
variable {P : Program} {w : World} {K : PySem.W.Frag} {mg : Str → Option Value} {base : Heap} {a : Ad}
theorem err_En (T : Txt K mg a) : ErrC K a.c_Ended := ⟨T.ea_Ended, T.eb_Ended, T.ec_Ended, T.ed_Ended, T.ee_Ended, T.i_Words.hn, T.i_Words.ht, T.ef_Ended, T.eh_Ended, T.ei_Ended⟩
theorem err_QE (T : Txt K mg a) : ErrC K a.c_QuoteError := ⟨T.ea_QuoteError, T.eb_QuoteError, T.ec_QuoteError, T.ed_QuoteError, T.ee_QuoteError, T.i_Words.hn, T.i_Words.ht, T.ef_QuoteError, T.eh_QuoteError, T.ei_QuoteError⟩
/-- a splitter whose end was told -/
def Over (a : Ad) (H : Hp) (p : Addr) : Prop := ∃ dx mp fl, H p = some (.ins a.c_Splitter dx (SF mp fl true))
def sp_takeX (a : Ad) : Sp := fun vs H Q E => ∃ p t, vs = [.ref p, .str (S t)] ∧ Over a H p ∧ t.length ≤ 50000 ∧ t.all sgn = true ∧ ∀ H', Same H H' → E (.ref a.c_Ended) none H'
theorem ok_Splitter_takeX (T : Txt K mg a) : FnOk P w K mg base (L2.CX P w) 4 a.f_Splitter_take a.d_Splitter_take P_Splitter_take (sp_takeX a) := by
  refine T.F_Splitter_take.okX sc_Splitter_take (fun vs H Q E h => ?_) (fun cdv A outer s H vs Q E hr h => ?_)
  · obtain ⟨p, t, rfl, _⟩ := h
    rfl
  · obtain ⟨p, t, rfl, ⟨dx, mp, fl, hS⟩, hl, hs, k⟩ := h
    have G_are_signs := ok_are_signs (P := P) (w := w) (base := base) T
    have B_are_signs := bi_are_signs T
    have G_Machine_step := ok_Machine_step (P := P) (w := w) (base := base) T
    have B_Machine_step := bi_Machine_step T
    refine ⟨_,
(pss_cons (ps_if (pt_not (pt_val (pe_call G_are_signs (hr.mono (by decide)) rfl T.f_are_signs.g T.f_are_signs.k B_are_signs .nil pass0 (pa_cons (pv 1) pa_nil)))) (pss_one ps_never) pss_nil)
    (pss_cons (ps_if (pt_val (pe_fld (pv 0) rfl)) (pss_one (ps_raise rfl (takes_of rfl rfl rfl rfl) (pmk_own PySem.F.excBase_ValueError T.ex_Ended T.eg_Ended.g T.ei_Ended (raises_own T.ec_Ended T.eh_Ended) rfl))) pss_nil)
    (pss_cons (ps_set (i := 2) sc_Splitter_take.nd rfl (by first | exact Or.inl rfl | exact Or.inr rfl) (pe_callB call_len_seq (by rfl) T.b_len PySem.boot_len (pa_cons (pe_fld (pv 0) rfl) pa_nil)))
    (pss_cons (ps_for (passes_of rfl) rfl (pi_str (pv 1)) (pg_name (i := 3) sc_Splitter_take.nd rfl (by first | exact Or.inl rfl | exact Or.inr rfl))
    (pss_one (ps_expr (pe_bm PySem.F.plainAttrs_list PySem.F.slot_list_extend PySem.F.type_list_extend mt_extend (pe_fld (pv 0) rfl) (pa_cons (pe_meth (pe_fld (pv 0) rfl) T.c_Machine.cl T.m_Machine_step G_Machine_step (hr.mono (by decide)) B_Machine_step .nil pass0 (pa_cons (pv 3) pa_nil)) pa_nil)))))
    (pss_one (ps_ret (pe_lc (own := [("pair", 4)]) (g := gName 4) (tt := tYes) rfl sc_Splitter_take.nd (pi_list (pe_slice sl_list (pe_fld (pv 0) rfl) (po_some (pv 2)) po_none)) (blkOk_by (own := [("pair", 4)]) (N := N_Splitter_take) (sc := defScope st_Splitter_take) (by decide +kernel)) (fun _ _ _ _ _ => (pg_name (i := 4) sc_Splitter_take.nd rfl (by first | exact Or.inl rfl | exact Or.inr rfl))) (fun _ _ _ _ _ => pts_nil) (fun _ _ _ _ _ => (pe_ix (ix_tupK (K := K) rfl) (pv 4) pe_int (fun _ _ => rfl))))))))))
      , ?_⟩
    rw [show start N_Splitter_take [V.ref p, V.str (S t)] = [some (.ref p), some (.str (S t)), none, none, none] from rfl]
    simp only [cxK0]
    have hc := T.c_Splitter.cl
    have n3 := T.n_Splitter_over
    walk_at "rd"
    refine ⟨t, rfl, by omega, fun H0 s0 => ⟨_, rfl, ?_⟩⟩
    rw [hs]
    refine ite2 (fun z => by cases z) (fun _ => ?_)
    refine ⟨_, _, _, s0 _ _ hS, hc, n3, _, lk_over _ _ _, _, rfl, ite2 (fun _ => ?_) (fun z => absurd rfl z)⟩
    exact k _ s0
def sp_endX (a : Ad) : Sp := fun vs H Q E => ∃ p, vs = [.ref p] ∧ Over a H p ∧ ∀ H', Same H H' → E (.ref a.c_Ended) none H'
theorem ok_Splitter_endX (T : Txt K mg a) : FnOk P w K mg base (L2.CX P w) 3 a.f_Splitter_end a.d_Splitter_end P_Splitter_end (sp_endX a) := by
  refine T.F_Splitter_end.okX sc_Splitter_end (fun vs H Q E h => ?_) (fun cdv A outer s H vs Q E hr h => ?_)
  · obtain ⟨p, rfl, _⟩ := h
    rfl
  · obtain ⟨p, rfl, ⟨dx, mp, fl, hS⟩, k⟩ := h
    have G_Machine_fault := ok_Machine_fault (P := P) (w := w) (base := base) T
    have B_Machine_fault := bi_Machine_fault T
    have G_Fault_init := ok_Fault_init (P := P) (w := w) (base := base) T
    have B_Fault_init := bi_Fault_init T
    have G_Machine_ended := ok_Machine_ended (P := P) (w := w) (base := base) T
    have B_Machine_ended := bi_Machine_ended T
    have G_Words_init := ok_Words_init (P := P) (w := w) (base := base) T
    have B_Words_init := bi_Words_init T
    refine ⟨_,
(pss_cons (ps_if (pt_val (pe_fld (pv 0) rfl)) (pss_one (ps_raise rfl (takes_of rfl rfl rfl rfl) (pmk_own PySem.F.excBase_ValueError T.ex_Ended T.eg_Ended.g T.ei_Ended (raises_own T.ec_Ended T.eh_Ended) rfl))) pss_nil)
    (pss_cons (ps_fld (pv 0) pe_bl rfl)
    (pss_cons (ps_set (i := 1) sc_Splitter_end.nd rfl (by first | exact Or.inl rfl | exact Or.inr rfl) (pe_meth0 (pe_fld (pv 0) rfl) T.c_Machine.cl T.m_Machine_fault G_Machine_fault (hr.mono (by decide)) B_Machine_fault .nil pass0))
    (pss_cons (ps_if (pt_cmpR op_notN (pv 1) pe_non (nomark _)) (pss_one (ps_ret (pe_make T.c_Fault.mc G_Fault_init (hr.mono (by decide)) rfl T.c_Fault.g B_Fault_init .nil pass0 (pa_cons (pv 1) pa_nil)))) pss_nil)
    (pss_cons (ps_set (i := 2) sc_Splitter_end.nd rfl (by first | exact Or.inl rfl | exact Or.inr rfl) (pe_op op_cat (pe_fld (pv 0) rfl) (pe_meth0 (pe_fld (pv 0) rfl) T.c_Machine.cl T.m_Machine_ended G_Machine_ended (hr.mono (by decide)) B_Machine_ended .nil pass0)))
    (pss_one (ps_ret (pe_make T.c_Words.mc G_Words_init (hr.mono (by decide)) rfl T.c_Words.g B_Words_init .nil pass0 (pa_cons (pe_lc (own := [("pair", 3)]) (g := gName 3) (tt := tYes) rfl sc_Splitter_end.nd (pi_list (pv 2)) (blkOk_by (own := [("pair", 3)]) (N := N_Splitter_end) (sc := defScope st_Splitter_end) (by decide +kernel)) (fun _ _ _ _ _ => (pg_name (i := 3) sc_Splitter_end.nd rfl (by first | exact Or.inl rfl | exact Or.inr rfl))) (fun _ _ _ _ _ => pts_nil) (fun _ _ _ _ _ => (pe_ix (ix_tupK (K := K) rfl) (pv 3) pe_int (fun _ _ => rfl)))) (pa_cons (pe_lc (own := [("pair", 3)]) (g := gName 3) (tt := tYes) rfl sc_Splitter_end.nd (pi_list (pv 2)) (blkOk_by (own := [("pair", 3)]) (N := N_Splitter_end) (sc := defScope st_Splitter_end) (by decide +kernel)) (fun _ _ _ _ _ => (pg_name (i := 3) sc_Splitter_end.nd rfl (by first | exact Or.inl rfl | exact Or.inr rfl))) (fun _ _ _ _ _ => pts_nil) (fun _ _ _ _ _ => (pe_ix (ix_tupK (K := K) rfl) (pv 3) pe_int (fun _ _ => rfl)))) pa_nil))))))))))
      , ?_⟩
    rw [show start N_Splitter_end [V.ref p] = [some (.ref p), none, none, none] from rfl]
    simp only [cxK0]
    have hc := T.c_Splitter.cl
    have n3 := T.n_Splitter_over
    walk_at "rd"
    refine ⟨_, _, _, hS, hc, n3, _, lk_over _ _ _, _, rfl, ite2 (fun _ => ?_) (fun z => absurd rfl z)⟩
    exact k _ (Same.refl _)
end
end Qw

set_option Elab.async false
set_option linter.all false
set_option maxRecDepth 100000
set_option maxHeartbeats 4000000
namespace Qw
open PySem L2 LamX NdefX
local macro_rules | `(tactic| walk_at "rd") => `(tactic| simp only [iEnum, iRng3, tRevL, rSlS, rSlL, gSub, rSetL, wipe, List.map_cons, List.map_nil, rAll, rAny, rIsi, tM1, tM0, iZipLT, iZip, iRng2, tLenSetS, rListStr, rMulS, rRep, rCntB, tRevS, rNeD, rEqD, tSeq, tNext, tAsg, tRet, tRetN, tDrop, tIfS, sFld, sFldAug, tVar, tC, tOp, tUn, tTest, tB, tAnd, tOr, tNot, tAndV, tOrV, tNotV, tIf, tTup, tLst, tCons, tNil, tCB, tCall, tMeth, tMake, tFld, rI, rI0, rU, rEq, rNe, rCat, gName, gTup, gCons, gNil, tPar, tPar3, tBM, tBM0, rAppend, rExtend, rPopAt, rIxL, rIxT, rIxS, tSl, rSlS, rSlL, tPart, tNoPart, iStr, iTup, iList, iRng1, tAug, ipI, L2.rAdd, L2.rSub, L2.rAddS, tChain, rIsB, rNotB, scal_ss, scal_ii, scal_bb, scal_nn, scal_in, scal_ni, tYes,
  cx_K, cx_N, List.getElem?_cons_zero, List.getElem?_cons_succ, List.set_cons_zero, List.set_cons_succ, List.nil_append, List.cons_append, List.append_nil, List.length_cons, List.length_nil, Nat.zero_add,
  Option.some.injEq, V.ref.injEq, V.int.injEq, V.str.injEq, V.bl.injEq, HO.ins.injEq, HO.lst.injEq, HO.tup.injEq, List.cons.injEq, exists_eq_left, exists_eq_left', exists_eq_right, exists_eq_right', and_true, true_and, exists_and_left, exists_and_right, and_assoc, decide_eq_true_eq, Bool.not_eq_true', decide_eq_false_iff_not, reduceCtorEq, exists_const, forall_const, if_true, if_false, false_and, and_false, ite_true, ite_false, Bool.true_eq_false, Bool.false_eq_true, Nat.reduceLeDiff, Nat.reduceAdd, small_line, small_lt, upd_ne, ne_eq, not_false_eq_true, Nat.zero_le, Prod.mk.injEq, upd_same, upd_upd, S_tl, S_len, S_app, S_one, S_inj,
  lk_breaks, lk_hard, lk_soft, lk_bend, lk_note, lk_rules, lk_state, lk_bent, lk_word, lk_begun, lk_opened, lk_place, pt_state, pt_bent, pt_word, pt_wordS, pt_wordN, pt_begun, pt_opened, pt_place, pt_place1, len_mf, litv_empty, litv_note, litv_nl, mf_inj, rf_inj, lkn_begin, lkn_ended, lkn_plain, lkn_quoted, lkn_step, lkn_fault, lkn_key, lkn_told, lkn_quotes, lkn_special, pt_open1, not_true_eq_false, not_false_eq_true])
local macro_rules | `(tactic| walk_at "rdh") => `(tactic| simp only [iEnum, iRng3, tRevL, rSlS, rSlL, gSub, rSetL, wipe, List.map_cons, List.map_nil, rAll, rAny, rIsi, tM1, tM0, iZipLT, iZip, iRng2, tLenSetS, rListStr, rMulS, rRep, rCntB, tRevS, rNeD, rEqD, tSeq, tNext, tAsg, tRet, tRetN, tDrop, tIfS, sFld, sFldAug, tVar, tC, tOp, tUn, tTest, tB, tAnd, tOr, tNot, tAndV, tOrV, tNotV, tIf, tTup, tLst, tCons, tNil, tCB, tCall, tMeth, tMake, tFld, rI, rI0, rU, rEq, rNe, rCat, gName, gTup, gCons, gNil, tPar, tPar3, tBM, tBM0, rAppend, rExtend, rPopAt, rIxL, rIxT, rIxS, tSl, rSlS, rSlL, tPart, tNoPart, iStr, iTup, iList, iRng1, tAug, ipI, L2.rAdd, L2.rSub, L2.rAddS, tChain, rIsB, rNotB, scal_ss, scal_ii, scal_bb, scal_nn, scal_in, scal_ni, tYes,
  cx_K, cx_N, List.getElem?_cons_zero, List.getElem?_cons_succ, List.set_cons_zero, List.set_cons_succ, List.nil_append, List.cons_append, List.append_nil, List.length_cons, List.length_nil, Nat.zero_add,
  Option.some.injEq, V.ref.injEq, V.int.injEq, V.str.injEq, V.bl.injEq, HO.ins.injEq, HO.lst.injEq, HO.tup.injEq, List.cons.injEq, exists_eq_left, exists_eq_left', exists_eq_right, exists_eq_right', and_true, true_and, exists_and_left, exists_and_right, and_assoc, decide_eq_true_eq, Bool.not_eq_true', decide_eq_false_iff_not, reduceCtorEq, exists_const, forall_const, if_true, if_false, false_and, and_false, ite_true, ite_false, Bool.true_eq_false, Bool.false_eq_true, Nat.reduceLeDiff, Nat.reduceAdd, small_line, small_lt, upd_ne, ne_eq, not_false_eq_true, Nat.zero_le, Prod.mk.injEq, upd_same, upd_upd, S_tl, S_len, S_app, S_one, S_inj,
  lk_breaks, lk_hard, lk_soft, lk_bend, lk_note, lk_rules, lk_state, lk_bent, lk_word, lk_begun, lk_opened, lk_place, pt_state, pt_bent, pt_word, pt_wordS, pt_wordN, pt_begun, pt_opened, pt_place, pt_place1, len_mf, litv_empty, litv_note, litv_nl, mf_inj, rf_inj, lkn_begin, lkn_ended, lkn_plain, lkn_quoted, lkn_step, lkn_fault, lkn_key, lkn_told, lkn_quotes, lkn_special, pt_open1, not_true_eq_false, not_false_eq_true, *])
local macro_rules | `(tactic| walk_at "pl") => `(tactic| (first | decide | (refine Nat.lt_of_le_of_lt (length_putF _ _ _) ?_; repeat (first | decide | refine pl2 ?_))))
local macro_rules | `(tactic| walk_at "al") => `(tactic| (intro p hp; generalize hH : upd _ p _ = H1; obtain ⟨S, e⟩ := gen_new hH hp; clear hH))
/-! ### the law's own look at pieces behind the end -/
def forIt : Stmt → Expr
  | .For _ it _ _ _ => it
  | _ => .Constant .none 0 ⟨0, 0, 0, 0⟩
def eltAt (i : Nat) : Expr → Expr
  | .Tuple es _ _ => es.getD i (.Constant .none 0 ⟨0, 0, 0, 0⟩)
  | e => e
def lamA : Expr → Arguments
  | .Lambda p _ _ _ => p
  | _ => ⟨[], [], none, [], [], none, []⟩
def lamB : Expr → Expr
  | .Lambda _ b _ _ => b
  | e => e
def lamS : Expr → Scope
  | .Lambda _ _ s _ => s
  | _ => { kind := .function, names := [], isGenerator := false, isCoroutine := false, more := [] }
abbrev lamRef (i : Nat) : Expr := eltAt i (forIt ((defBody st__law_refused).getD 1 (.Pass ⟨0, 0, 0, 0⟩)))
def qRef : Str := "_law_refused.<locals>.<lambda>"
def LRef (i : Nat) (c' : Addr) : LF := ⟨qRef, lamA (lamRef i), lamB (lamRef i), lamS (lamRef i), [], c'⟩
theorem pe_bmK {X : Cx} {K : PySem.W.Frag} {T : String} {name : Str} {id : String} {r : V → List V → Hp → VK → Prop} {o e : Expr} {es : List Expr} {to : TE} {t : TA} {apos cpos : Pos} (h : X.K = K) (pa : PlainAttrs T) (slot : Slot T name id) (hty : typeOf (.builtin id) = pure (.type "method_descriptor")) (hm : MtR X id r) (ho : PE X o to) (ha : PA X (e :: es) t)
    (h1 : attributeBase o name X.env (eval o X.env) = eval o X.env)
    (h2 : ((backTo cpos (starEach (e :: es) X.env)).all (fun x => !x.1) && (backToKw cpos (keywordEach [] X.env)).all (fun x => x.1.isSome) && decide ((e :: es).length + ([] : List Keyword).length + (if ([] : List Keyword).isEmpty then 0 else 1) < 30)) = true)
    (h3 : (apos.endLine == cpos.line) = true) (h4 : starEach (e :: es) X.env = (false, eval e X.env) :: starEach es X.env) (h5 : (backTo cpos (starEach es X.env)).any (·.1) = false) : PE X (.Call (.Attribute o name apos) (e :: es) [] cpos) (tBM K T r to t) := by
  subst h
  exact pe_bm pa slot hty hm ho ha h1 h2 h3 h4 h5
section
variable {P : Program} {w : World} {K : PySem.W.Frag} {mg : Str → Option Value} {base : Heap} {a : Ad}
/-- a def that makes lambdas: its code object is known -/
theorem lamO_tbl {f : Addr} {L : LF} {ps : Array Value} : LamO f L ≠ .tbl ps := fun z => by unfold LamO at z; cases z
theorem lamO_lst {f : Addr} {L : LF} {xs : List V} : LamO f L ≠ .lst xs := fun z => by unfold LamO at z; cases z
theorem codeO_lst {f : Addr} {q : Str} {xs : List V} : CodeO f q ≠ .lst xs := fun z => by unfold CodeO at z; cases z
theorem ne_tab {G : Hp} {P b : Addr} {q : Str} {o : HO} (t : TabS G P q) (e : G b = some o) (n : ∀ ps, o ≠ .tbl ps) : b ≠ P := fun z => by
  obtain ⟨ps, h, _⟩ := t
  rw [z, h] at e
  exact n ps (Option.some.inj e).symm
theorem TabS.lst {H : Hp} {P l : Addr} {q : Str} {xs ys : List V} (t : TabS H P q) (h : H l = some (.lst xs)) : TabS (upd H l (.lst ys)) P q := by
  obtain ⟨ps, h1, h2, h3⟩ := t
  refine ⟨ps, (upd_ne (ne_of h1 h fun z => by cases z)).trans h1, h2, fun pos cv hc => ?_⟩
  obtain ⟨c, e1, e2⟩ := h3 pos cv hc
  exact ⟨c, e1, (upd_ne (ne_of e2 h codeO_lst)).trans e2⟩
/-- the two lambdas of the law's look -/
structure Two (a : Ad) (H : Hp) (f1 c1 f2 c2 p : Addr) : Prop where
  l1 : H f1 = some (LamO f1 (LRef 0 c1))
  k1 : H c1 = some (CodeO c1 qRef)
  l2 : H f2 = some (LamO f2 (LRef 1 c2))
  k2 : H c2 = some (CodeO c2 qRef)
  o : Over a H p
theorem Two.same {H H' : Hp} {f1 c1 f2 c2 p : Addr} (t : Two a H f1 c1 f2 c2 p) (s : Same H H') : Two a H' f1 c1 f2 c2 p := by
  obtain ⟨dx, mp, fl, h⟩ := t.o
  exact ⟨s _ _ t.l1, s _ _ t.k1, s _ _ t.l2, s _ _ t.k2, dx, mp, fl, s _ _ h⟩
theorem Two.mut {H : Hp} {f1 c1 f2 c2 p l : Addr} {xs ys : List V} (t : Two a H f1 c1 f2 c2 p) (h : H l = some (.lst xs)) : Two a (upd H l (.lst ys)) f1 c1 f2 c2 p := by
  obtain ⟨dx, mp, fl, ho⟩ := t.o
  have g : ∀ {b : Addr} {o : HO}, H b = some o → o ≠ .lst xs → upd H l (.lst ys) b = some o := fun e n => (upd_ne (ne_of e h n)).trans e
  exact ⟨g t.l1 lamO_lst, g t.k1 codeO_lst, g t.l2 lamO_lst, g t.k2 codeO_lst, dx, mp, fl, g ho fun z => by cases z⟩
theorem okC {x qual : Str} {st : Stmt} {f c : Addr} {fd : FuncData} {N ps : List Str} {k : Nat} {sp : Sp} (F : CodeAt K x qual st f fd c) (S : FnScope N ps (defScope st)) (len : ∀ vs H Q E, sp vs H Q E → vs.length = ps.length)
    (go : ∀ (A : Around) (outer : List Env) (s : Shared) (H : Hp) (vs : List V) (Q : VK) (E : XK), Room k (A.deeper (PyProof.Rows.envOfC qual (defScope st) s.heap.objs.size f (.ref c))) → sp vs H Q E →
      ∃ t, PSs (cxOf CX0 P w K mg base N qual (defScope st) f (.ref c) A outer s H E).nox (defBody st) t ∧ t { nx := fun _ H' => Q .non H', rt := Q } (start N vs) H) : FnOk P w K mg base CX0 (k + 1) f fd ps sp := by
  obtain ⟨oc, od, kV, doc, pm, an, ct, osl, rfl, lk, cd⟩ := F
  refine fn_of lk cd S len fun A outer s H vs Q E hr h => ?_
  obtain ⟨t, h1, h2⟩ := go A outer s H vs Q E hr h
  exact ⟨t, h1.nox, h2⟩
def sp_lamR (a : Ad) : Sp := fun vs H Q E => ∃ p, vs = [.ref p] ∧ Over a H p ∧ ∀ H', Same H H' → E (.ref a.c_Ended) none H'
theorem lok_take (T : Txt K mg a) (c' : Addr) : LOk P w K mg base (L2.CX P w) 5 (LRef 0 c') ["_law_one"] [] [] (sp_lamR a) := by
  have G := ok_Splitter_takeX (P := P) (w := w) (base := base) T
  have B := bi_Splitter_take T
  refine lok_of (N := ["_law_one"]) (show NScope _ _ _ (lamS (lamRef 0)) from nscope_by (by decide +kernel)) (fun pm ctv us hl => match us, hl with | [_], _ => rfl) (fun vs H Q E h => ?_) (fun f A outer s H vs Q E hr h => ?_)
  · obtain ⟨p, rfl, _⟩ := h
    rfl
  · obtain ⟨p, rfl, ho, k⟩ := h
    refine ⟨_, (pe_meth (pv 0) T.c_Splitter.cl T.m_Splitter_take G (hr.mono (by decide)) B .nil (passes_call (takes_of rfl rfl rfl rfl) fun _ _ _ _ z => z) (pa_cons pe_str pa_nil)), ?_⟩
    obtain ⟨dx, mp, fl, hS⟩ := id ho
    rw [show startF ["_law_one"] [V.ref p] [] = [some (.ref p)] from rfl]
    walk_at "rd"
    exact ⟨_, _, hS, lkn_take _ _ _, p, [97], by rw [show Str.ofString "a" = S [97] by kernel_rfl], ho, by decide, by decide, k⟩
theorem lok_end (T : Txt K mg a) (c' : Addr) : LOk P w K mg base (L2.CX P w) 5 (LRef 1 c') ["_law_other"] [] [] (sp_lamR a) := by
  have G := ok_Splitter_endX (P := P) (w := w) (base := base) T
  have B := bi_Splitter_end T
  refine lok_of (N := ["_law_other"]) (show NScope _ _ _ (lamS (lamRef 1)) from nscope_by (by decide +kernel)) (fun pm ctv us hl => match us, hl with | [_], _ => rfl) (fun vs H Q E h => ?_) (fun f A outer s H vs Q E hr h => ?_)
  · obtain ⟨p, rfl, _⟩ := h
    rfl
  · obtain ⟨p, rfl, ho, k⟩ := h
    refine ⟨_, (pe_meth0 (pv 0) T.c_Splitter.cl T.m_Splitter_end G (hr.mono (by decide)) B .nil (passes_call (takes_of rfl rfl rfl rfl) fun _ _ _ _ z => z)), ?_⟩
    obtain ⟨dx, mp, fl, hS⟩ := id ho
    rw [show startF ["_law_other"] [V.ref p] [] = [some (.ref p)] from rfl]
    walk_at "rd"
    exact ⟨_, _, hS, lkn_end _ _ _, p, rfl, ho, k⟩
def GRef (a : Ad) (L : LF) (sp : Sp) : Prop := ∃ i c', i < 2 ∧ L = LRef i c' ∧ sp = sp_lamR a
/-- try: ask(splitter) / except QuoteError as error: found.append(isinstance(error, Ended)) -/
def tRefT (K : PySem.W.Frag) (a : Ad) : TS := fun D σ H => tDrop (tCallLam 2 (GRef a) (WE (wAs K (.ref a.c_QuoteError) 3 (fun b cls d => tDrop (tBM K "list" rAppend (tVar 1) (tCons (tCB (rIsX K cls d b) (tCons (tVar 3) (tCons (tC (V.ref a.c_Ended)) tNil))) tNil))) (fun _ _ _ _ => False) D)) (tCons (tVar 0) tNil)) D σ H
def sp_law_refused2 (a : Ad) : Sp := fun vs H Q _ => ∃ p, vs = [.ref p] ∧ Over a H p ∧ TabS H a.p__law_refused qRef ∧ ∀ H', Kp a.p__law_refused H H' → TabS H' a.p__law_refused qRef → Q (.bl true) H'
theorem ok__law_refused (T : Txt K mg a) (TB : TabB base mg a.k__law_refused a.p__law_refused) : FnOk P w K mg base CX0 6 a.f__law_refused a.d__law_refused P__law_refused (sp_law_refused2 a) := by
  refine okC T.K__law_refused sc__law_refused (fun vs H Q E h => ?_) (fun A outer s H vs Q E hr h => ?_)
  · obtain ⟨p, rfl, _⟩ := h
    rfl
  · obtain ⟨p, rfl, ho, ht, k⟩ := h
    have Kn : ∀ X : Cx, X.prog = P → X.w = w → X.K = K → X.mg = mg → X.base = base → Knows X (L2.CX P w) 5 (GRef a) := by
      rintro X rfl rfl rfl rfl rfl L sp ⟨i, c', hi, rfl, rfl⟩
      have none_at : ∀ pins σ H s, Inv X pins σ H s → CellsAt (LRef i c').cl [] [] s.heap H := fun _ _ _ _ _ => ⟨rfl, fun _ _ z => (nomatch z), fun _ _ _ z => (nomatch z), fun _ _ z => by simp at z⟩
      match i, hi with
      | 0, _ => exact ⟨["_law_one"], [], [], lok_take T c', none_at⟩
      | 1, _ => exact ⟨["_law_other"], [], [], lok_end T c', none_at⟩
    refine ⟨_, (pss_cons (ps_set (i := 1) sc__law_refused.nd rfl (by first | exact Or.inl rfl | exact Or.inr rfl) (pe_lst pa_nil))
      (pss_cons (ps_for PassesOwn.never rfl (pi_tup (pe_tup (pa_cons (pe_lamP (q := qRef) TB rfl (by kernel_rfl) rfl (fun y hy e => absurd e ((by decide +kernel : ∀ y ∈ (lamS (lamRef 0)).names, y.2 ≠ .free) y hy))) (pa_cons (pe_lamP (q := qRef) TB rfl (by kernel_rfl) rfl (fun y hy e => absurd e ((by decide +kernel : ∀ y ∈ (lamS (lamRef 1)).names, y.2 ≠ .free) y hy))) pa_nil)))) (pg_name (i := 2) sc__law_refused.nd rfl (by first | exact Or.inl rfl | exact Or.inr rfl))
        (pss_one (ps_try_as (i := 3) (Wout := fun _ _ _ _ => False) rfl rfl sc__law_refused.nd rfl rfl ⟨rfl, by decide, Or.inl T.eg_QuoteError.g⟩ L2.takes0
          (fun W pn xe tk _ => pss_one (ps_expr (by exact (pe_callLam (i := 2) (Kn _ rfl rfl rfl rfl rfl) (hr.mono (by decide)) (fun σ => passAt tk σ) rfl (by first | exact Or.inl rfl | exact Or.inr rfl) (by exact (pa_cons (pv 0) pa_nil))))))
          (fun b oe cls d pn hz hf => pss_one (ps_expr (by exact (pe_bmK (K := K) rfl PySem.F.plainAttrs_list PySem.F.slot_list_append PySem.F.type_list_append mt_append (pv 1) (pa_cons (pe_callB (call_isX hz hf) (by rfl) T.b_isinstance (by decide +kernel) (pa_cons (pv 3) (pa_cons (pe_glob (v := .ref a.c_Ended) rfl T.eg_Ended.g rfl) pa_nil))) pa_nil) rfl rfl rfl rfl rfl)))))))
      (pss_one (ps_ret (pe_cmpR (op_eqD hr.units) (pv 1) (pe_lst (pa_cons pe_bl (pa_cons pe_bl pa_nil))) (nomark _)))))), ?_⟩
    rw [show start N__law_refused [V.ref p] = [some (.ref p), none, none, none, none, none] from rfl]
    refine tseq_split (fun σ' H' => ∃ fl, σ' = [some (.ref p), some (.ref fl), none, none, none, none] ∧ Same H H' ∧ H fl = none ∧ H' fl = some (.lst [])) (fun N hN => ?_) ?_
    · walk_at "rd"
      intro fl hfl
      exact hN _ _ ⟨fl, rfl, same_new hfl, hfl, upd_same⟩
    rintro σ1 H1 ⟨fl, rfl, s1, f0, f1⟩
    have ht1 : TabS H1 a.p__law_refused qRef := ht.ext s1
    show tSeq (tFor (iTup K (tTup (tCons (tLamP a.p__law_refused qRef (LRef 0)) (tCons (tLamP a.p__law_refused qRef (LRef 1)) tNil)))) (gName 2) (tRefT K a)) _ _ _ _
    refine tseq_split (fun σ' H' => (∃ v2, σ' = [some (.ref p), some (.ref fl), v2, none, none, none]) ∧ Kp a.p__law_refused H H' ∧ TabS H' a.p__law_refused qRef ∧ H' fl = some (.lst [.bl true, .bl true])) (fun N hN => ?_) ?_
    · refine tfor_all (ι := Addr × Hp × Addr × Addr × Addr × Addr) (C := fun x => x.2.1 x.1 = some (.tup [.ref x.2.2.1, .ref x.2.2.2.2.1]) ∧ Two a x.2.1 x.2.2.1 x.2.2.2.1 x.2.2.2.2.1 x.2.2.2.2.2 p ∧ TabS x.2.1 a.p__law_refused qRef ∧ Kp a.p__law_refused H x.2.1 ∧ x.2.1 fl = some (.lst [])) (J := fun x => Itt K x.1) (H1 := fun x => x.2.1) (fun R hR => ?_) fun x hx => ?_
      · walk_at "rd"
        simp only [tLamP]
        refine ⟨ht1, fun f1' c1 G1 k1 n1 t1 z1 e1 e2 => ⟨t1, fun f2 c2 G2 k2 n2 t2 z2 e3 e4 pt hpt => ?_⟩⟩
        obtain ⟨dx, mp, fo, hS⟩ := id ho
        have hS1 := s1 _ _ hS
        have hS2 := k1 _ _ hS1 (ne_tab ht1 hS1 fun _ z => by cases z)
        have hS3 := k2 _ _ hS2 (ne_tab t1 hS2 fun _ z => by cases z)
        have hf2 := k1 _ _ f1 (ne_tab ht1 f1 fun _ z => by cases z)
        have hf3 := k2 _ _ hf2 (ne_tab t1 hf2 fun _ z => by cases z)
        have sp := same_new (o := HO.tup [V.ref f1', V.ref f2]) hpt
        have tw : Two a G2 f1' c1 f2 c2 p := ⟨k2 _ _ e1 (ne_tab t1 e1 fun _ => lamO_tbl), k2 _ _ e2 (ne_tab t1 e2 fun _ => codeO_ne _), e3, e4, _, _, _, hS3⟩
        exact ⟨⟨_, .inl (.inl upd_same)⟩, hR (pt, _, f1', c1, f2, c2) ⟨upd_same, tw.same sp, t2.ext sp, ((s1.kp _).trans k1).trans (k2.trans (sp.kp _)), sp _ _ hf3⟩⟩
      obtain ⟨pt, G0, f1', c1, f2, c2⟩ := x
      obtain ⟨x1, x2, x3, x4, x5⟩ := hx
      dsimp only at x1 x2 x3 x4 x5
      refine for_it (n := ([.ref f1', .ref f2] : List V).length) (G := fun H => SqT K H pt [.ref f1', .ref f2]) walk_tup (fun j σ H' => (∃ v2, σ = [some (.ref p), some (.ref fl), v2, none, none, none]) ∧ H' pt = some (.tup [.ref f1', .ref f2]) ∧ Two a H' f1' c1 f2 c2 p ∧ TabS H' a.p__law_refused qRef ∧ Kp a.p__law_refused H H' ∧ H' fl = some (.lst (List.replicate j (.bl true))))
        ⟨⟨_, rfl⟩, x1, x2, x3, x4, x5⟩ (fun _ _ _ _ h => .inl (.inl h.2.1)) ?_ ?_
      · rintro j x σ G G' hj ⟨⟨v2, rfl⟩, g1, g2, g3, g4, g5⟩ ⟨rfl, hx⟩
        obtain ⟨i, c, f, hi, rfl, eL, eC⟩ : ∃ i c f, i < 2 ∧ x = .ref f ∧ G' f = some (LamO f (LRef i c)) ∧ G' c = some (CodeO c qRef) := by
          match j, hx with
          | 0, hx => cases hx; exact ⟨0, c1, f1', by decide, rfl, g2.l1, g2.k1⟩
          | 1, hx => cases hx; exact ⟨1, c2, f2, by decide, rfl, g2.l2, g2.k2⟩
          | n + 2, hx => simp at hx
        walk_at "rd"
        simp only [tRefT]
        walk_at "rd"
        simp only [tCallLam]
        walk_at "rd"
        refine ⟨LRef i c, sp_lamR a, ⟨i, c, hi, rfl, rfl⟩, eL, eL, eC, p, rfl, g2.o, fun G2 s2 => ?_⟩
        refine ⟨true, (err_QE T).clause T.es_Ended_QuoteError, fun _ b hb => ?_, fun q => nomatch q⟩
        have fl2 := s2 _ _ g5
        walk_at "rd"
        refine ⟨.inl ⟨rfl, _, .inl (.inl fl2)⟩, ?_⟩
        refine ⟨a.c_Ended, .ref a.c_Ended, .ref a.c_Ended, true, rfl, err_En T, rfl, fun u h => h, if_pos (beq_self_eq_true _), .inl rfl, ?_⟩
        refine ⟨_, fl2, ?_, ⟨_, rfl⟩, (upd_ne (ne_of (s2 _ _ g1) fl2 fun z => by cases z)).trans (s2 _ _ g1), (g2.same s2).mut fl2, TabS.lst (g3.ext s2) fl2, (g4.trans (s2.kp _)).mut f0, by rw [List.replicate_succ']⟩
        rw [List.length_replicate]
        have : j < 2 := hj
        exact Nat.lt_of_le_of_lt (show j ≤ 2 by omega) (by decide)
      · rintro σ G ⟨⟨v2, rfl⟩, g1, g2, g3, g4, g5⟩
        exact hN _ _ ⟨⟨_, rfl⟩, g4, g3, g5⟩
    rintro σ2 H2 ⟨⟨v2, rfl⟩, k2, t2, f2⟩
    walk_at "rd"
    intro p9 hp9
    have s9 := same_new (o := HO.lst [V.bl true, V.bl true]) hp9
    refine ⟨.list [.bool true, .bool true], .lst (.inl (.inl (s9 _ _ f2))) (.cons (.bl _) (.cons (.bl _) .nil)), .list [.bool true, .bool true], .lst (.inl (.inl upd_same)) (.cons (.bl _) (.cons (.bl _) .nil)), by decide, by decide, ?_⟩
    rw [show PyData.eqv (.list [.bool true, .bool true]) (.list [.bool true, .bool true]) = true from by decide]
    exact k _ (k2.trans (s9.kp _)) (t2.ext s9)
end
end Qw

set_option Elab.async false
set_option linter.all false
set_option maxRecDepth 100000
set_option maxHeartbeats 4000000
namespace Qw
open PySem L2
local macro_rules | `(tactic| walk_at "rd") => `(tactic| simp only [iEnum, iRng3, tRevL, rSlS, rSlL, gSub, rSetL, wipe, List.map_cons, List.map_nil, rAll, rAny, rIsi, tM1, tM0, iZipLT, iZip, iRng2, tLenSetS, rListStr, rMulS, rRep, rCntB, tRevS, rNeD, rEqD, tSeq, tNext, tAsg, tRet, tRetN, tDrop, tIfS, sFld, sFldAug, tVar, tC, tOp, tUn, tTest, tB, tAnd, tOr, tNot, tAndV, tOrV, tNotV, tIf, tTup, tLst, tCons, tNil, tCB, tCall, tMeth, tMake, tFld, rI, rI0, rU, rEq, rNe, rCat, gName, gTup, gCons, gNil, tPar, tPar3, tBM, tBM0, rAppend, rExtend, rPopAt, rIxL, rIxT, rIxS, tSl, rSlS, rSlL, tPart, tNoPart, iStr, iTup, iList, iRng1, tAug, ipI, L2.rAdd, L2.rSub, L2.rAddS, tChain, rIsB, rNotB, scal_ss, scal_ii, scal_bb, scal_nn, scal_in, scal_ni, tYes,
  cx_K, cx_N, List.getElem?_cons_zero, List.getElem?_cons_succ, List.set_cons_zero, List.set_cons_succ, List.nil_append, List.cons_append, List.append_nil, List.length_cons, List.length_nil, Nat.zero_add,
  Option.some.injEq, V.ref.injEq, V.int.injEq, V.str.injEq, V.bl.injEq, HO.ins.injEq, HO.lst.injEq, HO.tup.injEq, List.cons.injEq, exists_eq_left, exists_eq_left', exists_eq_right, exists_eq_right', and_true, true_and, exists_and_left, exists_and_right, and_assoc, decide_eq_true_eq, Bool.not_eq_true', decide_eq_false_iff_not, reduceCtorEq, exists_const, forall_const, if_true, if_false, false_and, and_false, ite_true, ite_false, Bool.true_eq_false, Bool.false_eq_true, Nat.reduceLeDiff, Nat.reduceAdd, small_line, small_lt, upd_ne, ne_eq, not_false_eq_true, Nat.zero_le, Prod.mk.injEq, upd_same, upd_upd, S_tl, S_len, S_app, S_one, S_inj,
  lk_breaks, lk_hard, lk_soft, lk_bend, lk_note, lk_rules, lk_state, lk_bent, lk_word, lk_begun, lk_opened, lk_place, pt_state, pt_bent, pt_word, pt_wordS, pt_wordN, pt_begun, pt_opened, pt_place, pt_place1, len_mf, litv_empty, litv_note, litv_nl, mf_inj, rf_inj, lkn_begin, lkn_ended, lkn_plain, lkn_quoted, lkn_step, lkn_fault, lkn_key, lkn_told, lkn_quotes, lkn_special, pt_open1, not_true_eq_false, not_false_eq_true])
local macro_rules | `(tactic| walk_at "rdh") => `(tactic| simp only [iEnum, iRng3, tRevL, rSlS, rSlL, gSub, rSetL, wipe, List.map_cons, List.map_nil, rAll, rAny, rIsi, tM1, tM0, iZipLT, iZip, iRng2, tLenSetS, rListStr, rMulS, rRep, rCntB, tRevS, rNeD, rEqD, tSeq, tNext, tAsg, tRet, tRetN, tDrop, tIfS, sFld, sFldAug, tVar, tC, tOp, tUn, tTest, tB, tAnd, tOr, tNot, tAndV, tOrV, tNotV, tIf, tTup, tLst, tCons, tNil, tCB, tCall, tMeth, tMake, tFld, rI, rI0, rU, rEq, rNe, rCat, gName, gTup, gCons, gNil, tPar, tPar3, tBM, tBM0, rAppend, rExtend, rPopAt, rIxL, rIxT, rIxS, tSl, rSlS, rSlL, tPart, tNoPart, iStr, iTup, iList, iRng1, tAug, ipI, L2.rAdd, L2.rSub, L2.rAddS, tChain, rIsB, rNotB, scal_ss, scal_ii, scal_bb, scal_nn, scal_in, scal_ni, tYes,
  cx_K, cx_N, List.getElem?_cons_zero, List.getElem?_cons_succ, List.set_cons_zero, List.set_cons_succ, List.nil_append, List.cons_append, List.append_nil, List.length_cons, List.length_nil, Nat.zero_add,
  Option.some.injEq, V.ref.injEq, V.int.injEq, V.str.injEq, V.bl.injEq, HO.ins.injEq, HO.lst.injEq, HO.tup.injEq, List.cons.injEq, exists_eq_left, exists_eq_left', exists_eq_right, exists_eq_right', and_true, true_and, exists_and_left, exists_and_right, and_assoc, decide_eq_true_eq, Bool.not_eq_true', decide_eq_false_iff_not, reduceCtorEq, exists_const, forall_const, if_true, if_false, false_and, and_false, ite_true, ite_false, Bool.true_eq_false, Bool.false_eq_true, Nat.reduceLeDiff, Nat.reduceAdd, small_line, small_lt, upd_ne, ne_eq, not_false_eq_true, Nat.zero_le, Prod.mk.injEq, upd_same, upd_upd, S_tl, S_len, S_app, S_one, S_inj,
  lk_breaks, lk_hard, lk_soft, lk_bend, lk_note, lk_rules, lk_state, lk_bent, lk_word, lk_begun, lk_opened, lk_place, pt_state, pt_bent, pt_word, pt_wordS, pt_wordN, pt_begun, pt_opened, pt_place, pt_place1, len_mf, litv_empty, litv_note, litv_nl, mf_inj, rf_inj, lkn_begin, lkn_ended, lkn_plain, lkn_quoted, lkn_step, lkn_fault, lkn_key, lkn_told, lkn_quotes, lkn_special, pt_open1, not_true_eq_false, not_false_eq_true, *])
local macro_rules | `(tactic| walk_at "pl") => `(tactic| (first | decide | (refine Nat.lt_of_le_of_lt (length_putF _ _ _) ?_; repeat (first | decide | refine pl2 ?_))))
local macro_rules | `(tactic| walk_at "al") => `(tactic| (intro p hp; generalize hH : upd _ p _ = H1; obtain ⟨S, e⟩ := gen_new hH hp; clear hH))
/-! ### drawn numbers, told exactly where it matters: the first figure of each cell -/
def mixZ (s : Int) : Int := ((s + 977) * (s + 36) * 48271 + 2 * 69621) % 1000037 % 999983
def numZ (c : Int) (m : Int) : Int := if (c - 10 ^ 18) / 1009 > 0 then (c - 10 ^ 18) / 1009 % 1009 % m else mixZ (c % 1000003) % m
section
variable {P : Program} {w : World} {K : PySem.W.Frag} {mg : Str → Option Value} {base : Heap} {a : Ad}
def sp_cellZ (K : PySem.W.Frag) : Sp := fun vs H Q _ => ∃ (p : Addr) (k : Int) (ns : List Int), vs = [.ref p, .int k] ∧ SqL K H p (ns.map V.int) ∧ 0 ≤ k ∧ ∀ z : Int, (ns.length ≤ k → z = 0) → Q (.int z) H
theorem ok_cellZ (T : Txt K mg a) : FnOk P w K mg base CX0 1 a.f__law_cell_at a.d__law_cell_at P__law_cell_at (sp_cellZ K) := by
  refine T.F__law_cell_at.ok sc__law_cell_at (fun vs H Q E h => ?_) (fun cdv A outer s H vs Q E hr h => ?_)
  · obtain ⟨p, k, ns, rfl, _⟩ := h
    rfl
  · obtain ⟨p, k, ns, rfl, hp, hk, q⟩ := h
    refine ⟨_,
(pss_cons (ps_if (pt_cmpR op_lt (pv 1) (pe_callB call_len_seq (by rfl) T.b_len PySem.boot_len (pa_cons (pv 0) pa_nil)) (nomark _)) (pss_one (ps_ret (pe_ix ix_list (pv 0) (pv 1) (fun _ _ => rfl)))) pss_nil)
    (pss_one (ps_ret pe_int)))
      , ?_⟩
    rw [show start N__law_cell_at [V.ref p, V.int k] = [some (.ref p), some (.int k)] from rfl]
    walk_at "rd"
    refine ⟨_, .inl hp, ite2 (fun c => ?_) (fun _ => q 0 fun _ => rfl)⟩
    rw [List.length_map] at c
    obtain ⟨j, hj, e1, e2⟩ := at_in hk (show k < ((ns.map V.int).length : Int) by rw [List.length_map]; exact c)
    refine ⟨_, hp, _, e2, ?_⟩
    rw [List.getElem_map]
    exact q _ fun z => by omega
def sp_drawZ : Sp := fun vs H Q _ => ∃ c k m : Int, vs = [.int c, .int k, .int m] ∧ 0 ≤ k ∧ k < 1000 ∧ 0 < m ∧ ∀ (z : Int) H', 0 ≤ z → z < m → (k = 2 → z = (c * 48271 + 2 * 69621) % 1000037 % m) → Same H H' → Q (.int z) H'
theorem ok_drawZ (T : Txt K mg a) : FnOk P w K mg base CX0 1 a.f__law_draw a.d__law_draw P__law_draw sp_drawZ := by
  refine T.F__law_draw.ok sc__law_draw (fun vs H Q E h => ?_) (fun cdv A outer s H vs Q E hr h => ?_)
  · obtain ⟨c, k, m, rfl, _⟩ := h
    rfl
  · obtain ⟨c, k, m, rfl, hk, hk2, hm, q⟩ := h
    refine ⟨_,
(pss_cons (ps_set (i := 3) sc__law_draw.nd rfl (by first | exact Or.inl rfl | exact Or.inr rfl) (pe_tup (pa_cons pe_int (pa_cons pe_int (pa_cons pe_int (pa_cons pe_int (pa_cons pe_int (pa_cons pe_int (pa_cons pe_int (pa_cons pe_int (pa_cons pe_int (pa_cons pe_int (pa_cons pe_int (pa_cons pe_int (pa_cons pe_int (pa_cons pe_int (pa_cons pe_int (pa_cons pe_int pa_nil))))))))))))))))))
    (pss_one (ps_ret (pe_op op_mod (pe_op op_mod (pe_op op_add (pe_op op_mul (pv 0) pe_int) (pe_op op_mul (pv 1) pe_int)) (pe_ix ix_tup (pv 3) (pe_op op_mod (pv 1) pe_int) (fun _ _ => rfl))) (pv 2)))))
      , ?_⟩
    rw [show start N__law_draw [V.int c, V.int k, V.int m] = [some (.int c), some (.int k), some (.int m), none] from rfl]
    walk_at "rdh"
    intro p hp
    refine ⟨.inr ⟨by decide, by decide⟩, .inr ⟨by decide, by decide⟩, by decide, _, .inl (.inl upd_same), ?_⟩
    have h16 : ∃ z : Int, atI [V.int 1000003, V.int 1000033, V.int 1000037, V.int 1000039, V.int 1000081, V.int 1000099, V.int 1000117, V.int 1000121, V.int 1000133, V.int 1000151, V.int 1000159, V.int 1000171, V.int 1000183, V.int 1000187, V.int 1000193, V.int 1000199] (k % 16) = some (V.int z) ∧ 0 < z ∧ (k = 2 → z = 1000037) := by
      by_cases k2 : k = 2
      · subst k2
        exact ⟨1000037, rfl, by decide, fun _ => rfl⟩
      obtain ⟨j, hj, e⟩ : ∃ j : Nat, j < 16 ∧ k % 16 = (j : Int) := ⟨(k % 16).toNat, by omega, by omega⟩
      rw [e]
      match j, hj with
      | 0, _ | 1, _ | 2, _ | 3, _ | 4, _ | 5, _ | 6, _ | 7, _ | 8, _ | 9, _ | 10, _ | 11, _ | 12, _ | 13, _ | 14, _ | 15, _ => exact ⟨_, rfl, by decide, fun z => absurd z k2⟩
      | n + 16, h => exact absurd h (by omega)
    obtain ⟨z, e, hz, h2⟩ := h16
    exact ⟨_, e, z, rfl, hz, q _ _ (Int.emod_nonneg _ (by omega)) (Int.emod_lt_of_pos _ hm) (fun k2 => by rw [h2 k2, k2]) (same_new hp)⟩
def sp_numZ : Sp := fun vs H Q _ => ∃ c k m : Int, vs = [.int c, .int k, .int m] ∧ 0 ≤ k ∧ k < 1000 ∧ 0 < m ∧ ∀ (z : Int) H', 0 ≤ z → z < m → (k = 1 → z = numZ c m) → Same H H' → Q (.int z) H'
theorem ok_numZ (T : Txt K mg a) : FnOk P w K mg base CX0 2 a.f__law_number a.d__law_number P__law_number sp_numZ := by
  refine T.F__law_number.ok sc__law_number (fun vs H Q E h => ?_) (fun cdv A outer s H vs Q E hr h => ?_)
  · obtain ⟨c, k, m, rfl, _⟩ := h
    rfl
  · obtain ⟨c, k, m, rfl, hk, hk2, hm, q⟩ := h
    have G__law_draw := ok_drawZ (P := P) (w := w) (base := base) T
    have B__law_draw := bi__law_draw T
    refine ⟨_,
(pss_cons (ps_set (i := 3) sc__law_number.nd rfl (by first | exact Or.inl rfl | exact Or.inr rfl) (pe_op op_sub (pv 0) (pe_op op_pow pe_int pe_int)))
    (pss_cons (ps_for PassesOwn.never rfl (pi_range1 rfl T.b_range (pa_cons (pe_op op_mod (pv 1) pe_int) pa_nil)) (pg_name (i := 4) sc__law_number.nd rfl (by first | exact Or.inl rfl | exact Or.inr rfl))
    (pss_one (ps_set (i := 3) sc__law_number.nd rfl (by first | exact Or.inl rfl | exact Or.inr rfl) (pe_op op_fdiv (pv 3) pe_int))))
    (pss_cons (ps_if (pt_cmpR op_gt (pv 3) pe_int (nomark _)) (pss_one (ps_ret (pe_op op_mod (pe_op op_mod (pv 3) pe_int) (pv 2)))) pss_nil)
    (pss_cons (ps_set (i := 5) sc__law_number.nd rfl (by first | exact Or.inl rfl | exact Or.inr rfl) (pe_op op_mod (pv 0) pe_int))
    (pss_one (ps_ret (pe_op op_mod (pe_call G__law_draw (hr.mono (by decide)) rfl T.f__law_draw.g T.f__law_draw.k B__law_draw .nil pass0 (pa_cons (pe_op op_mul (pe_op op_add (pv 5) (pe_op op_mul pe_int (pv 1))) (pe_op op_add (pe_op op_add (pv 5) (pe_op op_mul pe_int (pv 1))) pe_int)) (pa_cons (pe_op op_add (pe_op op_mod (pv 1) pe_int) pe_int) (pa_cons pe_int pa_nil)))) (pv 2))))))))
      , ?_⟩
    rw [show start N__law_number [V.int c, V.int k, V.int m] = [some (.int c), some (.int k), some (.int m), none, none, none] from rfl]
    walk_at "rdh"
    refine ⟨⟨by decide, by decide, by decide⟩, ?_⟩
    refine tfor_it (J := Itr 0 (k % 24).toNat) (H1 := H) (fun R hR => ?_) walk_range (fun i σ H' => H' = H ∧ ∃ rest v, σ = [some (.int c), some (.int k), some (.int m), some (.int rest), v, none] ∧ (i = 0 → rest = c - 10 ^ 18) ∧ (i = 1 → rest = (c - 10 ^ 18) / 1009)) ⟨rfl, _, _, rfl, fun _ => rfl, fun z => by cases z⟩ (fun _ _ _ _ _ => trivial) ?_ ?_
    · walk_at "rd"
      exact ⟨by decide, by omega, by omega, hR⟩
    · rintro i x σ H2 H3 hi ⟨rfl, rest, v, rfl, r0, r1⟩ ⟨rfl, rfl⟩
      walk_at "rd"
      refine ⟨⟨by decide, by decide⟩, fun z => z.elim, fun z => ?_⟩
      rw [r0 (by omega)]
    · rintro σ H2 ⟨rfl, rest, v, rfl, r0, r1⟩
      walk_at "rd"
      have er : k = 1 → rest = (c - 10 ^ 18) / 1009 := fun e => r1 (by rw [e]; rfl)
      refine ite2 (fun pos => ⟨by decide, hm, q _ _ (Int.emod_nonneg _ (by omega)) (Int.emod_lt_of_pos _ hm) (fun e => ?_) (Same.refl _)⟩) (fun npos => ?_)
      · have := er e
        subst this
        rw [numZ, if_pos pos]
      have b1 : 0 ≤ c % 1000003 := Int.emod_nonneg _ (by decide)
      have b2 : c % 1000003 < 1000003 := Int.emod_lt_of_pos _ (by decide)
      refine ⟨by decide, .inl ⟨by decide, by decide⟩, .inl ⟨by decide, by decide⟩, .inl ⟨by omega, by omega⟩, by decide, _, _, _, rfl, by omega, by omega, by decide, fun z H' z1 z2 z3 s1 => ?_⟩
      refine ⟨z, rfl, hm, q _ _ (Int.emod_nonneg _ (by omega)) (Int.emod_lt_of_pos _ hm) (fun e => ?_) s1⟩
      have := er e
      subst this
      rw [numZ, if_neg npos, z3 (by rw [e]; rfl), mixZ, e, show c % 1000003 + 31 * 1 + 5 = c % 1000003 + 36 by omega, show c % 1000003 + 977 * 1 = c % 1000003 + 977 by omega]
/-- the state of drawing, all told -/
def SttX (K : PySem.W.Frag) (ns : List Int) (H : Hp) (st : Addr) (b n : Int) : Prop := ∃ scr : Addr, H st = some (.lst [.ref scr, .int b, .int n]) ∧ Scr K ns H scr
def goodZ (ns : List Int) (b n : Int) : Prop := (n + 1) % 12 = 0 ∧ ns.length ≤ b + (n + 1) / 12
def sp_nextZ (K : PySem.W.Frag) : Sp := fun vs H Q _ => ∃ (ns : List Int) (st : Addr) (m b n : Int), vs = [.ref st, .int m] ∧ SttX K ns H st b n ∧ 0 ≤ b ∧ 0 ≤ n ∧ 0 < m ∧
  ∀ (z : Int) H', 0 ≤ z → z < m → (goodZ ns b n → z = numZ (31 * ((n + 1) / 12)) m) → SttX K ns H' st b (n + 1) → Kp st H H' → Q (.int z) H'
theorem ok_nextZ (T : Txt K mg a) : FnOk P w K mg base CX0 3 a.f__law_next a.d__law_next P__law_next (sp_nextZ K) := by
  refine T.F__law_next.ok sc__law_next (fun vs H Q E h => ?_) (fun cdv A outer s H vs Q E hr h => ?_)
  · obtain ⟨ns, st, m, b, n, rfl, _⟩ := h
    rfl
  · obtain ⟨ns, st, m, b, n, rfl, ⟨scr, h1, h3⟩, hb, hn, hm, q⟩ := h
    have G__law_cell_at := ok_cellZ (P := P) (w := w) (base := base) T
    have B__law_cell_at := bi__law_cell_at T
    have G__law_number := ok_numZ (P := P) (w := w) (base := base) T
    have B__law_number := bi__law_number T
    refine ⟨_,
(pss_cons (ps_asg (pe_op op_add (pe_ix ix_list (pv 0) pe_int (fun _ _ => rfl)) pe_int) (pg_sub (pv 0) pe_int set_list))
    (pss_cons (ps_set (i := 2) sc__law_next.nd rfl (by first | exact Or.inl rfl | exact Or.inr rfl) (pe_op op_fdiv (pe_ix ix_list (pv 0) pe_int (fun _ _ => rfl)) pe_int))
    (pss_cons (ps_set (i := 3) sc__law_next.nd rfl (by first | exact Or.inl rfl | exact Or.inr rfl) (pe_op op_add (pe_call G__law_cell_at (hr.mono (by decide)) rfl T.f__law_cell_at.g T.f__law_cell_at.k B__law_cell_at .nil pass0 (pa_cons (pe_ix ix_list (pv 0) pe_int (fun _ _ => rfl)) (pa_cons (pe_op op_add (pe_ix ix_list (pv 0) pe_int (fun _ _ => rfl)) (pv 2)) pa_nil))) (pe_op op_mul pe_int (pv 2))))
    (pss_one (ps_ret (pe_call G__law_number (hr.mono (by decide)) rfl T.f__law_number.g T.f__law_number.k B__law_number .nil pass0 (pa_cons (pv 3) (pa_cons (pe_op op_add (pe_op op_mod (pe_ix ix_list (pv 0) pe_int (fun _ _ => rfl)) pe_int) pe_int) (pa_cons (pv 1) pa_nil)))))))))
      , ?_⟩
    rw [show start N__law_next [V.ref st, V.int m] = [some (.ref st), some (.int m), none, none] from rfl]
    walk_at "rd"
    have e1 : upd H st (HO.lst [V.ref scr, V.int b, V.int (n + 1)]) st = some (HO.lst [V.ref scr, V.int b, V.int (n + 1)]) := upd_same
    have k1 : Kp st H (upd H st (HO.lst [V.ref scr, V.int b, V.int (n + 1)])) := kp_upd
    refine ⟨_, .inl (.inl h1), _, rfl, n, rfl, _, h1, 2, rfl, ?_⟩
    simp only [List.set_cons_succ, List.set_cons_zero]
    generalize upd H st (HO.lst [V.ref scr, V.int b, V.int (n + 1)]) = H1 at *
    have n1 : 0 ≤ (n + 1) / 12 := by omega
    refine ⟨_, .inl (.inl e1), _, rfl, _, rfl, ⟨by decide, by decide⟩, _, .inl (.inl e1), _, rfl, _, .inl (.inl e1), _, rfl, _, rfl, ?_⟩
    have h3' := h3.kp k1 h1 (fun _ _ z => nomatch z)
    refine ⟨scr, b + (n + 1) / 12, ns, rfl, h3'.sq, by omega, fun z hz => ?_⟩
    refine ⟨.inl ⟨by decide, by decide⟩, z, rfl, _, .inl (.inl e1), _, rfl, _, rfl, by decide, ?_⟩
    refine ⟨_, _, m, rfl, by omega, by omega, hm, fun y H2 y1 y2 y3 s2 => ?_⟩
    refine q y H2 y1 y2 (fun g => ?_) ⟨scr, s2 _ _ e1, h3'.same s2⟩ (k1.trans (s2.kp st))
    rw [y3 (by rw [g.1]; rfl), hz g.2]
    simp
end
/-! ### among few draws one is not nothing -/
def mixN (s : Nat) : Nat := ((s + 977) * (s + 36) * 48271 + 2 * 69621) % 1000037 % 999983
theorem mix_nat (s : Nat) : mixZ (s : Nat) = (mixN s : Nat) := by
  simp [mixZ, mixN]
theorem mixes : (List.range 5002).all (fun q => (List.range 20).any fun i => mixN (31 * (200 * q + i) % 1000003) % 6 != 0) = true := by decide +kernel
theorem val_near (t : Nat) : ∃ i : Nat, i ≤ 500 ∧ numZ (31 * ((t + i : Nat) : Int)) 6 ≠ 0 := by
  by_cases big : ((31 * ((t + 400 : Nat) : Int)) - 10 ^ 18) / 1009 > 0
  · have h : ∀ i : Nat, 400 ≤ i → numZ (31 * ((t + i : Nat) : Int)) 6 = ((31 * ((t + i : Nat) : Int)) - 10 ^ 18) / 1009 % 1009 % 6 := fun i hi => by
      rw [numZ, if_pos (by omega)]
    by_cases h0 : ((31 * ((t + 400 : Nat) : Int)) - 10 ^ 18) / 1009 % 1009 % 6 = 0
    · by_cases h1 : ((31 * ((t + 433 : Nat) : Int)) - 10 ^ 18) / 1009 % 1009 % 6 = 0
      · refine ⟨466, by decide, ?_⟩
        rw [h 466 (by decide)]
        have a1 : ((31 * ((t + 433 : Nat) : Int)) - 10 ^ 18) / 1009 = ((31 * ((t + 400 : Nat) : Int)) - 10 ^ 18) / 1009 + 1 ∨ ((31 * ((t + 433 : Nat) : Int)) - 10 ^ 18) / 1009 = ((31 * ((t + 400 : Nat) : Int)) - 10 ^ 18) / 1009 + 2 := by omega
        have a2 : ((31 * ((t + 466 : Nat) : Int)) - 10 ^ 18) / 1009 = ((31 * ((t + 400 : Nat) : Int)) - 10 ^ 18) / 1009 + 2 ∨ ((31 * ((t + 466 : Nat) : Int)) - 10 ^ 18) / 1009 = ((31 * ((t + 400 : Nat) : Int)) - 10 ^ 18) / 1009 + 3 := by omega
        generalize ((31 * ((t + 400 : Nat) : Int)) - 10 ^ 18) / 1009 = q0 at *
        generalize ((31 * ((t + 433 : Nat) : Int)) - 10 ^ 18) / 1009 = q1 at *
        generalize ((31 * ((t + 466 : Nat) : Int)) - 10 ^ 18) / 1009 = q2 at *
        omega
      · exact ⟨433, by decide, by rw [h 433 (by decide)]; exact h1⟩
    · exact ⟨400, by decide, by rw [h 400 (by decide)]; exact h0⟩
  · have hr : t % 1000003 < 1000003 := Nat.mod_lt _ (by decide)
    have hq := List.all_eq_true.mp mixes (t % 1000003 / 200 + 1) (List.mem_range.mpr (by omega))
    obtain ⟨i, hi, ne⟩ := List.any_eq_true.mp hq
    have hi := List.mem_range.mp hi
    refine ⟨200 * (t % 1000003 / 200 + 1) + i - t % 1000003, by omega, ?_⟩
    have e : t + (200 * (t % 1000003 / 200 + 1) + i - t % 1000003) = 1000003 * (t / 1000003) + (200 * (t % 1000003 / 200 + 1) + i) := by omega
    rw [numZ, if_neg (by omega), e]
    have e2 : (31 * ((1000003 * (t / 1000003) + (200 * (t % 1000003 / 200 + 1) + i) : Nat) : Int)) % 1000003 = ((31 * (200 * (t % 1000003 / 200 + 1) + i) % 1000003 : Nat) : Int) := by omega
    rw [e2, mix_nat]
    have ne : mixN (31 * (200 * (t % 1000003 / 200 + 1) + i) % 1000003) % 6 ≠ 0 := by simpa using ne
    omega
theorem draw_near {ns : List Int} (hl : ns.length ≤ 63) {b n : Int} (hb : 0 ≤ b) (hn : 0 ≤ n) : ∃ j : Nat, j ≤ 6800 ∧ goodZ ns b (n + j) ∧ numZ (31 * ((n + j + 1) / 12)) 6 ≠ 0 := by
  obtain ⟨n, rfl⟩ := Int.eq_ofNat_of_zero_le hn
  obtain ⟨i, hi, h⟩ := val_near (n / 12 + 64)
  refine ⟨12 * (n / 12 + 64 + i) - 1 - n, by omega, ⟨by omega, by omega⟩, ?_⟩
  have e : (((n : Nat) : Int) + ((12 * (n / 12 + 64 + i) - 1 - n : Nat) : Int) + 1) / 12 = ((n / 12 + 64 + i : Nat) : Int) := by omega
  rw [e]
  exact h
end Qw

set_option Elab.async false
set_option linter.all false
set_option maxRecDepth 100000
set_option maxHeartbeats 4000000
namespace Qw
open PySem L2
/-! ### the words that ended, in plain Lean -/
theorem out_place {m : MS} : ∀ d ∈ m.out, d.2.2 = m.place := fun d hd => by
  unfold MS.out at hd
  split at hd
  · cases hd
  · rw [List.mem_singleton.mp hd]
/-- the ways of a step -/
theorem step_ways (r : RS) (m : MS) (c : Nat) (R : MS × List W3 → Prop)
    (h1 : ∀ m1 : MS, (m1 = m ∨ (m.state = NT ∧ m1 = { m with state := [] })) → m1.bent = true → R ({ (({ m1 with bent := false } : MS).add c) with place := m1.place + 1 }, []))
    (h2 : ∀ m1 : MS, (m1 = m ∨ (m.state = NT ∧ m1 = { m with state := [] })) → m1.bent = false → m1.state = [] → R ({ (m1.plain r c).1 with place := (m1.plain r c).1.place + 1 }, (m1.plain r c).2))
    (h3 : m.bent = false → m.state = NT → R ({ m with place := m.place + 1 }, []))
    (h4 : m.bent = false → m.state ≠ [] → m.state ≠ NT → R ({ (m.quoted r c) with place := (m.quoted r c).place + 1 }, [])) : R (m.step r c) := by
  by_cases e : m.state = NT ∧ c = LE
  · simp only [MS.step, if_pos e]
    by_cases b : m.bent = true
    · simp only [if_pos b]
      exact h1 _ (.inr ⟨e.1, rfl⟩) b
    · have b' : m.bent = false := by simpa using b
      simp only [if_neg b, if_true]
      exact h2 _ (.inr ⟨e.1, rfl⟩) b' rfl
  · simp only [MS.step, if_neg e]
    by_cases b : m.bent = true
    · simp only [if_pos b]
      exact h1 _ (.inl rfl) b
    · have b' : m.bent = false := by simpa using b
      simp only [if_neg b]
      by_cases s1 : m.state = []
      · simp only [if_pos s1]
        exact h2 _ (.inl rfl) b' s1
      · by_cases s2 : m.state = NT
        · simp only [if_neg s1, if_pos s2]
          exact h3 b' s2
        · simp only [if_neg s1, if_neg s2]
          exact h4 b' s1 s2
theorem step_place (r : RS) (m : MS) (c : Nat) : ∀ d ∈ (m.step r c).2, d.2.2 = m.place := by
  refine step_ways r m c (fun x => ∀ d ∈ x.2, d.2.2 = m.place) (fun _ _ _ d hd => (nomatch hd)) (fun m1 e _ _ d hd => ?_) (fun _ _ d hd => (nomatch hd)) (fun _ _ _ d hd => (nomatch hd))
  have ep : m1.place = m.place := by rcases e with e | ⟨_, e⟩ <;> rw [e]
  have hd : d ∈ (m1.plain r c).2 := hd
  rw [← ep]
  unfold MS.plain at hd
  split at hd
  · exact out_place d hd
  split at hd
  · exact out_place d hd
  split at hd
  · cases hd
  split at hd
  · cases hd
  · cases hd
theorem ends_lt (r : RS) : ∀ (t : Tx) (m : MS), ∀ d ∈ (m.run r t).2, d.2.2 < m.place + t.length
  | [], _, _, hd => (nomatch hd)
  | c :: t, m, d, hd => by
    rw [List.length_cons]
    rcases List.mem_append.mp hd with h | h
    · have := step_place r m c d h
      omega
    · have := ends_lt r t (m.step r c).1 d h
      rw [MS.place_step] at this
      omega
def Opn (m : MS) : Prop := m.bent = true ∨ (m.state ≠ [] ∧ m.state ≠ NT)
theorem opn_fault {m : MS} : (∃ n, m.fault = some n) ↔ Opn m := by
  unfold MS.fault Opn
  by_cases h : m.bent = true ∨ (m.state ≠ [] ∧ m.state ≠ NT)
  · rw [if_pos h]; exact ⟨fun _ => h, fun _ => ⟨_, rfl⟩⟩
  · rw [if_neg h]; exact ⟨fun ⟨_, z⟩ => (nomatch z), fun z => absurd z h⟩
theorem fault_at {m : MS} {n : Nat} (h : m.fault = some n) : n = m.opened := by
  unfold MS.fault at h
  split at h
  · exact (Option.some.inj h).symm
  · cases h
theorem step_open (r : RS) (m : MS) (c : Nat) : Opn (m.step r c).1 → (m.step r c).2 = [] ∧ ((¬ Opn m ∧ (m.step r c).1.opened = m.place) ∨ (Opn m ∧ (m.step r c).1.opened = m.opened)) := by
  refine step_ways r m c (fun x => Opn x.1 → x.2 = [] ∧ ((¬ Opn m ∧ x.1.opened = m.place) ∨ (Opn m ∧ x.1.opened = m.opened))) (fun m1 e b h => ?_) (fun m1 e b s h => ?_) (fun b s h => ?_) (fun b s1 s2 h => ?_)
  · refine ⟨rfl, .inr ⟨?_, ?_⟩⟩
    · rcases e with e | ⟨_, e⟩
      · subst e; exact .inl b
      · subst e; exact .inl b
    · rcases e with e | ⟨_, e⟩ <;> subst e <;> rfl
  · have no : ¬ Opn m := by
      rcases e with e | ⟨s', e⟩
      · subst e
        rintro (z | z)
        · rw [b] at z; cases z
        · exact z.1 s
      · subst e
        rintro (z | z)
        · have b : m.bent = false := b
          rw [b] at z; cases z
        · exact z.2 s'
    have ep : m1.place = m.place := by rcases e with e | ⟨_, e⟩ <;> rw [e]
    have h : Opn { (m1.plain r c).1 with place := (m1.plain r c).1.place + 1 } := h
    show (m1.plain r c).2 = [] ∧ ((¬ Opn m ∧ (m1.plain r c).1.opened = m.place) ∨ (Opn m ∧ (m1.plain r c).1.opened = m.opened))
    have bb : ∀ m : MS, m.begin.bent = m.bent ∧ m.begin.state = m.state ∧ m.begin.place = m.place := fun m => by unfold MS.begin; split <;> exact ⟨rfl, rfl, rfl⟩
    obtain ⟨b1, b2, b3⟩ := bb m1
    by_cases c1 : c ∈ r.breaks
    · rw [MS.plain, if_pos c1] at h
      rcases h with h | h
      · have h : m1.bent = true := h
        rw [b] at h; cases h
      · exact absurd s h.1
    by_cases c2 : c ∈ r.note
    · rw [MS.plain, if_neg c1, if_pos c2] at h
      rcases h with h | h
      · have h : m1.bent = true := h
        rw [b] at h; cases h
      · exact absurd rfl h.2
    by_cases c3 : c ∈ r.quotes
    · rw [MS.plain, if_neg c1, if_neg c2, if_pos c3]
      exact ⟨rfl, .inl ⟨no, b3.trans ep⟩⟩
    by_cases c4 : c ∈ r.bend
    · rw [MS.plain, if_neg c1, if_neg c2, if_neg c3, if_pos c4]
      exact ⟨rfl, .inl ⟨no, b3.trans ep⟩⟩
    · rw [MS.plain, if_neg c1, if_neg c2, if_neg c3, if_neg c4] at h
      rcases h with h | h
      · have h : m1.begin.bent = true := h
        rw [b1, b] at h; cases h
      · have h : m1.begin.state ≠ [] := h.1
        rw [b2, s] at h
        exact absurd rfl h
  · rcases h with h | h
    · have h : m.bent = true := h
      rw [b] at h; cases h
    · exact absurd s h.2
  · refine ⟨rfl, .inr ⟨.inr ⟨s1, s2⟩, ?_⟩⟩
    show (m.quoted r c).opened = m.opened
    unfold MS.quoted
    split
    · rfl
    split
    · rfl
    · rfl
/-- a fault: the words that ended, ended ahead of it -/
theorem open_cut (r : RS) (rp : Addr) : ∀ (k : Nat) (t : Tx), t.length = k → Opn ((MS.zero rp).run r t).1 → ((MS.zero rp).run r t).1.opened < t.length ∧ ¬ Opn ((MS.zero rp).run r (t.take ((MS.zero rp).run r t).1.opened)).1 ∧
    ((MS.zero rp).run r t).2 = ((MS.zero rp).run r (t.take ((MS.zero rp).run r t).1.opened)).2 := by
  intro k
  induction k with
  | zero =>
    intro t ht h
    cases List.eq_nil_of_length_eq_zero ht
    rcases h with h | h
    · cases h
    · exact absurd rfl h.1
  | succ k ih =>
    intro t ht h
    rcases List.eq_nil_or_concat t with rfl | ⟨u, c, rfl⟩
    · cases ht
    rw [List.concat_eq_append] at *
    have hu : u.length = k := by simpa using ht
    rw [MS.run_one] at h ⊢
    dsimp only at h ⊢
    obtain ⟨e2, ho⟩ := step_open r _ c h
    rw [e2, List.append_nil]
    rcases ho with ⟨no, eo⟩ | ⟨op, eo⟩
    · rw [eo, MS.place_run]
      have ep : (MS.zero rp).place + u.length = u.length := Nat.zero_add _
      rw [ep, List.take_left]
      exact ⟨by simp, no, rfl⟩
    · obtain ⟨a1, a2, a3⟩ := ih u hu op
      rw [eo, List.take_append_of_le_length (Nat.le_of_lt a1)]
      exact ⟨by rw [List.length_append]; simp only [List.length_cons, List.length_nil]; omega, a2, a3⟩
/-- the words that ended in a text -/
def endedT (r : RS) (rp : Addr) (t : Tx) : List Tx := ((MS.zero rp).run r t).2.map (·.1)
/-- the words of a text that is read, the one that is there not counted -/
def closedT (t : Tx) (ds : List W3) : List Tx := if ds ≠ [] ∧ (ds.getLast?.map (·.2.2)) = some t.length then (ds.map (·.1)).dropLast else ds.map (·.1)
theorem closed_ok {r : RS} {rp : Addr} {t : Tx} {ds : List W3} (h : readAll r t rp = .ok ds) : closedT t ds = endedT r rp t := by
  unfold readAll at h
  cases e : ((MS.zero rp).run r t).1.fault with
  | some n => rw [e] at h; cases h
  | none =>
    rw [e] at h
    have h := Except.ok.inj h
    subst h
    have pl : ((MS.zero rp).run r t).1.place = t.length := (MS.place_run r t _).trans (Nat.zero_add _)
    unfold closedT endedT
    cases ew : ((MS.zero rp).run r t).1.word with
    | some w =>
      have eo : ((MS.zero rp).run r t).1.out = [(w, ((MS.zero rp).run r t).1.begun, ((MS.zero rp).run r t).1.place)] := by unfold MS.out; rw [ew]
      rw [eo, if_pos ⟨by simp, by rw [List.getLast?_append]; simp [pl]⟩, List.map_append]
      simp
    | none =>
      have eo : ((MS.zero rp).run r t).1.out = [] := by unfold MS.out; rw [ew]
      rw [eo, List.append_nil, if_neg ?_]
      rintro ⟨ne, z⟩
      cases el : ((MS.zero rp).run r t).2.getLast? with
      | none => rw [el] at z; cases z
      | some d =>
        rw [el] at z
        have := ends_lt r t (MS.zero rp) d (List.mem_of_getLast? el)
        have z : d.2.2 = t.length := Option.some.inj z
        have zp : (MS.zero rp).place = 0 := rfl
        omega
theorem closed_fault {r : RS} {rp : Addr} {t : Tx} {n : Nat} (h : readAll r t rp = .error n) : n < t.length ∧ (∃ ds, readAll r (t.take n) rp = .ok ds) ∧ endedT r rp (t.take n) = endedT r rp t := by
  unfold readAll at h
  cases e : ((MS.zero rp).run r t).1.fault with
  | none => rw [e] at h; cases h
  | some k =>
    rw [e] at h
    have h := Except.error.inj h
    subst h
    have ek := fault_at e
    obtain ⟨h1, h2, h3⟩ := open_cut r rp _ t rfl (opn_fault.mp ⟨_, e⟩)
    rw [← ek] at h1 h2 h3
    refine ⟨h1, ?_, by rw [endedT, endedT, h3]⟩
    unfold readAll
    cases e2 : ((MS.zero rp).run r (t.take k)).1.fault with
    | some j => exact absurd (opn_fault.mp ⟨_, e2⟩) h2
    | none => exact ⟨_, rfl⟩
end Qw

set_option Elab.async false
set_option linter.all false
set_option maxRecDepth 100000
set_option maxHeartbeats 4000000
namespace Qw
open PySem L2
local macro_rules | `(tactic| walk_at "rd") => `(tactic| simp only [iEnum, iRng3, tRevL, rSlS, rSlL, gSub, rSetL, wipe, List.map_cons, List.map_nil, rAll, rAny, rIsi, tM1, tM0, iZipLT, iZip, iRng2, tLenSetS, rListStr, rMulS, rRep, rCntB, tRevS, rNeD, rEqD, tSeq, tNext, tAsg, tRet, tRetN, tDrop, tIfS, sFld, sFldAug, tVar, tC, tOp, tUn, tTest, tB, tAnd, tOr, tNot, tAndV, tOrV, tNotV, tIf, tTup, tLst, tCons, tNil, tCB, tCall, tMeth, tMake, tFld, rI, rI0, rU, rEq, rNe, rCat, gName, gTup, gCons, gNil, tPar, tPar3, tBM, tBM0, rAppend, rExtend, rPopAt, rIxL, rIxT, rIxS, tSl, rSlS, rSlL, tPart, tNoPart, iStr, iTup, iList, iRng1, tAug, ipI, L2.rAdd, L2.rSub, L2.rAddS, tChain, rIsB, rNotB, scal_ss, scal_ii, scal_bb, scal_nn, scal_in, scal_ni, tYes,
  cx_K, cx_N, List.getElem?_cons_zero, List.getElem?_cons_succ, List.set_cons_zero, List.set_cons_succ, List.nil_append, List.cons_append, List.append_nil, List.length_cons, List.length_nil, Nat.zero_add,
  Option.some.injEq, V.ref.injEq, V.int.injEq, V.str.injEq, V.bl.injEq, HO.ins.injEq, HO.lst.injEq, HO.tup.injEq, List.cons.injEq, exists_eq_left, exists_eq_left', exists_eq_right, exists_eq_right', and_true, true_and, exists_and_left, exists_and_right, and_assoc, decide_eq_true_eq, Bool.not_eq_true', decide_eq_false_iff_not, reduceCtorEq, exists_const, forall_const, if_true, if_false, false_and, and_false, ite_true, ite_false, Bool.true_eq_false, Bool.false_eq_true, Nat.reduceLeDiff, Nat.reduceAdd, small_line, small_lt, upd_ne, ne_eq, not_false_eq_true, Nat.zero_le, Prod.mk.injEq, upd_same, upd_upd, S_tl, S_len, S_app, S_one, S_inj,
  lk_breaks, lk_hard, lk_soft, lk_bend, lk_note, lk_rules, lk_state, lk_bent, lk_word, lk_begun, lk_opened, lk_place, pt_state, pt_bent, pt_word, pt_wordS, pt_wordN, pt_begun, pt_opened, pt_place, pt_place1, len_mf, litv_empty, litv_note, litv_nl, mf_inj, rf_inj, lkn_begin, lkn_ended, lkn_plain, lkn_quoted, lkn_step, lkn_fault, lkn_key, lkn_told, lkn_quotes, lkn_special, pt_open1, not_true_eq_false, not_false_eq_true])
local macro_rules | `(tactic| walk_at "rdh") => `(tactic| simp only [iEnum, iRng3, tRevL, rSlS, rSlL, gSub, rSetL, wipe, List.map_cons, List.map_nil, rAll, rAny, rIsi, tM1, tM0, iZipLT, iZip, iRng2, tLenSetS, rListStr, rMulS, rRep, rCntB, tRevS, rNeD, rEqD, tSeq, tNext, tAsg, tRet, tRetN, tDrop, tIfS, sFld, sFldAug, tVar, tC, tOp, tUn, tTest, tB, tAnd, tOr, tNot, tAndV, tOrV, tNotV, tIf, tTup, tLst, tCons, tNil, tCB, tCall, tMeth, tMake, tFld, rI, rI0, rU, rEq, rNe, rCat, gName, gTup, gCons, gNil, tPar, tPar3, tBM, tBM0, rAppend, rExtend, rPopAt, rIxL, rIxT, rIxS, tSl, rSlS, rSlL, tPart, tNoPart, iStr, iTup, iList, iRng1, tAug, ipI, L2.rAdd, L2.rSub, L2.rAddS, tChain, rIsB, rNotB, scal_ss, scal_ii, scal_bb, scal_nn, scal_in, scal_ni, tYes,
  cx_K, cx_N, List.getElem?_cons_zero, List.getElem?_cons_succ, List.set_cons_zero, List.set_cons_succ, List.nil_append, List.cons_append, List.append_nil, List.length_cons, List.length_nil, Nat.zero_add,
  Option.some.injEq, V.ref.injEq, V.int.injEq, V.str.injEq, V.bl.injEq, HO.ins.injEq, HO.lst.injEq, HO.tup.injEq, List.cons.injEq, exists_eq_left, exists_eq_left', exists_eq_right, exists_eq_right', and_true, true_and, exists_and_left, exists_and_right, and_assoc, decide_eq_true_eq, Bool.not_eq_true', decide_eq_false_iff_not, reduceCtorEq, exists_const, forall_const, if_true, if_false, false_and, and_false, ite_true, ite_false, Bool.true_eq_false, Bool.false_eq_true, Nat.reduceLeDiff, Nat.reduceAdd, small_line, small_lt, upd_ne, ne_eq, not_false_eq_true, Nat.zero_le, Prod.mk.injEq, upd_same, upd_upd, S_tl, S_len, S_app, S_one, S_inj,
  lk_breaks, lk_hard, lk_soft, lk_bend, lk_note, lk_rules, lk_state, lk_bent, lk_word, lk_begun, lk_opened, lk_place, pt_state, pt_bent, pt_word, pt_wordS, pt_wordN, pt_begun, pt_opened, pt_place, pt_place1, len_mf, litv_empty, litv_note, litv_nl, mf_inj, rf_inj, lkn_begin, lkn_ended, lkn_plain, lkn_quoted, lkn_step, lkn_fault, lkn_key, lkn_told, lkn_quotes, lkn_special, pt_open1, not_true_eq_false, not_false_eq_true, *])
local macro_rules | `(tactic| walk_at "pl") => `(tactic| (first | decide | (refine Nat.lt_of_le_of_lt (length_putF _ _ _) ?_; repeat (first | decide | refine pl2 ?_))))
local macro_rules | `(tactic| walk_at "al") => `(tactic| (intro p hp; generalize hH : upd _ p _ = H1; obtain ⟨S, e⟩ := gen_new hH hp; clear hH))
theorem atI_end {α : Type} (l : List α) (v : α) : atI (l ++ [v]) (-1) = some v := by
  have e : ixN (l ++ [v]).length (-1) = some l.length := by
    unfold ixN
    rw [if_neg (by omega), List.length_append]
    simp only [List.length_cons, List.length_nil]
    rw [if_pos (by omega)]
    exact congrArg some (by omega)
  unfold atI
  rw [e]
  show (l ++ [v])[l.length]? = some v
  simp
theorem pls_last {H : Hp} {ys : List V} {ds : List W3} {d : W3} (h : ds.getLast? = some d) (q : Paired (Pls H) ys (ds.map fun d => ((d.2.1 : Int), (d.2.2 : Int)))) : ∃ b, atI ys (-1) = some (.ref b) ∧ H b = some (.tup [.int d.2.1, .int d.2.2]) := by
  obtain ⟨l, rfl⟩ : ∃ l, ds = l ++ [d] := List.getLast?_eq_some_iff.mp h
  have r := Paired.rev q
  rw [List.map_append, List.reverse_append] at r
  have r : Paired (Pls H) ys.reverse ((((d.2.1 : Nat) : Int), ((d.2.2 : Nat) : Int)) :: (l.map fun d => ((d.2.1 : Int), (d.2.2 : Int))).reverse) := r
  generalize e : ys.reverse = zs at r
  cases r with
  | cons r1 r2 =>
    rename_i x xs
    have e : ys = xs.reverse ++ [x] := by rw [← List.reverse_reverse ys, e, List.reverse_cons]
    obtain ⟨b, rfl, hb⟩ := r1
    exact ⟨b, by rw [e]; exact atI_end _ _, hb⟩
theorem cut_less (xs : List V) : cutV xs none (some (-1)) = xs.dropLast := by
  unfold cutV
  rw [HT.sIx_none, List.drop_zero, Nat.sub_zero, List.dropLast_eq_take]
  congr 1
  unfold HT.sIx
  simp
  omega
def isOk3 : Except Nat (List W3) → Bool
  | .ok _ => true
  | .error _ => false
theorem lres_ty {K : PySem.W.Frag} {H H' : Hp} {v : V} {x : Except Nat (List W3)} (h : LRes H H' v x) : ∃ t, TyX K H' v t ∧ PySem.W.kitOne K t (.type "tuple") = some (isOk3 x) := by
  cases x with
  | error n => cases h; exact ⟨_, .base (.int _), kit_ty (b := "tuple") (r := false) (by decide +kernel)⟩
  | ok z =>
    obtain ⟨t0, l1, l2, ys, rfl, _, _, _, _, h2, _⟩ := h
    exact ⟨_, .base (.tup h2), kit_ty (b := "tuple") (r := true) (by decide +kernel)⟩
theorem bounds {r : RS} {t : Tx} {rp : Addr} {ds : List W3} (h : readAll r t rp = .ok ds) (hl : t.length ≤ 2000) : tame (psD (ds.map fun d => ((d.2.1 : Int), (d.2.2 : Int)))) = true ∧ ds.length ≤ 2001 := by
  have bd := readAll_bd r t rp
  rw [h] at bd
  refine ⟨psD_tame fun p hp => ?_, Nat.le_trans bd.1 (by omega)⟩
  obtain ⟨d, hd, rfl⟩ := List.mem_map.mp hp
  obtain ⟨_, _, h1, h2⟩ := bd.2 d hd
  simp only [okI]
  omega
def cutP (t : Tx) (b e : Nat) : Tx := (t.take e).drop b
theorem cutS_gen {t : Tx} {b e : Nat} (h : b ≤ e) : cutS (S t) (some (b : Int)) (some (e : Int)) = S (cutP t b e) := by
  unfold cutS
  rw [S_len, HT.sIx_nat, HT.sIx_nat]
  refine congrArg S ?_
  show (t.drop (min b t.length)).take (min e t.length - min b t.length) = (t.take e).drop b
  rw [List.drop_take]
  rcases Nat.le_total b t.length with h1 | h1
  · rw [Nat.min_eq_left h1]
    rcases Nat.le_total e t.length with h2 | h2
    · rw [Nat.min_eq_left h2]
    · rw [Nat.min_eq_right h2, List.take_of_length_le (by rw [List.length_drop]; omega), List.take_of_length_le (by rw [List.length_drop]; omega)]
  · rw [Nat.min_eq_right h1, List.drop_eq_nil_of_le (Nat.le_refl _), List.drop_eq_nil_of_le h1]
    simp
theorem take_cut {t : Tx} {b n : Nat} : t.take (b + n) = t.take b ++ cutP t b (b + n) := by
  rw [cutP, List.drop_take, Nat.add_sub_cancel_left]
  exact List.take_add
section
variable {P : Program} {w : World} {K : PySem.W.Frag} {mg : Str → Option Value} {base : Heap} {a : Ad}
def sp_law_ended : Sp := fun vs H Q _ => ∃ (tp rp : Addr) (r : RS) (t : Tx) (n : Nat), vs = [.ref tp, .str (S t), .int n] ∧ H tp = some (.tup (RS.tup r)) ∧ r.Ok ∧ t.length ≤ 2000 ∧ readAll r t rp = .error n ∧
  ∀ l H', Same H H' → H l = none → H' l = some (.lst ((endedT r rp t).map sV)) → Q (.ref l) H'
theorem ok__law_ended (T : Txt K mg a) : FnOk P w K mg base CX0 4 a.f__law_ended a.d__law_ended P__law_ended sp_law_ended := by
  refine T.F__law_ended.ok sc__law_ended (fun vs H Q E h => ?_) (fun cdv A outer s H vs Q E hr h => ?_)
  · obtain ⟨tp, rp, r, t, n, rfl, _⟩ := h
    rfl
  · obtain ⟨tp, rp, r, t, n, rfl, ht, ok, hl, hn, q⟩ := h
    have G__law_read := ok__law_read (P := P) (w := w) (base := base) T
    have B__law_read := bi__law_read T
    refine ⟨_,
(pss_cons (ps_par3 (i := 3) (j := 4) (l := 5) (by rfl) sc__law_ended.nd rfl rfl rfl (by decide) (by decide) (by decide) rfl rfl rfl (pa_cons (pe_lst pa_nil) (pa_cons (pe_lst pa_nil) (pa_cons pe_int pa_nil))) (by rfl))
    (pss_cons (ps_while PassesOwn.never (pt_cmpR op_le (pv 5) (pv 2) (nomark _)) (pss_cons (ps_set (i := 6) sc__law_ended.nd rfl (by first | exact Or.inl rfl | exact Or.inr rfl) (pe_call G__law_read (hr.mono (by decide)) rfl T.f__law_read.g T.f__law_read.k B__law_read .nil pass0 (pa_cons (pv 0) (pa_cons (pe_slice sl_str (pv 1) po_none (po_some (pv 5))) pa_nil))))
    (pss_cons (ps_if (pt_val (pe_callB (call_isi) (by rfl) T.b_isinstance (by decide +kernel) (pa_cons (pv 6) (pa_cons (pe_bltn (v := .ty "tuple") (u := .type "tuple") rfl T.b_tuple (by decide +kernel) rfl) pa_nil)))) (pss_cons (ps_asg (pv 6) (pg_tup rfl (pgs_cons (pg_name (i := 3) sc__law_ended.nd rfl (by first | exact Or.inl rfl | exact Or.inr rfl)) (pgs_cons (pg_name (i := 4) sc__law_ended.nd rfl (by first | exact Or.inl rfl | exact Or.inr rfl)) pgs_nil))))
    (pss_one (ps_if (PW.pt (pw_and (pt_cmpR (op_neD hr.units) (pv 4) (pe_lst pa_nil) (nomark _)) (pw_and1 (pt_cmpR (op_eqD hr.units) (pe_ix ix_tup (pe_ix ix_list (pv 4) (pe_un un_neg pe_int) (fun _ _ => rfl)) pe_int (fun _ _ => rfl)) (pv 5) (nomark _))))) (pss_one (ps_set (i := 3) sc__law_ended.nd rfl (by first | exact Or.inl rfl | exact Or.inr rfl) (pe_slice sl_list (pv 3) po_none (po_some (pe_un un_neg pe_int))))) pss_nil))) pss_nil)
    (pss_one (ps_set (i := 5) sc__law_ended.nd rfl (by first | exact Or.inl rfl | exact Or.inr rfl) (pe_op op_add (pv 5) pe_int))))))
    (pss_one (ps_ret (pv 3)))))
      , ?_⟩
    rw [show start N__law_ended [V.ref tp, V.str (S t), V.int n] = [some (.ref tp), some (.str (S t)), some (.int n), none, none, none, none] from rfl]
    walk_at "rd"
    intro l0 hl0
    have S0 := same_new (o := HO.lst []) hl0
    have e0 : upd H l0 (HO.lst []) l0 = some (HO.lst []) := upd_same
    generalize upd H l0 (HO.lst []) = H0 at *
    intro l1 hl1
    have S1 := same_new (o := HO.lst []) hl1
    have e1 : upd H0 l1 (HO.lst []) l1 = some (HO.lst []) := upd_same
    have S01 := S0.trans S1
    have e0' := S1 _ _ e0
    generalize upd H0 l1 (HO.lst []) = H1 at *
    obtain ⟨n1, ⟨dn, n2⟩, n3⟩ := closed_fault hn
    refine while_rule (fun k σ H' => Same H H' ∧ ∃ (i : Nat) (l pl : Addr) (v : Option V) (xs : List Tx), σ = [some (.ref tp), some (.str (S t)), some (.int n), some (.ref l), some (.ref pl), some (.int i), v] ∧ k = n + 1 - i ∧ i ≤ n + 1 ∧ H l = none ∧ H' l = some (.lst (xs.map sV)) ∧ (i = n + 1 → xs = endedT r rp t))
      _ ⟨S01, 0, l0, l1, none, [], rfl, rfl, by omega, hl0, e0', fun z => by omega⟩ ?_
    rintro k σ1 H2 R ⟨s2, i, l, pl, v, xs, rfl, rfl, hi, f1, f2, f3⟩ hT hF
    have ht2 := s2 _ _ ht
    walk_at "rd"
    by_cases c : i ≤ n
    · rw [decide_eq_true (by omega)]
      refine hT _ ?_
      refine tseq_split (fun σ' H' => Same H2 H' ∧ ∃ v2, LRes H2 H' v2 (readAll r (t.take i) rp) ∧ σ' = [some (.ref tp), some (.str (S t)), some (.int n), some (.ref l), some (.ref pl), some (.int i), some v2]) (fun N hN => ?_) ?_
      · walk_at "rd"
        rw [cutS_to]
        refine ⟨Nat.le_trans hl (by decide), tp, r, _, rfl, ht2, ok, by rw [List.length_take]; omega, fun v2 H3 s3 lr3 => ?_⟩
        rw [← readAll_lr ok _ rp] at lr3
        exact hN _ _ ⟨s3, v2, lr3, rfl⟩
      rintro σ3 H3 ⟨s3, v2, lr3, rfl⟩
      refine tseq_split (fun σ' H' => Same H H' ∧ ∃ (l pl : Addr) (v : Option V) (xs : List Tx), σ' = [some (.ref tp), some (.str (S t)), some (.int n), some (.ref l), some (.ref pl), some (.int i), v] ∧ H l = none ∧ H' l = some (.lst (xs.map sV)) ∧ (i = n → xs = endedT r rp t)) (fun N hN => ?_) ?_
      · walk_at "rd"
        obtain ⟨ty, o1, o2⟩ := lres_ty (K := K) lr3
        have s03 := s2.trans s3
        refine ⟨ty, _, .ty _, o1, _, o2, ?_⟩
        cases hE : readAll r (t.take i) rp with
        | error m =>
          rw [hE] at lr3
          refine ite2 (fun c => by cases c) (fun _ => ?_)
          exact hN _ _ ⟨s03, l, pl, _, xs, rfl, f1, s3 _ _ f2, fun z => by subst z; rw [n2] at hE; cases hE⟩
        | ok ds =>
          rw [hE] at lr3
          refine ite2 (fun _ => ?_) (fun c => absurd rfl c)
          obtain ⟨t0, l1', l2', ys, rfl, fr0, fr1, fr2, ne12, g0, g1, g2, g3⟩ := lr3
          obtain ⟨tm, dl⟩ := bounds hE (by rw [List.length_take]; omega)
          walk_at "rd"
          refine ⟨_, .inl (.inl g0), rfl, _, _, rfl, _, _, rfl, rfl, fun p hp => ?_⟩
          have S4 := same_new (o := HO.lst []) hp
          have e4 : upd H3 p (HO.lst []) p = some (HO.lst []) := upd_same
          generalize upd H3 p (HO.lst []) = H4 at *
          have s04 := s03.trans S4
          refine ⟨_, dp_ps (.inl (.inl (S4 _ _ g2))) (Paired.mapP g3 fun _ _ z => z.mono fun b xs => S4 b _), .list [], .lst (.inl (.inl e4)) .nil, shaped_of tm (Nat.le_trans (psD_depth _) (by decide)), by decide, ?_⟩
          rw [show PyData.eqv (psD (ds.map fun d => ((d.2.1 : Int), (d.2.2 : Int)))) (.list []) = decide (ds.map (fun d => ((d.2.1 : Int), (d.2.2 : Int))) = []) from eqv_dec tm rfl (psD_inj (y := []))]
          have fin : ds = [] → N [some (.ref tp), some (.str (S t)), some (.int n), some (.ref l1'), some (.ref l2'), some (.int i), some (.ref t0)] H4 := fun e => by
            refine hN _ _ ⟨s04, l1', l2', _, [], rfl, s2.free fr1, by rw [S4 _ _ g1, e]; rfl, fun z => ?_⟩
            subst z
            have := closed_ok hE
            rw [← n3, ← this, e]; rfl
          refine ite2 (fun c1 => ?_) (fun c1 => fin (by have := of_decide_eq_true (Bool.of_not_eq_false c1); exact List.map_eq_nil_iff.mp this))
          obtain ⟨d, hd⟩ : ∃ d, ds.getLast? = some d := by
            cases e : ds.getLast? with
            | some d => exact ⟨d, rfl⟩
            | none => rw [List.getLast?_eq_none_iff.mp e] at c1; cases c1
          obtain ⟨b, q1, q2⟩ := pls_last hd g3
          have bd := readAll_bd r (t.take i) rp
          rw [hE] at bd
          obtain ⟨_, _, _, bd4⟩ := bd.2 d (List.mem_of_getLast? hd)
          rw [List.length_take] at bd4
          have nonn : ds ≠ [] := fun z => by rw [z] at hd; cases hd
          refine ⟨_, rfl, _, .inl (.inl (S4 _ _ g2)), _, q1, _, rfl, _, .inl (.inl (S4 _ _ q2)), _, rfl, _, .int _, _, .int _, rfl, rfl, ?_⟩
          rw [eqv_dec (p := d.2.2 = i) (by simp only [tame, decide_eq_true_eq]; omega) (by simp only [tame, decide_eq_true_eq]; omega) (by rw [PyData.int.injEq]; omega)]
          refine ite2 (fun c2 => ?_) (fun c2 => ?_)
          · have c2 := of_decide_eq_true c2
            refine ⟨_, rfl, _, .inl (.inl (S4 _ _ g1)), fun p5 hp5 => ?_⟩
            rw [cut_less]
            have S5 := same_new (o := HO.lst (((ds.map (·.1)).map sV).dropLast)) hp5
            refine hN _ _ ⟨s04.trans S5, p5, l2', _, (ds.map (·.1)).dropLast, rfl, s04.free hp5, by rw [upd_same, List.map_dropLast], fun z => ?_⟩
            subst z
            rw [← n3, ← closed_ok hE, closedT, if_pos ⟨nonn, by rw [hd, List.length_take]; show some d.2.2 = _; rw [c2, Nat.min_eq_left (by omega)]⟩]
          · have c2 : ¬ d.2.2 = i := fun z => c2 (decide_eq_true z)
            refine hN _ _ ⟨s04, l1', l2', _, _, rfl, s2.free fr1, S4 _ _ g1, fun z => ?_⟩
            subst z
            rw [← n3, ← closed_ok hE, closedT, if_neg ?_]
            rintro ⟨_, z⟩
            rw [hd, List.length_take, Nat.min_eq_left (by omega)] at z
            exact c2 (Option.some.inj z)
      · rintro σ3 H3 ⟨s3, l, pl, v, xs, rfl, g1, g2, g3⟩
        walk_at "rd"
        exact ⟨_, by omega, s3, i + 1, by omega, rfl, by omega, g1, xs, g2, fun z => g3 (by omega)⟩
    · rw [decide_eq_false (by omega)]
      refine hF _ ?_
      walk_at "rd"
      exact q l H2 s2 f1 (by rw [f2, f3 (by omega)])
def sp_law_over : Sp := fun vs H Q _ => ∃ (tp rp : Addr) (r : RS) (t : Tx), vs = [.ref tp, .str (S t)] ∧ H tp = some (.tup (RS.tup r)) ∧ r.Ok ∧ t.length ≤ 2000 ∧
  ∀ l H', Same H H' → H l = none → H' l = some (.lst ((endedT r rp t).map sV)) → Q (.ref l) H'
theorem ok__law_over (T : Txt K mg a) : FnOk P w K mg base CX0 5 a.f__law_over a.d__law_over P__law_over sp_law_over := by
  refine T.F__law_over.ok sc__law_over (fun vs H Q E h => ?_) (fun cdv A outer s H vs Q E hr h => ?_)
  · obtain ⟨tp, rp, r, t, rfl, _⟩ := h
    rfl
  · obtain ⟨tp, rp, r, t, rfl, ht, ok, hl, q⟩ := h
    have G__law_read := ok__law_read (P := P) (w := w) (base := base) T
    have B__law_read := bi__law_read T
    have G__law_ended := ok__law_ended (P := P) (w := w) (base := base) T
    have B__law_ended := bi__law_ended T
    refine ⟨_,
(pss_cons (ps_set (i := 2) sc__law_over.nd rfl (by first | exact Or.inl rfl | exact Or.inr rfl) (pe_call G__law_read (hr.mono (by decide)) rfl T.f__law_read.g T.f__law_read.k B__law_read .nil pass0 (pa_cons (pv 0) (pa_cons (pv 1) pa_nil))))
    (pss_cons (ps_if (pt_val (pe_callB (call_isi) (by rfl) T.b_isinstance (by decide +kernel) (pa_cons (pv 2) (pa_cons (pe_bltn (v := .ty "tuple") (u := .type "tuple") rfl T.b_tuple (by decide +kernel) rfl) pa_nil)))) (pss_cons (ps_asg (pv 2) (pg_tup rfl (pgs_cons (pg_name (i := 3) sc__law_over.nd rfl (by first | exact Or.inl rfl | exact Or.inr rfl)) (pgs_cons (pg_name (i := 4) sc__law_over.nd rfl (by first | exact Or.inl rfl | exact Or.inr rfl)) pgs_nil))))
    (pss_cons (ps_set (i := 5) sc__law_over.nd rfl (by first | exact Or.inl rfl | exact Or.inr rfl) (pe_and (pe_cmpR (op_neD hr.units) (pv 4) (pe_lst pa_nil) (nomark _)) (pe_one (pe_cmpR (op_eqD hr.units) (pe_ix ix_tup (pe_ix ix_list (pv 4) (pe_un un_neg pe_int) (fun _ _ => rfl)) pe_int (fun _ _ => rfl)) (pe_callB call_len_str (by rfl) T.b_len PySem.boot_len (pa_cons (pv 1) pa_nil)) (nomark _)))))
    (pss_one (ps_ret (pe_ifExp (pt_val (pv 5)) (pe_slice sl_list (pv 3) po_none (po_some (pe_un un_neg pe_int))) (pv 3)))))) pss_nil)
    (pss_cons (ps_set (i := 6) sc__law_over.nd rfl (by first | exact Or.inl rfl | exact Or.inr rfl) (pv 2))
    (pss_one (ps_ret (pe_call G__law_ended (hr.mono (by decide)) rfl T.f__law_ended.g T.f__law_ended.k B__law_ended .nil pass0 (pa_cons (pv 0) (pa_cons (pv 1) (pa_cons (pv 6) pa_nil)))))))))
      , ?_⟩
    rw [show start N__law_over [V.ref tp, V.str (S t)] = [some (.ref tp), some (.str (S t)), none, none, none, none, none] from rfl]
    walk_at "rd"
    refine ⟨tp, r, _, rfl, ht, ok, hl, fun v2 H3 s3 lr3 => ?_⟩
    rw [← readAll_lr ok _ rp] at lr3
    obtain ⟨ty, o1, o2⟩ := lres_ty (K := K) lr3
    refine ⟨ty, _, .ty _, o1, _, o2, ?_⟩
    cases hE : readAll r t rp with
    | error n =>
      rw [hE] at lr3
      refine ite2 (fun c => by cases c) (fun _ => ?_)
      cases lr3
      exact ⟨tp, rp, r, t, n, rfl, s3 _ _ ht, ok, hl, hE, fun l H4 s4 f4 e4 => q l H4 (s3.trans s4) (s3.free f4) e4⟩
    | ok ds =>
      rw [hE] at lr3
      refine ite2 (fun _ => ?_) (fun c => absurd rfl c)
      obtain ⟨t0, l1', l2', ys, rfl, fr0, fr1, fr2, ne12, g0, g1, g2, g3⟩ := lr3
      obtain ⟨tm, dl⟩ := bounds hE hl
      walk_at "rd"
      refine ⟨_, .inl (.inl g0), rfl, _, _, rfl, _, _, rfl, rfl, fun p hp => ?_⟩
      have S4 := same_new (o := HO.lst []) hp
      have e4 : upd H3 p (HO.lst []) p = some (HO.lst []) := upd_same
      generalize upd H3 p (HO.lst []) = H4 at *
      have s04 := s3.trans S4
      refine ⟨_, dp_ps (.inl (.inl (S4 _ _ g2))) (Paired.mapP g3 fun _ _ z => z.mono fun b xs => S4 b _), .list [], .lst (.inl (.inl e4)) .nil, shaped_of tm (Nat.le_trans (psD_depth _) (by decide)), by decide, ?_⟩
      rw [show PyData.eqv (psD (ds.map fun d => ((d.2.1 : Int), (d.2.2 : Int)))) (.list []) = decide (ds.map (fun d => ((d.2.1 : Int), (d.2.2 : Int))) = []) from eqv_dec tm rfl (psD_inj (y := []))]
      refine ite2 (fun c1 => ?_) (fun c1 => ?_)
      rotate_left
      · have e : ds = [] := by have := of_decide_eq_true (Bool.of_not_eq_false c1); exact List.map_eq_nil_iff.mp this
        exact q l1' H4 s04 fr1 (by rw [S4 _ _ g1, ← closed_ok hE, e]; rfl)
      obtain ⟨d, hd⟩ : ∃ d, ds.getLast? = some d := by
        cases e : ds.getLast? with
        | some d => exact ⟨d, rfl⟩
        | none => rw [List.getLast?_eq_none_iff.mp e] at c1; cases c1
      obtain ⟨b, q1, q2⟩ := pls_last hd g3
      have bd := readAll_bd r t rp
      rw [hE] at bd
      obtain ⟨_, _, _, bd4⟩ := bd.2 d (List.mem_of_getLast? hd)
      have nonn : ds ≠ [] := fun z => by rw [z] at hd; cases hd
      refine ⟨_, rfl, _, .inl (.inl (S4 _ _ g2)), _, q1, _, rfl, _, .inl (.inl (S4 _ _ q2)), _, rfl, Nat.le_trans hl (by decide), _, .int _, _, .int _, rfl, rfl, ?_⟩
      rw [eqv_dec (p := d.2.2 = t.length) (by simp only [tame, decide_eq_true_eq]; omega) (by simp only [tame, decide_eq_true_eq]; omega) (by rw [PyData.int.injEq]; omega)]
      refine ite2 (fun c2 => ?_) (fun c2 => ?_)
      · have c2 := of_decide_eq_true c2
        refine ⟨_, rfl, _, .inl (.inl (S4 _ _ g1)), fun p5 hp5 => ?_⟩
        rw [cut_less]
        have S5 := same_new (o := HO.lst (((ds.map (·.1)).map sV).dropLast)) hp5
        refine q p5 _ (s04.trans S5) (s04.free hp5) ?_
        rw [upd_same, ← closed_ok hE, closedT, if_pos ⟨nonn, by rw [hd]; show some d.2.2 = _; rw [c2]⟩, List.map_dropLast]
      · have c2 : ¬ d.2.2 = t.length := fun z => c2 (decide_eq_true z)
        refine q l1' H4 s04 fr1 ?_
        rw [S4 _ _ g1, ← closed_ok hE, closedT, if_neg ?_]
        rintro ⟨_, z⟩
        rw [hd] at z
        exact c2 (Option.some.inj z)
theorem SttX.same {ns : List Int} {H H' : Hp} {st : Addr} {b n : Int} (h : SttX K ns H st b n) (s : Same H H') : SttX K ns H' st b n := by
  obtain ⟨scr, e, c⟩ := h
  exact ⟨scr, s _ _ e, c.same s⟩
theorem SttX.kp {ns : List Int} {H H' : Hp} {st p : Addr} {b n : Int} {o : HO} (h : SttX K ns H st b n) (k : Kp p H H') (hp : H p = some o) (no : ∀ u l, o ≠ .frz u l) (ne : st ≠ p) : SttX K ns H' st b n := by
  obtain ⟨scr, e, c⟩ := h
  exact ⟨scr, k _ _ e ne, c.kp k hp no⟩
def dist (ns : List Int) (b n : Int) (j : Nat) : Prop := goodZ ns b (n + j) ∧ numZ (31 * ((n + j + 1) / 12)) 6 ≠ 0
def sp_law_pieces (K : PySem.W.Frag) : Sp := fun vs H Q _ => ∃ (ns : List Int) (st : Addr) (t : Tx), vs = [.ref st, .str (S t)] ∧ Stt K ns H st ∧ ns.length ≤ 63 ∧ t.length ≤ 1300 ∧ t.all sgn = true ∧
  ∀ (l : Addr) (ps : List Tx) H', H l = none → H' l = some (.lst (ps.map sV)) → ps.flatten = t → Stt K ns H' st → Kp st H H' → Q (.ref l) H'
theorem ok__law_pieces (T : Txt K mg a) : FnOk P w K mg base CX0 4 a.f__law_pieces a.d__law_pieces P__law_pieces (sp_law_pieces K) := by
  refine T.F__law_pieces.ok sc__law_pieces (fun vs H Q E h => ?_) (fun cdv A outer s H vs Q E hr h => ?_)
  · obtain ⟨ns, st, t, rfl, _⟩ := h
    rfl
  · obtain ⟨ns, st, t, rfl, hst, hns, ht, hs, q⟩ := h
    have G__law_next := ok_nextZ (P := P) (w := w) (base := base) T
    have B__law_next := bi__law_next T
    refine ⟨_,
(pss_cons (ps_par (i := 2) (j := 3) (by rfl) sc__law_pieces.nd rfl rfl (by decide) rfl rfl (pa_cons (pe_lst pa_nil) (pa_cons pe_int pa_nil)) (by rfl))
    (pss_cons (ps_while PassesOwn.never (pt_cmpR op_lt (pv 3) (pe_callB call_len_str (by rfl) T.b_len PySem.boot_len (pa_cons (pv 1) pa_nil)) (nomark _)) (pss_cons (ps_set (i := 4) sc__law_pieces.nd rfl (by first | exact Or.inl rfl | exact Or.inr rfl) (pe_ix ix_tup (pe_tup (pa_cons pe_int (pa_cons pe_int (pa_cons pe_int (pa_cons pe_int (pa_cons pe_int (pa_cons pe_int pa_nil))))))) (pe_call G__law_next (hr.mono (by decide)) rfl T.f__law_next.g T.f__law_next.k B__law_next .nil pass0 (pa_cons (pv 0) (pa_cons pe_int pa_nil))) (fun _ _ => rfl)))
    (pss_cons (ps_expr (pe_bm PySem.F.plainAttrs_list PySem.F.slot_list_append PySem.F.type_list_append mt_append (pv 2) (pa_cons (pe_slice sl_str (pv 1) (po_some (pv 3)) (po_some (pe_op op_add (pv 3) (pv 4)))) pa_nil)))
    (pss_one (ps_set (i := 3) sc__law_pieces.nd rfl (by first | exact Or.inl rfl | exact Or.inr rfl) (pe_op op_add (pv 3) (pv 4)))))))
    (pss_one (ps_ret (pe_op op_cat (pv 2) (pe_lst (pa_cons pe_str pa_nil)))))))
      , ?_⟩
    rw [show start N__law_pieces [V.ref st, V.str (S t)] = [some (.ref st), some (.str (S t)), none, none, none] from rfl]
    obtain ⟨scr, b, n0, e0, sc0, hb, hn0⟩ := hst
    walk_at "rd"
    intro l hl
    have S0 := same_new (o := HO.lst []) hl
    have f0 : upd H l (HO.lst []) l = some (HO.lst []) := upd_same
    have nls : l ≠ st := Ne.symm (ne_of_none e0 hl)
    generalize upd H l (HO.lst []) = H0 at *
    have ht' : t.length ≤ sizeLine := Nat.le_trans ht (by decide)
    obtain ⟨j0, hj0, hj0'⟩ := draw_near hns hb hn0
    refine while_rule (fun k σ H' => ∃ (i : Nat) (j : Nat) (n : Int) (v : Option V) (ps : List Tx), σ = [some (.ref st), some (.str (S t)), some (.ref l), some (.int i), v] ∧ k = (t.length - i) * 7000 + j ∧ SttX K ns H' st b n ∧ 0 ≤ n ∧ dist ns b n j ∧ Kp st H H' ∧ H' l = some (.lst (ps.map sV)) ∧
        ps.flatten = t.take i ∧ ps.length + k ≤ t.length * 7000 + 7000)
      _ ⟨0, j0, n0, none, [], rfl, rfl, ⟨scr, S0 _ _ e0, sc0.same S0⟩, hn0, hj0', S0.kp st, f0, rfl, by simp; omega⟩ ?_
    rintro k σ1 H2 R ⟨i, j, n, v, ps, rfl, rfl, hst, hn, hd, k2, f2, fl, le⟩ hT hF
    walk_at "rd"
    refine ⟨ht', ?_⟩
    by_cases c : i < t.length
    · rw [decide_eq_true (by omega)]
      refine hT _ ?_
      walk_at "rd"
      intro p hp
      have sp := same_new (o := HO.tup [V.int 0, V.int 1, V.int 2, V.int 7, V.int 30, V.int 300]) hp
      have ep : upd H2 p (HO.tup [V.int 0, V.int 1, V.int 2, V.int 7, V.int 30, V.int 300]) p = some (HO.tup [V.int 0, V.int 1, V.int 2, V.int 7, V.int 30, V.int 300]) := upd_same
      generalize upd H2 p (HO.tup [V.int 0, V.int 1, V.int 2, V.int 7, V.int 30, V.int 300]) = H3 at *
      have hst3 := hst.same sp
      refine ⟨ns, st, 6, b, n, rfl, hst3, hb, hn, by decide, fun z H4 z0 z6 zg hst4 k4 => ?_⟩
      have est3 : ∃ xs, H3 st = some (.lst xs) := by obtain ⟨_, e, _⟩ := hst3; exact ⟨_, e⟩
      obtain ⟨xst, est3⟩ := est3
      have ep4 := k4 _ _ ep (ne_of ep est3 fun z => by cases z)
      have f4 := k4 _ _ (sp _ _ f2) nls
      obtain ⟨m, em, hm⟩ : ∃ m : Nat, atI [V.int 0, V.int 1, V.int 2, V.int 7, V.int 30, V.int 300] z = some (V.int (m : Nat)) ∧ (z ≠ 0 → 1 ≤ m) := by
        obtain ⟨w, hw, rfl⟩ : ∃ w : Nat, w < 6 ∧ z = (w : Int) := ⟨z.toNat, by omega, by omega⟩
        match w, hw with
        | 0, _ => exact ⟨0, rfl, fun h => absurd rfl h⟩
        | 1, _ => exact ⟨1, rfl, fun _ => by decide⟩
        | 2, _ => exact ⟨2, rfl, fun _ => by decide⟩
        | 3, _ => exact ⟨7, rfl, fun _ => by decide⟩
        | 4, _ => exact ⟨30, rfl, fun _ => by decide⟩
        | 5, _ => exact ⟨300, rfl, fun _ => by decide⟩
        | n + 6, h => exact absurd h (by omega)
      refine ⟨_, z, rfl, .inl (.inl ep4), _, em, .inl ⟨rfl, _, .inl (.inl f4)⟩, _, rfl, ht', _, f4, by rw [List.length_map]; exact Nat.lt_of_le_of_lt (show ps.length ≤ 10000000 by omega) (by decide), _, rfl, ?_⟩
      rw [show ((i : Int) + (m : Nat)) = ((i + m : Nat) : Int) by omega, cutS_gen (by omega)]
      obtain ⟨j1, hj1, hj1'⟩ := draw_near hns hb (show 0 ≤ n + 1 by omega)
      have hst5 := hst4.kp (kp_upd (p := l) (H := H4) (o := HO.lst (ps.map sV ++ [V.str (S (cutP t i (i + m)))]))) f4 (fun _ _ z => by cases z) (Ne.symm nls)
      have k5 : Kp st H (upd H4 l (HO.lst (ps.map sV ++ [V.str (S (cutP t i (i + m)))]))) := ((k2.trans (sp.kp st)).trans k4).mut hl
      suffices fin : ∃ j' : Nat, dist ns b (n + 1) j' ∧ (t.length - (i + m)) * 7000 + j' < (t.length - i) * 7000 + j by
        obtain ⟨j', d', lt⟩ := fin
        exact ⟨_, lt, i + m, rfl, j', rfl, n + 1, hst5, by omega, d', k5, ps ++ [cutP t i (i + m)], by rw [List.map_append]; rfl, by rw [List.flatten_append, fl, take_cut]; simp, by rw [List.length_append, List.length_cons, List.length_nil]; omega⟩
      by_cases hm0 : 1 ≤ m
      · exact ⟨j1, hj1', by omega⟩
      · have z00 : z = 0 := Classical.byContradiction fun h => hm0 (hm h)
        have m0 : m = 0 := by omega
        cases j with
        | zero =>
          exfalso
          obtain ⟨d1, d2⟩ := hd
          have e1 : n + ((0 : Nat) : Int) = n := by omega
          rw [e1] at d1 d2
          exact d2 (by rw [← zg d1]; exact z00)
        | succ j =>
          refine ⟨j, ?_, by rw [m0]; omega⟩
          unfold dist at hd ⊢
          rw [show n + ((j + 1 : Nat) : Int) = n + 1 + (j : Nat) by omega] at hd
          exact hd
    · rw [decide_eq_false (by omega)]
      refine hF _ ?_
      walk_at "rd"
      intro p hp
      have sp := same_new (o := HO.lst [V.str (S [])]) hp
      generalize upd H2 p (HO.lst [V.str (S [])]) = H3 at *
      refine ⟨_, sp _ _ f2, by rw [List.length_map]; exact Nat.le_trans (show ps.length + 1 ≤ 10000001 by omega) (by decide), fun p5 hp5 => ?_⟩
      have s5 := same_new (o := HO.lst (ps.map sV ++ [V.str (S [])])) hp5
      obtain ⟨scr', e', c'⟩ := (hst.same sp).same s5
      refine q p5 (ps ++ [[]]) _ ?_ (by rw [upd_same, List.map_append]; rfl) (by rw [List.flatten_append, fl, List.take_of_length_le (by omega)]; simp) ⟨scr', b, n, e', c', hb, hn⟩ ((k2.trans (sp.kp st)).trans (s5.kp st))
      obtain ⟨_, e2, _⟩ := hst
      exact kp_free k2 e2 (sp.free hp5)
end
end Qw

set_option Elab.async false
set_option linter.all false
set_option maxRecDepth 100000
set_option maxHeartbeats 4000000
set_option pp.deepTerms true
set_option pp.maxSteps 100000
namespace Qw
open PySem L2 LamX
local macro_rules | `(tactic| walk_at "rd") => `(tactic| simp only [iEnum, iRng3, tRevL, rSlS, rSlL, gSub, rSetL, wipe, List.map_cons, List.map_nil, rAll, rAny, rIsi, tM1, tM0, iZipLT, iZip, iRng2, tLenSetS, rListStr, rMulS, rRep, rCntB, tRevS, rNeD, rEqD, tSeq, tNext, tAsg, tRet, tRetN, tDrop, tIfS, sFld, sFldAug, tVar, tC, tOp, tUn, tTest, tB, tAnd, tOr, tNot, tAndV, tOrV, tNotV, tIf, tTup, tLst, tCons, tNil, tCB, tCall, tMeth, tMake, tFld, rI, rI0, rU, rEq, rNe, rCat, gName, gTup, gCons, gNil, tPar, tPar3, tBM, tBM0, rAppend, rExtend, rPopAt, rIxL, rIxT, rIxS, tSl, rSlS, rSlL, tPart, tNoPart, iStr, iTup, iList, iRng1, tAug, ipI, L2.rAdd, L2.rSub, L2.rAddS, tChain, rIsB, rNotB, scal_ss, scal_ii, scal_bb, scal_nn, scal_in, scal_ni, tYes,
  cx_K, cx_N, List.getElem?_cons_zero, List.getElem?_cons_succ, List.set_cons_zero, List.set_cons_succ, List.nil_append, List.cons_append, List.append_nil, List.length_cons, List.length_nil, Nat.zero_add,
  Option.some.injEq, V.ref.injEq, V.int.injEq, V.str.injEq, V.bl.injEq, HO.ins.injEq, HO.lst.injEq, HO.tup.injEq, List.cons.injEq, exists_eq_left, exists_eq_left', exists_eq_right, exists_eq_right', and_true, true_and, exists_and_left, exists_and_right, and_assoc, decide_eq_true_eq, Bool.not_eq_true', decide_eq_false_iff_not, reduceCtorEq, exists_const, forall_const, if_true, if_false, false_and, and_false, ite_true, ite_false, Bool.true_eq_false, Bool.false_eq_true, Nat.reduceLeDiff, Nat.reduceAdd, small_line, small_lt, upd_ne, ne_eq, not_false_eq_true, Nat.zero_le, Prod.mk.injEq, upd_same, upd_upd, S_tl, S_len, S_app, S_one, S_inj,
  lk_breaks, lk_hard, lk_soft, lk_bend, lk_note, lk_rules, lk_state, lk_bent, lk_word, lk_begun, lk_opened, lk_place, pt_state, pt_bent, pt_word, pt_wordS, pt_wordN, pt_begun, pt_opened, pt_place, pt_place1, len_mf, litv_empty, litv_note, litv_nl, mf_inj, rf_inj, lkn_begin, lkn_ended, lkn_plain, lkn_quoted, lkn_step, lkn_fault, lkn_key, lkn_told, lkn_quotes, lkn_special, pt_open1, not_true_eq_false, not_false_eq_true])
local macro_rules | `(tactic| walk_at "rdh") => `(tactic| simp only [iEnum, iRng3, tRevL, rSlS, rSlL, gSub, rSetL, wipe, List.map_cons, List.map_nil, rAll, rAny, rIsi, tM1, tM0, iZipLT, iZip, iRng2, tLenSetS, rListStr, rMulS, rRep, rCntB, tRevS, rNeD, rEqD, tSeq, tNext, tAsg, tRet, tRetN, tDrop, tIfS, sFld, sFldAug, tVar, tC, tOp, tUn, tTest, tB, tAnd, tOr, tNot, tAndV, tOrV, tNotV, tIf, tTup, tLst, tCons, tNil, tCB, tCall, tMeth, tMake, tFld, rI, rI0, rU, rEq, rNe, rCat, gName, gTup, gCons, gNil, tPar, tPar3, tBM, tBM0, rAppend, rExtend, rPopAt, rIxL, rIxT, rIxS, tSl, rSlS, rSlL, tPart, tNoPart, iStr, iTup, iList, iRng1, tAug, ipI, L2.rAdd, L2.rSub, L2.rAddS, tChain, rIsB, rNotB, scal_ss, scal_ii, scal_bb, scal_nn, scal_in, scal_ni, tYes,
  cx_K, cx_N, List.getElem?_cons_zero, List.getElem?_cons_succ, List.set_cons_zero, List.set_cons_succ, List.nil_append, List.cons_append, List.append_nil, List.length_cons, List.length_nil, Nat.zero_add,
  Option.some.injEq, V.ref.injEq, V.int.injEq, V.str.injEq, V.bl.injEq, HO.ins.injEq, HO.lst.injEq, HO.tup.injEq, List.cons.injEq, exists_eq_left, exists_eq_left', exists_eq_right, exists_eq_right', and_true, true_and, exists_and_left, exists_and_right, and_assoc, decide_eq_true_eq, Bool.not_eq_true', decide_eq_false_iff_not, reduceCtorEq, exists_const, forall_const, if_true, if_false, false_and, and_false, ite_true, ite_false, Bool.true_eq_false, Bool.false_eq_true, Nat.reduceLeDiff, Nat.reduceAdd, small_line, small_lt, upd_ne, ne_eq, not_false_eq_true, Nat.zero_le, Prod.mk.injEq, upd_same, upd_upd, S_tl, S_len, S_app, S_one, S_inj,
  lk_breaks, lk_hard, lk_soft, lk_bend, lk_note, lk_rules, lk_state, lk_bent, lk_word, lk_begun, lk_opened, lk_place, pt_state, pt_bent, pt_word, pt_wordS, pt_wordN, pt_begun, pt_opened, pt_place, pt_place1, len_mf, litv_empty, litv_note, litv_nl, mf_inj, rf_inj, lkn_begin, lkn_ended, lkn_plain, lkn_quoted, lkn_step, lkn_fault, lkn_key, lkn_told, lkn_quotes, lkn_special, pt_open1, not_true_eq_false, not_false_eq_true, *])
local macro_rules | `(tactic| walk_at "pl") => `(tactic| (first | decide | (refine Nat.lt_of_le_of_lt (length_putF _ _ _) ?_; repeat (first | decide | refine pl2 ?_))))
local macro_rules | `(tactic| walk_at "al") => `(tactic| (intro p hp; generalize hH : upd _ p _ = H1; obtain ⟨S, e⟩ := gen_new hH hp; clear hH))
/-- all but some stay -/
def Kx (L : List Addr) (H H' : Hp) : Prop := ∀ b o, H b = some o → b ∉ L → H' b = some o
theorem Kx.refl {L : List Addr} {H : Hp} : Kx L H H := fun _ _ e _ => e
theorem Kx.trans {L : List Addr} {H H1 H2 : Hp} (a : Kx L H H1) (b : Kx L H1 H2) : Kx L H H2 := fun c o e n => b c o (a c o e n) n
theorem Kx.mono {L M : List Addr} {H H' : Hp} (a : Kx L H H') (s : ∀ x ∈ L, x ∈ M) : Kx M H H' := fun c o e n => a c o e fun z => n (s c z)
theorem _root_.L2.Same.kx {H H' : Hp} (L : List Addr) (s : Same H H') : Kx L H H' := fun b o e _ => s b o e
theorem Kp.kx {p : Addr} {H H' : Hp} (L : List Addr) (k : Kp p H H') (h : p ∈ L) : Kx L H H' := fun b o e n => k b o e fun z => n (z ▸ h)
theorem K2.kx {p q : Addr} {H H' : Hp} (L : List Addr) (k : K2 p q H H') (h : p ∈ L) (h2 : q ∈ L) : Kx L H H' := fun b o e n => k b o e (fun z => n (z ▸ h)) (fun z => n (z ▸ h2))
/-- what is new may change -/
theorem Kx.fresh {L M : List Addr} {H H1 H2 : Hp} (a : Kx L H H1) (b : Kx (M ++ L) H1 H2) (n : ∀ x ∈ M, H x = none) : Kx L H H2 := fun c o e m => b c o (a c o e m) fun z => by
  rcases List.mem_append.mp z with z | z
  · rw [n c z] at e; cases e
  · exact m z
theorem Kx.mut {L : List Addr} {q : Addr} {H H' : Hp} {o : HO} (a : Kx L H H') (h : H q = none) : Kx L H (upd H' q o) := fun b u e n => by
  rw [upd_ne fun z => by rw [z, h] at e; cases e]
  exact a b u e n
theorem Kx.free {L : List Addr} {H H' : Hp} {x : Addr} (k : Kx L H H') (h : H' x = none) (n : ∀ b ∈ L, ∃ o, H' b = some o) : H x = none := by
  cases e : H x with
  | none => rfl
  | some o =>
    by_cases m : x ∈ L
    · obtain ⟨o, e2⟩ := n x m
      rw [h] at e2; cases e2
    · have := k x o e m
      rw [h] at this; cases this
theorem TabS.kx {L : List Addr} {H H' : Hp} {P : Addr} {q : Str} (t : TabS H P q) (k : Kx L H H') (n : ∀ b ∈ L, ∃ o, H b = some o ∧ (∀ ps, o ≠ .tbl ps) ∧ ∀ c q, o ≠ CodeO c q) : TabS H' P q := by
  obtain ⟨ps, h1, h2, h3⟩ := t
  refine ⟨ps, k _ _ h1 fun z => ?_, h2, fun pos cv hc => ?_⟩
  · obtain ⟨o, e, e2, _⟩ := n _ z
    rw [h1] at e
    exact e2 _ (Option.some.inj e).symm
  · obtain ⟨c, e1, e2⟩ := h3 pos cv hc
    refine ⟨c, e1, k _ _ e2 fun z => ?_⟩
    obtain ⟨o, e, _, e3⟩ := n _ z
    rw [e2] at e
    exact e3 _ _ (Option.some.inj e).symm
theorem ins_ok {c dx : Addr} {fs : List (Str × V)} : (∀ ps, HO.ins c dx fs ≠ .tbl ps) ∧ ∀ d q, HO.ins c dx fs ≠ CodeO d q := ⟨fun _ z => (by cases z), fun d q z => (by unfold CodeO at z; cases z)⟩
theorem lst_ok {xs : List V} : (∀ ps, HO.lst xs ≠ .tbl ps) ∧ ∀ d q, HO.lst xs ≠ CodeO d q := ⟨fun _ z => (by cases z), fun d q z => (by unfold CodeO at z; cases z)⟩
section
variable {P : Program} {w : World} {K : PySem.W.Frag} {mg : Str → Option Value} {base : Heap} {a : Ad}
theorem clsOf_kF (T : Txt K mg a) (x : Told) : PySem.W.kitOne K (.ref (clsOf a x)) (.ref a.c_Fault) = some (!isOk x) := by
  cases x
  · exact T.k_FF
  · exact T.k_WF
theorem lk_Fp' (v : V) : List.lookup ("place" : Str) ([("place", v)] : List (Str × V)) = some v := by kernel_rfl
theorem lk_WFw' (p q : Addr) : List.lookup ("words" : Str) (WF p q) = some (.ref p) := by kernel_rfl
theorem lk_WFp' (p q : Addr) : List.lookup ("places" : Str) (WF p q) = some (.ref q) := by kernel_rfl
def sp_law_end_right (a : Ad) : Sp := fun vs H Q _ => ∃ (tp p dx mp dm fl rp dr : Addr) (r : RS) (t : Tx), vs = [.ref tp, .str (S t), .ref p] ∧ H tp = some (.tup (RS.tup r)) ∧ r.Ok ∧ t.length ≤ 1300 ∧ t.all sgn = true ∧ Spl a H p dx mp dm fl rp dr r t ∧ TabS H a.p__law_refused qRef ∧
  ∀ H', Kx [p, mp, a.p__law_refused] H H' → TabS H' a.p__law_refused qRef → Q (.bl true) H'
theorem ok__law_end_right (T : Txt K mg a) (TB : TabB base mg a.k__law_refused a.p__law_refused) : FnOk P w K mg base CX0 7 a.f__law_end_right a.d__law_end_right P__law_end_right (sp_law_end_right a) := by
  refine T.F__law_end_right.ok sc__law_end_right (fun vs H Q E h => ?_) (fun cdv A outer s H vs Q E hr h => ?_)
  · obtain ⟨tp, p, dx, mp, dm, fl, rp, dr, r, t, rfl, _⟩ := h
    rfl
  · obtain ⟨tp, p, dx, mp, dm, fl, rp, dr, r, t, rfl, ht, ok, hl, hs, hS, hT, q⟩ := h
    have G__law_refused := ok__law_refused (P := P) (w := w) (base := base) T TB
    have B__law_refused := bi__law_refused T
    have G__law_read := ok__law_read (P := P) (w := w) (base := base) T
    have B__law_read := bi__law_read T
    have G_Splitter_end := ok_Splitter_end (P := P) (w := w) (base := base) T
    have B_Splitter_end := bi_Splitter_end T
    refine ⟨_,
(pss_cons (ps_par (i := 3) (j := 4) (by rfl) sc__law_end_right.nd rfl rfl (by decide) rfl rfl (pa_cons (pe_meth0 (pv 2) T.c_Splitter.cl T.m_Splitter_end G_Splitter_end (hr.mono (by decide)) B_Splitter_end .nil pass0) (pa_cons (pe_call G__law_read (hr.mono (by decide)) rfl T.f__law_read.g T.f__law_read.k B__law_read .nil pass0 (pa_cons (pv 0) (pa_cons (pv 1) pa_nil))) pa_nil)) (by rfl))
    (pss_cons (ps_if (pt_val (pe_callB (call_isi) (by rfl) T.b_isinstance (by decide +kernel) (pa_cons (pv 4) (pa_cons (pe_bltn (v := .ty "tuple") (u := .type "tuple") rfl T.b_tuple (by decide +kernel) rfl) pa_nil)))) (pss_cons (ps_if (PW.pt (pw_or (pt_not (pt_val (pe_callB (call_isi) (by rfl) T.b_isinstance (by decide +kernel) (pa_cons (pv 3) (pa_cons (pe_glob (v := .ref a.c_Words) rfl T.c_Words.g rfl) pa_nil))))) (pw_or1 (pt_cmpR (op_neD hr.units) (pe_tup (pa_cons (pe_fld (pv 3) rfl) (pa_cons (pe_fld (pv 3) rfl) pa_nil))) (pv 4) (nomark _))))) (pss_one (ps_ret pe_bl)) pss_nil)
    (pss_one (ps_expr (pe_bm PySem.F.plainAttrs_list PySem.F.slot_list_append PySem.F.type_list_append mt_append (pe_fld (pv 3) rfl) (pa_cons pe_str pa_nil))))) (pss_one (ps_if (PW.pt (pw_or (pt_not (pt_val (pe_callB (call_isi) (by rfl) T.b_isinstance (by decide +kernel) (pa_cons (pv 3) (pa_cons (pe_glob (v := .ref a.c_Fault) rfl T.c_Fault.g rfl) pa_nil))))) (pw_or1 (pt_cmpR (op_neD hr.units) (pe_fld (pv 3) rfl) (pv 4) (nomark _))))) (pss_one (ps_ret pe_bl)) pss_nil)))
    (pss_one (ps_ret (pe_and (pe_call G__law_refused (hr.mono (by decide)) rfl T.f__law_refused.g T.f__law_refused.k B__law_refused .nil pass0 (pa_cons (pv 2) pa_nil)) (pe_one (pe_call G__law_refused (hr.mono (by decide)) rfl T.f__law_refused.g T.f__law_refused.k B__law_refused .nil pass0 (pa_cons (pv 2) pa_nil))))))))
      , ?_⟩
    rw [show start N__law_end_right [V.ref tp, V.str (S t), V.ref p] = [some (.ref tp), some (.str (S t)), some (.ref p), none, none] from rfl]
    walk_at "rd"
    refine ⟨_, _, hS.h1, lkn_end _ _ _, p, dx, mp, dm, fl, rp, dr, r, t, rfl, hS, by omega, fun q1 H1 hq1 an hp1 k1 => ?_⟩
    have ht1 := k1 _ _ ht (ne_of ht hS.h1 fun z => by cases z) (ne_of ht hS.h2 fun z => by cases z)
    refine ⟨tp, r, t, rfl, ht1, ok, by omega, fun v2 H2 s2 lr2 => ?_⟩
    rw [← readAll_lr ok _ rp] at lr2
    obtain ⟨ty, o1, o2⟩ := lres_ty (K := K) lr2
    have an2 := an.ans.same s2
    have kx2 : Kx [p, mp, a.p__law_refused] H H2 := (k1.kx _ (by simp) (by simp)).trans (s2.kx _)
    have hT1 : TabS H1 a.p__law_refused qRef := Qw.TabS.kx (L := [p, mp]) hT (k1.kx _ (by simp) (by simp)) fun b hb => by
      rcases List.mem_cons.mp hb with rfl | hb
      · exact ⟨_, hS.h1, ins_ok⟩
      · rw [List.mem_singleton.mp hb]; exact ⟨_, hS.h2, ins_ok⟩
    have hT2 := hT1.ext s2
    have ov2 : Over a H2 p := ⟨dx, mp, fl, s2 _ _ hp1⟩
    have fin : ∀ H3, Kx [p, mp, a.p__law_refused] H H3 → TabS H3 a.p__law_refused qRef → Over a H3 p → sp_law_refused2 a [V.ref p] H3 (fun x H1 => ∃ c, x = V.bl c ∧ if c = true then sp_law_refused2 a [V.ref p] H1 Q E0 else Q (V.bl false) H1) E0 := fun H3 k3 t3 o3 => by
      obtain ⟨dx3, mp3, fl3, e3⟩ := id o3
      refine ⟨p, rfl, o3, t3, fun H4 k4 t4 => ⟨true, rfl, ?_⟩⟩
      have e4 := k4 _ _ e3 (ne_tab t3 e3 fun _ z => by cases z)
      have k34 := k3.trans (k4.kx [p, mp, a.p__law_refused] (by simp))
      show sp_law_refused2 a [V.ref p] H4 Q E0
      exact ⟨p, rfl, ⟨_, _, _, e4⟩, t4, fun H5 k5 t5 => q H5 (k34.trans (k5.kx _ (by simp))) t5⟩
    have cW := T.c_Words.cl
    have nW := T.n_Words_words
    have nP := T.n_Words_places
    have cF := T.c_Fault.cl
    have nF := T.n_Fault_place
    refine ⟨ty, _, .ty _, o1, _, o2, ?_⟩
    cases hE : readAll r t rp with
    | error n =>
      rw [hE] at lr2 an2
      refine ite2 (fun c => by cases c) (fun _ => ?_)
      cases lr2
      have hb := readAll_bd r t rp
      rw [hE] at hb
      have hb : n ≤ t.length := hb
      refine ⟨_, _, .own _, an2.ty T, _, clsOf_kF T _, ite2 (fun c => by cases c) (fun _ => ?_)⟩
      obtain ⟨d1, a1⟩ := an2
      refine ⟨_, rfl, _, _, _, a1, cF, nF, _, lk_Fp' _, _, .int _, _, .int _, rfl, rfl, ?_⟩
      rw [eqv_dec (p := True) (by simp only [tame, decide_eq_true_eq]; omega) (by simp only [tame, decide_eq_true_eq]; omega) (by simp)]
      exact ite2 (fun c => by simp at c) (fun _ => fin H2 kx2 hT2 ov2)
    | ok ds =>
      rw [hE] at lr2 an2
      refine ite2 (fun _ => ?_) (fun c => absurd rfl c)
      obtain ⟨t0, l1', l2', ys, rfl, fr0, fr1, fr2, ne12, g0, g1, g2, g3⟩ := lr2
      have t3 := told3_ok1 (r := r) (rp := rp) (ok8_of hs) (show t.length ≤ 10000 by omega)
      rw [hE] at t3
      have tt := tD_tame t3
      refine ⟨_, _, .own _, an2.ty T, _, clsOf_k T _, ite2 (fun c => by cases c) (fun _ => ?_)⟩
      rw [hE] at an
      obtain ⟨d1, m1, m2, zs, a1', a2', a3', a4', fm1, fm2, n12⟩ := an
      have a1 := s2 _ _ a1'
      have a2 := s2 _ _ a2'
      have a3 := s2 _ _ a3'
      have a4 : Paired (Pls H2) zs (ds.map fun d => ((d.2.1 : Int), (d.2.2 : Int))) := Paired.mapP a4' fun _ _ z => z.mono fun b xs => s2 b _
      refine ⟨_, rfl, _, _, _, a1, cW, nW, _, lk_WFw' _ _, _, rfl, _, _, _, a1, cW, nP, _, lk_WFp' _ _, fun p1 hp1 => ?_⟩
      have S3 := same_new (o := HO.tup [V.ref m1, V.ref m2]) hp1
      have e3 : upd H2 p1 (HO.tup [V.ref m1, V.ref m2]) p1 = some (HO.tup [V.ref m1, V.ref m2]) := upd_same
      generalize upd H2 p1 (HO.tup [V.ref m1, V.ref m2]) = H3 at *
      have mono : ∀ {xs : List V} {zs : List (Int × Int)}, Paired (Pls H2) xs zs → Paired (Pls H3) xs zs := fun q => Paired.mapP q fun _ _ z => z.mono fun b xs => S3 b _
      refine ⟨tD (told3 (.ok ds)), .tup (.inl (.inl e3)) (.cons (dp_ws (.inl (.inl (S3 _ _ a2)))) (.cons (dp_ps (.inl (.inl (S3 _ _ a3))) (mono a4)) .nil)), tD (told3 (.ok ds)), .tup (.inl (.inl (S3 _ _ g0))) (.cons (dp_ws (.inl (.inl (S3 _ _ g1)))) (.cons (dp_ps (.inl (.inl (S3 _ _ g2))) (mono g3)) .nil)), shaped_of tt (Nat.le_trans (tD_depth _) (by decide)), shaped_of tt (Nat.le_trans (tD_depth _) (by decide)), ?_⟩
      rw [eqv_dec (p := True) tt tt (by simp)]
      refine ite2 (fun c => by simp at c) (fun _ => ?_)
      refine ⟨_, rfl, _, _, _, S3 _ _ a1, cW, nW, _, lk_WFw' _ _, .inl ⟨rfl, _, .inl (.inl (S3 _ _ a2))⟩, _, rfl, _, S3 _ _ a2, by rw [List.length_map, List.length_map]; exact Nat.lt_of_le_of_lt (show ds.length ≤ 2001 from (bounds hE (by omega)).2) (by decide), ?_⟩
      obtain ⟨dx4, mp4, fl4, e4⟩ := ov2
      exact fin _ ((kx2.trans (S3.kx _)).mut fm1) (TabS.lst (hT2.ext S3) (S3 _ _ a2)) ⟨dx4, mp4, fl4, (upd_ne (ne_of (S3 _ _ e4) (S3 _ _ a2) fun z => by cases z)).trans (S3 _ _ e4)⟩
end
end Qw

set_option Elab.async false
set_option linter.all false
set_option maxRecDepth 100000
set_option maxHeartbeats 4000000
namespace Qw
open PySem L2 LamX
local macro_rules | `(tactic| walk_at "rd") => `(tactic| simp only [iEnum, iRng3, tRevL, rSlS, rSlL, gSub, rSetL, wipe, List.map_cons, List.map_nil, rAll, rAny, rIsi, tM1, tM0, iZipLT, iZip, iRng2, tLenSetS, rListStr, rMulS, rRep, rCntB, tRevS, rNeD, rEqD, tSeq, tNext, tAsg, tRet, tRetN, tDrop, tIfS, sFld, sFldAug, tVar, tC, tOp, tUn, tTest, tB, tAnd, tOr, tNot, tAndV, tOrV, tNotV, tIf, tTup, tLst, tCons, tNil, tCB, tCall, tMeth, tMake, tFld, rI, rI0, rU, rEq, rNe, rCat, gName, gTup, gCons, gNil, tPar, tPar3, tBM, tBM0, rAppend, rExtend, rPopAt, rIxL, rIxT, rIxS, tSl, rSlS, rSlL, tPart, tNoPart, iStr, iTup, iList, iRng1, tAug, ipI, L2.rAdd, L2.rSub, L2.rAddS, tChain, rIsB, rNotB, scal_ss, scal_ii, scal_bb, scal_nn, scal_in, scal_ni, tYes,
  cx_K, cx_N, List.getElem?_cons_zero, List.getElem?_cons_succ, List.set_cons_zero, List.set_cons_succ, List.nil_append, List.cons_append, List.append_nil, List.length_cons, List.length_nil, Nat.zero_add,
  Option.some.injEq, V.ref.injEq, V.int.injEq, V.str.injEq, V.bl.injEq, HO.ins.injEq, HO.lst.injEq, HO.tup.injEq, List.cons.injEq, exists_eq_left, exists_eq_left', exists_eq_right, exists_eq_right', and_true, true_and, exists_and_left, exists_and_right, and_assoc, decide_eq_true_eq, Bool.not_eq_true', decide_eq_false_iff_not, reduceCtorEq, exists_const, forall_const, if_true, if_false, false_and, and_false, ite_true, ite_false, Bool.true_eq_false, Bool.false_eq_true, Nat.reduceLeDiff, Nat.reduceAdd, small_line, small_lt, upd_ne, ne_eq, not_false_eq_true, Nat.zero_le, Prod.mk.injEq, upd_same, upd_upd, S_tl, S_len, S_app, S_one, S_inj,
  lk_breaks, lk_hard, lk_soft, lk_bend, lk_note, lk_rules, lk_state, lk_bent, lk_word, lk_begun, lk_opened, lk_place, pt_state, pt_bent, pt_word, pt_wordS, pt_wordN, pt_begun, pt_opened, pt_place, pt_place1, len_mf, litv_empty, litv_note, litv_nl, mf_inj, rf_inj, lkn_begin, lkn_ended, lkn_plain, lkn_quoted, lkn_step, lkn_fault, lkn_key, lkn_told, lkn_quotes, lkn_special, pt_open1, not_true_eq_false, not_false_eq_true])
local macro_rules | `(tactic| walk_at "rdh") => `(tactic| simp only [iEnum, iRng3, tRevL, rSlS, rSlL, gSub, rSetL, wipe, List.map_cons, List.map_nil, rAll, rAny, rIsi, tM1, tM0, iZipLT, iZip, iRng2, tLenSetS, rListStr, rMulS, rRep, rCntB, tRevS, rNeD, rEqD, tSeq, tNext, tAsg, tRet, tRetN, tDrop, tIfS, sFld, sFldAug, tVar, tC, tOp, tUn, tTest, tB, tAnd, tOr, tNot, tAndV, tOrV, tNotV, tIf, tTup, tLst, tCons, tNil, tCB, tCall, tMeth, tMake, tFld, rI, rI0, rU, rEq, rNe, rCat, gName, gTup, gCons, gNil, tPar, tPar3, tBM, tBM0, rAppend, rExtend, rPopAt, rIxL, rIxT, rIxS, tSl, rSlS, rSlL, tPart, tNoPart, iStr, iTup, iList, iRng1, tAug, ipI, L2.rAdd, L2.rSub, L2.rAddS, tChain, rIsB, rNotB, scal_ss, scal_ii, scal_bb, scal_nn, scal_in, scal_ni, tYes,
  cx_K, cx_N, List.getElem?_cons_zero, List.getElem?_cons_succ, List.set_cons_zero, List.set_cons_succ, List.nil_append, List.cons_append, List.append_nil, List.length_cons, List.length_nil, Nat.zero_add,
  Option.some.injEq, V.ref.injEq, V.int.injEq, V.str.injEq, V.bl.injEq, HO.ins.injEq, HO.lst.injEq, HO.tup.injEq, List.cons.injEq, exists_eq_left, exists_eq_left', exists_eq_right, exists_eq_right', and_true, true_and, exists_and_left, exists_and_right, and_assoc, decide_eq_true_eq, Bool.not_eq_true', decide_eq_false_iff_not, reduceCtorEq, exists_const, forall_const, if_true, if_false, false_and, and_false, ite_true, ite_false, Bool.true_eq_false, Bool.false_eq_true, Nat.reduceLeDiff, Nat.reduceAdd, small_line, small_lt, upd_ne, ne_eq, not_false_eq_true, Nat.zero_le, Prod.mk.injEq, upd_same, upd_upd, S_tl, S_len, S_app, S_one, S_inj,
  lk_breaks, lk_hard, lk_soft, lk_bend, lk_note, lk_rules, lk_state, lk_bent, lk_word, lk_begun, lk_opened, lk_place, pt_state, pt_bent, pt_word, pt_wordS, pt_wordN, pt_begun, pt_opened, pt_place, pt_place1, len_mf, litv_empty, litv_note, litv_nl, mf_inj, rf_inj, lkn_begin, lkn_ended, lkn_plain, lkn_quoted, lkn_step, lkn_fault, lkn_key, lkn_told, lkn_quotes, lkn_special, pt_open1, not_true_eq_false, not_false_eq_true, *])
local macro_rules | `(tactic| walk_at "pl") => `(tactic| (first | decide | (refine Nat.lt_of_le_of_lt (length_putF _ _ _) ?_; repeat (first | decide | refine pl2 ?_))))
local macro_rules | `(tactic| walk_at "al") => `(tactic| (intro p hp; generalize hH : upd _ p _ = H1; obtain ⟨S, e⟩ := gen_new hH hp; clear hH))
theorem Spl.kx {a : Ad} {L : List Addr} {H H' : Hp} {p dx mp dm fl rp dr : Addr} {r : RS} {u : Tx} (h : Spl a H p dx mp dm fl rp dr r u) (k : Kx L H H') (n : p ∉ L ∧ mp ∉ L ∧ fl ∉ L ∧ rp ∉ L) (nt : ∀ b ∈ L, ∀ xs, H b ≠ some (.tup xs)) : Spl a H' p dx mp dm fl rp dr r u := by
  obtain ⟨xs, x1, x2⟩ := h.h3
  exact ⟨k _ _ h.h1 n.1, k _ _ h.h2 n.2.1, ⟨xs, k _ _ x1 n.2.2.1, x2.mono fun b ys e => k _ _ e fun z => nt b z ys e⟩, k _ _ h.h4 n.2.2.2⟩
theorem Spl.lst {a : Ad} {H : Hp} {p dx mp dm fl rp dr l : Addr} {r : RS} {u : Tx} {xs ys : List V} (h : Spl a H p dx mp dm fl rp dr r u) (e : H l = some (.lst xs)) (n : l ≠ fl) : Spl a (upd H l (.lst ys)) p dx mp dm fl rp dr r u :=
  h.kx (L := [l]) (fun b o e' m => (upd_ne fun z => m (List.mem_singleton.mpr z)).trans e') ⟨fun z => ne_of h.h1 e (fun z => by cases z) (List.mem_singleton.mp z), fun z => ne_of h.h2 e (fun z => by cases z) (List.mem_singleton.mp z), fun z => n (List.mem_singleton.mp z).symm, fun z => ne_of h.h4 e (fun z => by cases z) (List.mem_singleton.mp z)⟩ fun b hb xs z => by
    rw [List.mem_singleton.mp hb, e] at z; cases z
theorem ended_ok {r : RS} {rp : Addr} {t : Tx} (h : t.all sgn = true) : tame (wsD (endedT r rp t)) = true := by
  refine wsD_tame fun x hx => ?_
  obtain ⟨d, hd, rfl⟩ := List.mem_map.mp hx
  have z : (MS.zero rp).Bd [] := ⟨fun w e => (by cases e), Nat.le_refl _, Nat.le_refl _⟩
  have := (MS.Bd.run r t z (MS.Ok.zero rp)).2 d hd
  exact fun c hc => ok8_of h c (this.1 c hc)
theorem ended_len {r : RS} {rp : Addr} {t : Tx} : (endedT r rp t).length ≤ t.length := by
  rw [endedT, List.length_map]
  exact MS.out_run r t (MS.zero rp)
theorem flat_take {ps : List Tx} {j : Nat} {u : Tx} (h : ps[j]? = some u) : (ps.take (j + 1)).flatten = (ps.take j).flatten ++ u ∧ (ps.take j).flatten.length + u.length ≤ ps.flatten.length ∧ ∀ c ∈ u, c ∈ ps.flatten := by
  have e : (ps.take (j + 1)).flatten = (ps.take j).flatten ++ u := by rw [take_at h, List.flatten_append]; simp
  refine ⟨e, ?_, fun c hc => List.mem_flatten.mpr ⟨u, List.mem_of_getElem? h, hc⟩⟩
  have e2 : ps.flatten = (ps.take (j + 1)).flatten ++ (ps.drop (j + 1)).flatten := by rw [← List.flatten_append, List.take_append_drop]
  rw [e2, e, List.length_append, List.length_append]
  omega
theorem ended_app {r : RS} {rp : Addr} {u t : Tx} : (endedT r rp u).map sV ++ ((runZ r rp u).1.run r t).2.map (fun d => V.str (S d.1)) = (endedT r rp (u ++ t)).map sV := by
  unfold endedT
  rw [MS.run_app, List.map_append, List.map_append, List.map_map, List.map_map]
  rfl
theorem Stt.kx {K : PySem.W.Frag} {ns : List Int} {H H' : Hp} {st : Addr} {L : List Addr} (h : Stt K ns H st) (k : Kx L H H') (n : st ∉ L) (nf : ∀ b ∈ L, ∀ u l, H b ≠ some (.frz u l)) : Stt K ns H' st := by
  obtain ⟨scr, b, m, e, c, hb, hm⟩ := h
  refine ⟨scr, b, m, k _ _ e n, c.imp (fun ⟨o, e⟩ => ⟨o, k _ _ e fun z => nf _ z _ _ e⟩) id, hb, hm⟩
theorem Spl.ins {a : Ad} {H : Hp} {p dx mp dm fl rp dr : Addr} {r : RS} {u : Tx} (h : Spl a H p dx mp dm fl rp dr r u) : (∃ o, H mp = some o ∧ (∀ ps, o ≠ .tbl ps) ∧ (∀ c q, o ≠ CodeO c q) ∧ (∀ u l, o ≠ .frz u l) ∧ ∀ xs, o ≠ .tup xs) ∧ ∃ o, H fl = some o ∧ (∀ ps, o ≠ .tbl ps) ∧ (∀ c q, o ≠ CodeO c q) ∧ (∀ u l, o ≠ .frz u l) ∧ ∀ xs, o ≠ .tup xs := by
  obtain ⟨xs, x1, _⟩ := h.h3
  exact ⟨⟨_, h.h2, ins_ok.1, ins_ok.2, fun _ _ z => (by cases z), fun _ z => (by cases z)⟩, _, x1, lst_ok.1, lst_ok.2, fun _ _ z => (by cases z), fun _ z => (by cases z)⟩
def ps7 : List Tx := [[97], [], [98, 32, 99], [32], [39, 120], [32, 121, 39, 32], [122]]
def outs7 : List (List Tx) := [[], [], [[97, 98]], [[99]], [], [[120, 32, 121]], []]
theorem late7 : ([V.str (Str.ofString "a"), V.str (S []), V.str (Str.ofString "b c"), V.str (Str.ofString " "), V.str (Str.ofString "'x"), V.str (Str.ofString " y' "), V.str (Str.ofString "z")] : List V) = ps7.map sV := by kernel_rfl
theorem lateV (x : Addr) : [V.ref x, V.str (Str.ofString " "), V.str (Str.ofString "'"), V.str (Str.ofString "\""), V.str (Str.ofString "\\"), V.str (Str.ofString "#")] = [.ref x, .str (S usual.breaks), .str (S usual.hard), .str (S usual.soft), .str (S usual.bend), .str (S usual.note)] := by kernel_rfl
theorem late_outs1 (rp : Addr) : ((List.range 7).map fun i => ((runZ usual rp (ps7.take i).flatten).1.run usual (ps7.getD i [])).2.map (·.1)) = outs7 := by kernel_rfl
theorem late_outs (rp : Addr) : ∀ i u, ps7[i]? = some u → ∃ ws, outs7[i]? = some ws ∧ ((runZ usual rp (ps7.take i).flatten).1.run usual u).2.map (·.1) = ws := by
  intro i u h
  have hi : i < 7 := (List.getElem?_eq_some_iff.mp h).1
  have e : ((List.range 7).map fun i => ((runZ usual rp (ps7.take i).flatten).1.run usual (ps7.getD i [])).2.map (·.1))[i]? = outs7[i]? := congrArg (fun l => l[i]?) (late_outs1 rp)
  rw [List.getElem?_map, List.getElem?_range hi] at e
  refine ⟨_, e.symm, ?_⟩
  show _ = ((runZ usual rp (ps7.take i).flatten).1.run usual (ps7.getD i [])).2.map (·.1)
  rw [List.getD_eq_getElem?_getD, h]
  rfl
theorem late_read (rp : Addr) : told3 (readAll usual ps7.flatten rp) = .ok ([[97, 98], [99], [120, 32, 121], [122]], [(0, 2), (3, 4), (5, 10), (11, 12)]) := by kernel_rfl
theorem lc_P {α : Type} {J : It} {G : Hp → Prop} {Y : Nat → Hp → V → Hp → Prop} {g : TG} {tt : TT} {te : TE} {vs : List Nat} {σ : St} {H1 : Hp} {D : Addr} {Qd : Hp → Prop}
    (as : List α) (P : Nat → List V → Hp → Prop) (w : Walk J as.length G Y) (hz : as.length ≤ 1000000) (start : P 0 [] (upd H1 D (.lst [])))
    (hG : ∀ i acc H, P i acc H → H D = some (.lst acc) → G H)
    (hs : ∀ (R : VK) (R' : Hp → Prop) i a x H H' acc, as[i]? = some a → P i acc H → H D = some (.lst acc) → Y i H x H' → (∀ y H4, H4 D = some (.lst acc) → P (i + 1) (acc ++ [y]) (upd H4 D (.lst (acc ++ [y]))) → R y H4) →
      g x (wipe σ vs) H' fun σ2 H2 => wipe σ2 vs = wipe σ vs ∧ tt σ2 H2 fun b H3 => if b = true then te σ2 H3 R else R' H3)
    (hd : ∀ H ys, P as.length ys H → H D = some (.lst ys) → Qd H) :
    ∃ W : Nat → Nat → Hp → Prop, (∃ m, W 0 m (upd H1 D (.lst []))) ∧ ∀ i m H, W i m H →
      (J.stop i H ∧ Qd H) ∨ (J.go i H ∧ ∃ Nx : Hp → Prop, (∀ H', Nx H' → ∃ m', m' < m ∧ W (i + 1) m' H') ∧ ∀ x H', J.yld i H x H' → g x (wipe σ vs) H' fun σ2 H2 => wipe σ2 vs = wipe σ vs ∧ tt σ2 H2 fun b H3 =>
        if b = true then te σ2 H3 fun y H4 => ∃ acc, H4 D = some (.lst acc) ∧ acc.length < sizeLine ∧ Nx (upd H4 D (.lst (acc ++ [y]))) else Nx H3) := by
  refine lc_it w (fun i H => ∃ acc, acc.length = i ∧ H D = some (.lst acc) ∧ P i acc H) ⟨[], rfl, upd_same, start⟩ (fun _ H _ ⟨acc, _, h1, h2⟩ => hG _ acc H h2 h1) ?_ fun H ⟨acc, _, h1, h2⟩ => hd H acc h2 h1
  rintro i x H H' hi ⟨acc, l1, p1, p2⟩ y
  obtain ⟨a, ha⟩ : ∃ a, as[i]? = some a := ⟨as[i], List.getElem?_eq_getElem hi⟩
  refine hs _ _ i a x H H' acc ha p2 p1 y fun z H4 h4 p4 => ⟨acc, h4, ?_, acc ++ [z], by simp [l1], upd_same, p4⟩
  rw [l1]
  exact Nat.lt_of_lt_of_le (show i < 1000001 by omega) (by decide)
/-- what stays through a turn -/
structure C2 (K : PySem.W.Frag) (a : Ad) (ns : List Int) (p st tp tl : Addr) (r : RS) (ts : List Tx) (H : Hp) : Prop where
  T : Stt K ns H st
  t : H tp = some (.tup r.tup)
  l : H tl = some (.lst (ts.map sV))
  n : tl ≠ st
  tab : TabS H a.p__law_refused qRef
  sc : Scr K ns H p
theorem C2.kx {K : PySem.W.Frag} {a : Ad} {ns : List Int} {p st tp tl : Addr} {r : RS} {ts : List Tx} {H H' : Hp} (c : C2 K a ns p st tp tl r ts H) (k : Kx [st, a.p__law_refused] H H') (T : Stt K ns H' st) (tab : TabS H' a.p__law_refused qRef) : C2 K a ns p st tp tl r ts H' := by
  have ns' : ∀ {b o}, H b = some o → (∀ xs, o ≠ .lst xs) → (∀ ps, o ≠ .tbl ps) → b ∉ [st, a.p__law_refused] := fun {b o} e n1 n2 z => by
    rcases List.mem_cons.mp z with z | z
    · obtain ⟨xs, h⟩ := c.T.has
      rw [z, h] at e; exact n1 xs (Option.some.inj e).symm
    · exact ne_tab c.tab e n2 (List.mem_singleton.mp z)
  refine ⟨T, k _ _ c.t (ns' c.t (fun _ z => by cases z) fun _ z => by cases z), k _ _ c.l fun z => ?_, c.n, tab, c.sc.imp (fun ⟨o, e⟩ => ⟨o, k _ _ e (ns' e (fun _ z => by cases z) fun _ z => by cases z)⟩) id⟩
  rcases List.mem_cons.mp z with z | z
  · exact c.n z
  · exact ne_tab c.tab c.l (fun _ z => by cases z) (List.mem_singleton.mp z)
section
variable {P : Program} {w : World} {K : PySem.W.Frag} {mg : Str → Option Value} {base : Heap} {a : Ad}
def sp_law (K : PySem.W.Frag) (a : Ad) : Sp := fun vs H Q _ => ∃ (ns : List Int) (p : Addr), vs = [.ref p] ∧ Scr K ns H p ∧ TabS H a.p__law_refused qRef ∧ ns.length ≤ 63 ∧ ∀ H', Q (.bl true) H'
theorem ok_law (T : Txt K mg a) (TB : TabB base mg a.k__law_refused a.p__law_refused) : FnG P w K mg base 8 a.f_law a.d_law P_law (sp_law K a) := by
  refine fnG_of T.F_law sc_law (fun vs H Q E h => ?_) (fun cdv A outer s H vs Q E hfr hr h => ?_)
  · obtain ⟨ns, p, rfl, _⟩ := h
    rfl
  · obtain ⟨ns, p, rfl, hp, hT, hl, q⟩ := h
    have G__law_told := ok__law_told (P := P) (w := w) (base := base) T
    have B__law_told := bi__law_told T
    have G__law_text := ok__law_text (P := P) (w := w) (base := base) T
    have B__law_text := bi__law_text T
    have G__law_rules := ok__law_rules (P := P) (w := w) (base := base) T
    have B__law_rules := bi__law_rules T
    have G__law_read := ok__law_read (P := P) (w := w) (base := base) T
    have B__law_read := bi__law_read T
    have G__law_over := ok__law_over (P := P) (w := w) (base := base) T
    have B__law_over := bi__law_over T
    have G__law_pieces := ok__law_pieces (P := P) (w := w) (base := base) T
    have B__law_pieces := bi__law_pieces T
    have G__law_end_right := ok__law_end_right (P := P) (w := w) (base := base) T TB
    have B__law_end_right := bi__law_end_right T
    have G_Splitter_end := ok_Splitter_end (P := P) (w := w) (base := base) T
    have B_Splitter_end := bi_Splitter_end T
    have G_Splitter_take := ok_Splitter_take (P := P) (w := w) (base := base) T
    have B_Splitter_take := bi_Splitter_take T
    have G_Splitter_init := ok_Splitter_init (P := P) (w := w) (base := base) T
    have B_Splitter_init := bi_Splitter_init T
    have G_Rules_init := ok_Rules_init (P := P) (w := w) (base := base) T
    obtain ⟨Ds_Rules_init0, D_Rules_init0, B_Rules_init0⟩ := bi_Rules_init0 T
    refine ⟨_,
(pss_cons (ps_for PassesOwn.never rfl (pi_range3 rfl T.b_range (pa_cons pe_int (pa_cons (pe_callB ((call_max2 rfl)) (by rfl) T.b_max (by decide +kernel) (pa_cons pe_int (pa_cons (pe_callB ((call_min2 rfl)) (by rfl) T.b_min (by decide +kernel) (pa_cons pe_int (pa_cons (pe_callB call_len_seq (by rfl) T.b_len PySem.boot_len (pa_cons (pv 0) pa_nil)) pa_nil))) pa_nil))) (pa_cons pe_int pa_nil)))) (pg_name (i := 1) sc_law.nd rfl (by first | exact Or.inl rfl | exact Or.inr rfl))
    (pss_cons (ps_set (i := 2) sc_law.nd rfl (by first | exact Or.inl rfl | exact Or.inr rfl) (pe_lst (pa_cons (pv 0) (pa_cons (pv 1) (pa_cons pe_int pa_nil)))))
    (pss_cons (ps_set (i := 3) sc_law.nd rfl (by first | exact Or.inl rfl | exact Or.inr rfl) (pe_call G__law_told (hr.mono (by decide)) rfl T.f__law_told.g T.f__law_told.k B__law_told .nil pass0 (pa_cons (pv 2) pa_nil)))
    (pss_cons (ps_set (i := 4) sc_law.nd rfl (by first | exact Or.inl rfl | exact Or.inr rfl) (pe_lst (pa_cons (pe_call G__law_text (hr.mono (by decide)) rfl T.f__law_text.g T.f__law_text.k B__law_text .nil pass0 (pa_cons (pv 2) (pa_cons (pv 3) (pa_cons pe_int pa_nil)))) (pa_cons (pe_op op_add_str (pe_call G__law_text (hr.mono (by decide)) rfl T.f__law_text.g T.f__law_text.k B__law_text .nil pass0 (pa_cons (pv 2) (pa_cons (pv 3) (pa_cons pe_int pa_nil)))) (pe_call G__law_text (hr.mono (by decide)) rfl T.f__law_text.g T.f__law_text.k B__law_text .nil pass0 (pa_cons (pv 2) (pa_cons (pv 3) (pa_cons pe_int pa_nil))))) pa_nil))))
    (pss_one (ps_for PassesOwn.never rfl (pi_list (pv 4)) (pg_name (i := 5) sc_law.nd rfl (by first | exact Or.inl rfl | exact Or.inr rfl))
    (pss_cons (ps_par (i := 6) (j := 7) (by rfl) sc_law.nd rfl rfl (by decide) rfl rfl (pa_cons (pe_make T.c_Splitter.mc G_Splitter_init (hr.mono (by decide)) rfl T.c_Splitter.g B_Splitter_init .nil pass0 (pa_cons (pe_call G__law_rules (hr.mono (by decide)) rfl T.f__law_rules.g T.f__law_rules.k B__law_rules .nil pass0 (pa_cons (pv 3) pa_nil)) pa_nil)) (pa_cons (pe_lst pa_nil) pa_nil)) (by rfl))
    (pss_cons (ps_set (i := 8) sc_law.nd rfl (by first | exact Or.inl rfl | exact Or.inr rfl) (pe_make T.c_Splitter.mc G_Splitter_init (hr.mono (by decide)) rfl T.c_Splitter.g B_Splitter_init .nil pass0 (pa_cons (pe_call G__law_rules (hr.mono (by decide)) rfl T.f__law_rules.g T.f__law_rules.k B__law_rules .nil pass0 (pa_cons (pv 3) pa_nil)) pa_nil)))
    (pss_cons (ps_expr (pe_meth (pv 8) T.c_Splitter.cl T.m_Splitter_take G_Splitter_take (hr.mono (by decide)) B_Splitter_take .nil pass0 (pa_cons (pe_op op_add_str pe_str (pe_slice sl_str (pv 5) po_none (po_some pe_int))) pa_nil)))
    (pss_cons (ps_set (i := 9) sc_law.nd rfl (by first | exact Or.inl rfl | exact Or.inr rfl) pe_str)
    (pss_cons (ps_for PassesOwn.never rfl (pi_list (pe_call G__law_pieces (hr.mono (by decide)) rfl T.f__law_pieces.g T.f__law_pieces.k B__law_pieces .nil pass0 (pa_cons (pv 2) (pa_cons (pv 5) pa_nil)))) (pg_name (i := 10) sc_law.nd rfl (by first | exact Or.inl rfl | exact Or.inr rfl))
    (pss_cons (ps_set (i := 9) sc_law.nd rfl (by first | exact Or.inl rfl | exact Or.inr rfl) (pe_op op_add_str (pv 9) (pv 10)))
    (pss_cons (ps_set (i := 11) sc_law.nd rfl (by first | exact Or.inl rfl | exact Or.inr rfl) (pe_meth (pv 6) T.c_Splitter.cl T.m_Splitter_take G_Splitter_take (hr.mono (by decide)) B_Splitter_take .nil pass0 (pa_cons (pv 10) pa_nil)))
    (pss_cons (ps_set (i := 7) sc_law.nd rfl (by first | exact Or.inl rfl | exact Or.inr rfl) (pe_op op_cat (pv 7) (pv 11)))
    (pss_cons (ps_expr (pe_bm PySem.F.plainAttrs_list PySem.F.slot_list_append PySem.F.type_list_append mt_append (pv 11) (pa_cons pe_str pa_nil)))
    (pss_one (ps_if (PW.pt (pw_and (pt_cmpR op_le (pe_callB call_len_str (by rfl) T.b_len PySem.boot_len (pa_cons (pv 5) pa_nil)) pe_int (nomark _)) (pw_and1 (pt_cmpR (op_neD hr.units) (pv 7) (pe_call G__law_over (hr.mono (by decide)) rfl T.f__law_over.g T.f__law_over.k B__law_over .nil pass0 (pa_cons (pv 3) (pa_cons (pv 9) pa_nil))) (nomark _))))) (pss_one (ps_ret pe_bl)) pss_nil)))))))
    (pss_cons (ps_if (PW.pt (pw_and (pt_val (pe_callB (call_isi) (by rfl) T.b_isinstance (by decide +kernel) (pa_cons (pe_call G__law_read (hr.mono (by decide)) rfl T.f__law_read.g T.f__law_read.k B__law_read .nil pass0 (pa_cons (pv 3) (pa_cons (pv 5) pa_nil))) (pa_cons (pe_bltn (v := .ty "tuple") (u := .type "tuple") rfl T.b_tuple (by decide +kernel) rfl) pa_nil)))) (pw_and1 (pt_cmpR (op_neD hr.units) (pv 7) (pe_call G__law_over (hr.mono (by decide)) rfl T.f__law_over.g T.f__law_over.k B__law_over .nil pass0 (pa_cons (pv 3) (pa_cons (pv 5) pa_nil))) (nomark _))))) (pss_one (ps_ret pe_bl)) pss_nil)
    (pss_cons (ps_if (pt_not (pt_val (pe_call G__law_end_right (hr.mono (by decide)) rfl T.f__law_end_right.g T.f__law_end_right.k B__law_end_right .nil pass0 (pa_cons (pv 3) (pa_cons (pv 5) (pa_cons (pv 6) pa_nil)))))) (pss_one (ps_ret pe_bl)) pss_nil)
    (pss_one (ps_expr (pe_meth0 (pv 8) T.c_Splitter.cl T.m_Splitter_end G_Splitter_end (hr.mono (by decide)) B_Splitter_end .nil pass0))))))))))))))))
    (pss_cons (ps_set (i := 12) sc_law.nd rfl (by first | exact Or.inl rfl | exact Or.inr rfl) (pe_make T.c_Splitter.mc G_Splitter_init (hr.mono (by decide)) rfl T.c_Splitter.g B_Splitter_init .nil pass0 (pa_cons (pe_make0 T.c_Rules.mc G_Rules_init (hr.mono (by decide)) rfl T.c_Rules.g B_Rules_init0 D_Rules_init0 pass0) pa_nil)))
    (pss_cons (ps_setLc (i := 13) (own := [("_law_piece", 10)]) (g := gName 10) (tt := tYes) rfl sc_law.nd rfl rfl (sw_true rfl rfl rfl (by decide +kernel)) (pi_tup (pe_tup (pa_cons pe_str (pa_cons pe_str (pa_cons pe_str (pa_cons pe_str (pa_cons pe_str (pa_cons pe_str (pa_cons pe_str pa_nil))))))))) (blkOk_by (own := [("_law_piece", 10)]) (N := N_law) (sc := defScope st_law) (by decide +kernel)) (fun _ _ _ _ _ => (pg_name (i := 10) sc_law.nd rfl (by first | exact Or.inl rfl | exact Or.inr rfl))) (fun _ _ _ _ _ => pts_nil) (fun _ _ _ _ _ => (pe_meth (pv 12) T.c_Splitter.cl T.m_Splitter_take G_Splitter_take (hr.mono (by decide)) B_Splitter_take .nil pass0 (pa_cons (pv 10) pa_nil))))
    (pss_one (ps_ret (pe_and (pe_cmpR (op_eqD hr.units) (pv 13) (pe_lst (pa_cons (pe_lst pa_nil) (pa_cons (pe_lst pa_nil) (pa_cons (pe_lst (pa_cons pe_str pa_nil)) (pa_cons (pe_lst (pa_cons pe_str pa_nil)) (pa_cons (pe_lst pa_nil) (pa_cons (pe_lst (pa_cons pe_str pa_nil)) (pa_cons (pe_lst pa_nil) pa_nil)))))))) (nomark _)) (pe_one (pe_cmpR (op_eqD hr.units) (pe_fld (pe_meth0 (pv 12) T.c_Splitter.cl T.m_Splitter_end G_Splitter_end (hr.mono (by decide)) B_Splitter_end .nil pass0) rfl) (pe_lst (pa_cons (pe_tup (pa_cons pe_int (pa_cons pe_int pa_nil))) (pa_cons (pe_tup (pa_cons pe_int (pa_cons pe_int pa_nil))) (pa_cons (pe_tup (pa_cons pe_int (pa_cons pe_int pa_nil))) (pa_cons (pe_tup (pa_cons pe_int (pa_cons pe_int pa_nil))) pa_nil))))) (nomark _)))))))))
      , ?_⟩
    rw [show start N_law [V.ref p] = [some (.ref p), none, none, none, none, none, none, none, none, none, none, none, none, none] from rfl]
    refine tseq_split (fun σ' H' => ∃ v1 v2 v3 v4 v5 v6 v7 v8 v9 v10 v11, σ' = [some (.ref p), v1, v2, v3, v4, v5, v6, v7, v8, v9, v10, v11, none, none]) (fun N hN => ?_) ?_
    · refine tfor_all (ι := Nat) (C := fun n => True) (J := fun n => Itc 0 15 n) (H1 := fun _ => H) (fun R hR => ?_) fun n _ => ?_
      · walk_at "rd"
        have smalls : ∀ k : Nat, k < 31 → Builtin.Range.small 0 (k : Int) 15 = true ∧ Builtin.Range.rangeSize 0 (k : Int) 15 = ((Builtin.Range.rangeSize 0 (k : Int) 15).toNat : Int) := by decide +kernel
        refine ⟨ns.map V.int, .inl hp.sq, ?_⟩
        obtain ⟨k, hk, e⟩ : ∃ k : Nat, k < 31 ∧ (if (if ((ns.map V.int).length : Int) < 30 then ((ns.map V.int).length : Int) else 30) > 1 then (if ((ns.map V.int).length : Int) < 30 then ((ns.map V.int).length : Int) else 30) else 1) = (k : Int) := by
          by_cases h1 : ((ns.map V.int).length : Int) < 30
          · rw [if_pos h1]
            by_cases h2 : ((ns.map V.int).length : Int) > 1
            · rw [if_pos h2]; exact ⟨_, by omega, rfl⟩
            · rw [if_neg h2]; exact ⟨1, by decide, rfl⟩
          · rw [if_neg h1, if_pos (by decide)]; exact ⟨30, by decide, rfl⟩
        rw [e]
        exact ⟨(Builtin.Range.rangeSize 0 (k : Int) 15).toNat, ⟨by decide, by decide, (smalls k hk).1, (smalls k hk).2⟩, hR _ trivial⟩
      refine for_it (n := n) walk_rangeC (fun i σ H' => Scr K ns H' p ∧ TabS H' a.p__law_refused qRef ∧ ∃ v1 v2 v3 v4 v5 v6 v7 v8 v9 v10 v11, σ = [some (.ref p), v1, v2, v3, v4, v5, v6, v7, v8, v9, v10, v11, none, none]) ⟨hp, hT, _, _, _, _, _, _, _, _, _, _, _, rfl⟩ (fun _ _ _ _ _ => trivial) ?_ ?_
      · rintro i x σ H1 H1' hi ⟨sc, tb, v1, v2, v3, v4, v5, v6, v7, v8, v9, v10, v11, rfl⟩ ⟨rfl, rfl⟩
        walk_at "rd"
        walk_at "al"
        rename_i st hst0 H2 S2 e2
        have T2 : Stt K ns H2 st := ⟨p, 0 + (i : Int) * 15, 0, e2, sc.same S2, by omega, by decide⟩
        have c2 := tb.ext S2
        refine ⟨ns, st, rfl, T2, fun r tp H3 ok hp3 tr T3 k3 => ?_⟩
        obtain ⟨xs2, hs2⟩ := T2.has
        obtain ⟨xs3, hs3⟩ := T3.has
        have sc3 := (sc.same S2).kp k3 hs2 (fun _ _ z => by cases z)
        have tabk : ∀ {F F' : Hp}, Stt K ns F st → Kp st F F' → TabS F a.p__law_refused qRef → TabS F' a.p__law_refused qRef := fun {F F'} t k q => Qw.TabS.kx (L := [st]) q (k.kx _ (by simp)) fun b hb => by
          obtain ⟨xs, h⟩ := t.has
          rw [List.mem_singleton.mp hb]
          exact ⟨_, h, lst_ok⟩
        have tb3 := tabk T2 k3 c2
        refine ⟨ns, st, tp, r, 60, rfl, T3, tr, ok, by decide, fun t1 H4 tl1 ts1 T4 k4 => ?_⟩
        obtain ⟨xs4, hs4⟩ := T4.has
        have sc4 := sc3.kp k4 hs3 (fun _ _ z => by cases z)
        have tb4 := tabk T3 k4 tb3
        have tr4 := k4.tk hs3 (fun _ z => by cases z) _ _ tr
        refine ⟨ns, st, tp, r, 400, rfl, T4, tr4, ok, by decide, fun t2 H5 tl2 ts2 T5 k5 => ?_⟩
        obtain ⟨xs5, hs5⟩ := T5.has
        have sc5 := sc4.kp k5 hs4 (fun _ _ z => by cases z)
        have tb5 := tabk T4 k5 tb4
        have tr5 := k5.tk hs4 (fun _ z => by cases z) _ _ tr4
        refine ⟨ns, st, tp, r, 800, rfl, T5, tr5, ok, by decide, fun t3 H6 tl3 ts3 T6 k6 => ?_⟩
        have sc6 := sc5.kp k6 hs5 (fun _ _ z => by cases z)
        have tb6 := tabk T5 k6 tb5
        have tr6 := k6.tk hs5 (fun _ z => by cases z) _ _ tr5
        have l23 : (t2 ++ t3).length ≤ 1200 := by rw [List.length_append]; omega
        have s23 : (t2 ++ t3).all sgn = true := by rw [List.all_append, ts2, ts3]; rfl
        refine ⟨_, rfl, ?_⟩
        walk_at "rd"
        refine ⟨Nat.le_trans (show t2.length + t3.length ≤ 1200 by omega) (by decide), fun tl htl => ?_⟩
        have S7 := same_new (o := HO.lst [V.str (S t1), V.str (S (t2 ++ t3))]) htl
        have e7 : upd H6 tl (HO.lst [V.str (S t1), V.str (S (t2 ++ t3))]) tl = some (HO.lst [V.str (S t1), V.str (S (t2 ++ t3))]) := upd_same
        obtain ⟨xs6, hs6⟩ := T6.has
        have ntl : tl ≠ st := Ne.symm (ne_of_none hs6 htl)
        generalize upd H6 tl (HO.lst [V.str (S t1), V.str (S (t2 ++ t3))]) = H7 at *
        obtain ⟨ts, hts, hl2⟩ : ∃ ts : List Tx, [V.str (S t1), V.str (S (t2 ++ t3))] = ts.map sV ∧ ∀ t ∈ ts, t.length ≤ 1200 ∧ t.all sgn = true := ⟨[t1, t2 ++ t3], rfl, fun t ht => by
          rcases List.mem_cons.mp ht with rfl | ht
          · exact ⟨by omega, ts1⟩
          · rw [List.mem_singleton.mp ht]; exact ⟨l23, s23⟩⟩
        rw [hts] at e7
        have C7 : C2 K a ns p st tp tl r ts H7 := ⟨T6.same S7, S7 _ _ tr6, e7, ntl, tb6.ext S7, sc6.same S7⟩
        refine tfor_it (J := Itl K tl) (H1 := H7) (n := (ts.map sV).length) (G := fun H => SqL K H tl (ts.map sV)) (fun R hR => ?_) walk_list (fun j σ H' => C2 K a ns p st tp tl r ts H' ∧ ∃ v5 v6 v7 v8 v9 v10 v11, σ = [some (.ref p), some (.int (0 + (i : Int) * 15)), some (.ref st), some (.ref tp), some (.ref tl), v5, v6, v7, v8, v9, v10, v11, none, none]) ⟨C7, _, _, _, _, _, _, _, rfl⟩ (fun _ _ _ _ h => .inl (.inl h.1.l)) ?_ ?_
        · walk_at "rd"
          exact ⟨⟨_, .inl (.inl e7)⟩, hR⟩
        · rintro j x σ F F' hj ⟨C, v5, v6, v7, v8, v9, v10, v11, rfl⟩ ⟨rfl, hx⟩
          rw [List.getElem?_map] at hx
          obtain ⟨t, ht, rfl⟩ := Option.map_eq_some_iff.mp hx
          obtain ⟨tl4, tsg⟩ := hl2 t (List.mem_of_getElem? ht)
          refine tseq_split (fun σ' G => ∃ x dx mp dm fl rp dr c0, σ' = [some (.ref p), some (.int (0 + (i : Int) * 15)), some (.ref st), some (.ref tp), some (.ref tl), some (sV t), some (.ref x), some (.ref c0), v8, v9, v10, v11, none, none] ∧ Same F' G ∧ Spl a G x dx mp dm fl rp dr r [] ∧ G c0 = some (.lst []) ∧ F' x = none ∧ F' mp = none ∧ F' fl = none ∧ c0 ≠ fl) (fun N hN => ?_) ?_
          · walk_at "rd"
            refine ⟨tp, r, rfl, C.t, ok, fun rp dr G1 hrp eR s1 => ?_⟩
            intro x dx hx hdx ne
            refine ⟨x, dx, rp, dr, r, rfl, upd_same, (same_new hdx).trans (same_new (by rw [upd_ne (Ne.symm ne)]; exact hx)) _ _ eR, fun G2 mp dm fl hmp hfl S1 k1 => ⟨rfl, ?_⟩⟩
            have s2 : Same G1 G2 := Same.made hx hdx k1
            intro c0 hc0
            have s3 := same_new (o := HO.lst []) hc0
            refine hN _ _ ⟨x, dx, mp, dm, fl, rp, dr, c0, rfl, (s1.trans s2).trans s3, S1.same s3, upd_same, s1.free hx, s1.free (none_upd (none_upd hmp)), s1.free (none_upd (none_upd hfl)), ?_⟩
            rintro rfl
            obtain ⟨xs, x1, _⟩ := S1.h3
            rw [hc0] at x1; cases x1
          rintro σ1 G1 ⟨x, dx, mp, dm, fl, rp, dr, c0, rfl, s1, S1, ec1, fx, fmp, ffl, ncf⟩
          have C1 := C.kx (s1.kx _) (C.T.same s1) (C.tab.ext s1)
          refine tseq_split (fun σ' G => ∃ y dy mp2 dm2 fl2 rp2 dr2, σ' = [some (.ref p), some (.int (0 + (i : Int) * 15)), some (.ref st), some (.ref tp), some (.ref tl), some (sV t), some (.ref x), some (.ref c0), some (.ref y), v9, v10, v11, none, none] ∧ Same G1 G ∧ Spl a G y dy mp2 dm2 fl2 rp2 dr2 r [] ∧ G1 y = none ∧ G1 mp2 = none ∧ G1 fl2 = none) (fun N hN => ?_) ?_
          · walk_at "rd"
            refine ⟨tp, r, rfl, C1.t, ok, fun rp dr G1 hrp eR s1 => ?_⟩
            intro x dx hx hdx ne
            refine ⟨x, dx, rp, dr, r, rfl, upd_same, (same_new hdx).trans (same_new (by rw [upd_ne (Ne.symm ne)]; exact hx)) _ _ eR, fun G2 mp dm fl hmp hfl S1 k1 => ⟨rfl, ?_⟩⟩
            have s2 : Same G1 G2 := Same.made hx hdx k1
            exact hN _ _ ⟨x, dx, mp, dm, fl, rp, dr, rfl, s1.trans s2, S1, s1.free hx, s1.free (none_upd (none_upd hmp)), s1.free (none_upd (none_upd hfl))⟩
          rintro σ2 G2 ⟨y, dy, mp2, dm2, fl2, rp2, dr2, rfl, s2, O2, fy, fmp2, ffl2⟩
          have C2' := C1.kx (s2.kx _) (C1.T.same s2) (C1.tab.ext s2)
          have S2 := S1.same s2
          have ec2 := s2 _ _ ec1
          have fy0 := s1.free fy
          have fmp20 := s1.free fmp2
          have ffl20 := s1.free ffl2
          refine tseq_split (fun σ' G => ∃ u2 : Tx, u2.length ≤ 4 ∧ σ' = [some (.ref p), some (.int (0 + (i : Int) * 15)), some (.ref st), some (.ref tp), some (.ref tl), some (sV t), some (.ref x), some (.ref c0), some (.ref y), v9, v10, v11, none, none] ∧ Kx [mp2, fl2] G2 G ∧ Spl a G y dy mp2 dm2 fl2 rp2 dr2 r u2) (fun N hN => ?_) ?_
          · walk_at "rd"
            refine ⟨_, _, O2.h1, lkn_take _ _ _, _, rfl, Nat.le_trans (show t.length ≤ 1200 by omega) (by decide), ?_⟩
            have e1 : cutS (S t) none (some 3) = S (t.take 3) := cutS_to t 3
            have e2 : Str.ofString "'" = S [39] := by decide +kernel
            have l3 : (t.take 3).length ≤ 3 := by rw [List.length_take]; omega
            rw [e1, e2, S_app, S_len, S_len]
            refine ⟨Nat.le_trans (show 1 + (t.take 3).length ≤ 4 by omega) (by decide), y, dy, mp2, dm2, fl2, rp2, dr2, r, [], [39] ++ t.take 3, rfl, O2, few_quotes ok, ?_, ?_, fun l1 G3 hl1 el1 O3 k3 => ?_⟩
            · simp only [List.length_nil, List.length_append, List.length_cons]; omega
            · rw [List.all_append, List.all_eq_true.mpr fun c hc => List.all_eq_true.mp tsg c (List.mem_of_mem_take hc)]; rfl
            · exact hN _ _ ⟨[39] ++ t.take 3, by simp only [List.length_append, List.length_cons, List.length_nil]; omega, rfl, k3.kx _ (by simp) (by simp), O3⟩
          rintro σ3 G3 ⟨u2, lu2, rfl, k3, O3⟩
          obtain ⟨⟨o2m, o2e, o2a, o2b, o2c, o2d⟩, ⟨o2f, p2e, p2a, p2b, p2c, p2d⟩⟩ := O2.ins
          obtain ⟨xsF, hsF⟩ := C.T.has
          obtain ⟨xs1, hs1⟩ := C1.T.has
          have L2ok : ∀ b ∈ [mp2, fl2], ∃ o, G2 b = some o ∧ (∀ ps, o ≠ .tbl ps) ∧ (∀ c q, o ≠ CodeO c q) ∧ (∀ u l, o ≠ .frz u l) ∧ ∀ xs, o ≠ .tup xs := fun b hb => by
            rcases List.mem_cons.mp hb with rfl | hb
            · exact ⟨_, o2e, o2a, o2b, o2c, o2d⟩
            · rw [List.mem_singleton.mp hb]; exact ⟨_, p2e, p2a, p2b, p2c, p2d⟩
          have fresh2 : ∀ {b o}, G1 b = some o → b ∉ [mp2, fl2] := fun {b o} e z => by
            rcases List.mem_cons.mp z with z | z
            · rw [z, fmp2] at e; cases e
            · rw [List.mem_singleton.mp z, ffl2] at e; cases e
          have T3 : Stt K ns G3 st := C2'.T.kx k3 (fresh2 hs1) fun b hb u l e => by
            obtain ⟨o, e2, _, _, e3, _⟩ := L2ok b hb
            rw [e2] at e; exact e3 _ _ (Option.some.inj e)
          have tb3 : TabS G3 a.p__law_refused qRef := Qw.TabS.kx C2'.tab k3 fun b hb => by
            obtain ⟨o, e2, e3, e4, _⟩ := L2ok b hb
            exact ⟨o, e2, e3, e4⟩
          have kx13 : Kx [st, a.p__law_refused] G1 G3 := (s2.kx _).fresh (M := [mp2, fl2]) (k3.mono fun x hx => List.mem_append_left _ hx) fun x hx => by
            rcases List.mem_cons.mp hx with rfl | hx
            · exact fmp2
            · rw [List.mem_singleton.mp hx]; exact ffl2
          have C3 := C1.kx kx13 T3 tb3
          obtain ⟨ysx, efl1, _⟩ := S1.h3
          have S3 : Spl a G3 x dx mp dm fl rp dr r [] := S2.kx k3 ⟨fresh2 S1.h1, fresh2 S1.h2, fresh2 efl1, fresh2 S1.h4⟩ fun b hb xs e => by
            obtain ⟨o, e2, _, _, _, e3⟩ := L2ok b hb
            rw [e2] at e; exact e3 _ (Option.some.inj e)
          have ec3 : G3 c0 = some (.lst []) := k3 _ _ ec2 (fresh2 ec1)
          have nfs : fl ≠ st := Ne.symm (ne_of_none hsF ffl)
          have nfs2 : fl2 ≠ st := Ne.symm (ne_of_none hs1 ffl2)
          have ncs : c0 ≠ st := by
            rintro rfl
            rw [hs1] at ec1
            obtain ⟨_, _, _, z, _⟩ := C1.T
            rw [hs1] at z; rw [Option.some.inj ec1] at z; cases z
          refine tseq_split (fun σ' G => G = G3 ∧ σ' = [some (.ref p), some (.int (0 + (i : Int) * 15)), some (.ref st), some (.ref tp), some (.ref tl), some (sV t), some (.ref x), some (.ref c0), some (.ref y), some (.str (S [])), v10, v11, none, none]) (fun N hN => ?_) ?_
          · walk_at "rd"
            exact hN _ _ ⟨rfl, rfl⟩
          rintro σ4 G3' ⟨rfl, rfl⟩
          refine tseq_split (fun σ' G => ∃ c v9 v10 v11 G4, σ' = [some (.ref p), some (.int (0 + (i : Int) * 15)), some (.ref st), some (.ref tp), some (.ref tl), some (sV t), some (.ref x), some (.ref c), some (.ref y), v9, v10, v11, none, none] ∧ Kp st G3' G4 ∧ Stt K ns G4 st ∧ Spl a G4 x dx mp dm fl rp dr r [] ∧ K2 mp fl G4 G ∧ Spl a G x dx mp dm fl rp dr r t ∧ G c = some (.lst ((endedT r rp t).map sV))) (fun N hN => ?_) ?_
          · refine tfor_all (ι := Addr × List Tx × Hp) (C := fun z => G3' z.1 = none ∧ z.2.2 z.1 = some (.lst (z.2.1.map sV)) ∧ z.2.1.flatten = t ∧ Stt K ns z.2.2 st ∧ Kp st G3' z.2.2) (J := fun z => Itl K z.1) (H1 := fun z => z.2.2) (fun R hR => ?_) fun z hz => ?_
            · walk_at "rd"
              exact ⟨ns, st, t, rfl, T3, hl, by omega, tsg, fun l ps G4 h1 h2 h3 h4 h5 => ⟨l, rfl, ⟨_, .inl (.inl h2)⟩, hR (l, ps, G4) ⟨h1, h2, h3, h4, h5⟩⟩⟩
            obtain ⟨l, ps, G4⟩ := z
            obtain ⟨z1, z2, z3, z4, z5⟩ := hz
            dsimp only at z1 z2 z3 z4 z5
            obtain ⟨xs3, hs3⟩ := T3.has
            have S4 : Spl a G4 x dx mp dm fl rp dr r [] := S3.kx (z5.kx [st] (by simp)) ⟨fun z => ne_of S3.h1 hs3 (fun z => by cases z) (List.mem_singleton.mp z), fun z => ne_of S3.h2 hs3 (fun z => by cases z) (List.mem_singleton.mp z), fun z => nfs (List.mem_singleton.mp z), fun z => ne_of S3.h4 hs3 (fun z => by cases z) (List.mem_singleton.mp z)⟩ fun b hb xs e => by
              rw [List.mem_singleton.mp hb, hs3] at e; cases e
            obtain ⟨ysf, efl3, _⟩ := S3.h3
            have nlf : l ≠ fl := Ne.symm (ne_of_none efl3 z1)
            have ec4 := z5 _ _ ec3 ncs
            have tr4' : G4 tp = some (.tup r.tup) := z5 _ _ C3.t (ne_of C3.t hs3 fun z => by cases z)
            refine for_it (n := (ps.map sV).length) (G := fun H => SqL K H l (ps.map sV)) walk_list (fun k σ G => K2 mp fl G4 G ∧ Spl a G x dx mp dm fl rp dr r (ps.take k).flatten ∧ ∃ c v10 v11, σ = [some (.ref p), some (.int (0 + (i : Int) * 15)), some (.ref st), some (.ref tp), some (.ref tl), some (sV t), some (.ref x), some (.ref c), some (.ref y), some (.str (S (ps.take k).flatten)), v10, v11, none, none] ∧ c ≠ fl ∧ G c = some (.lst ((endedT r rp (ps.take k).flatten).map sV))) ⟨(Same.refl _).k2 _ _, S4, _, _, _, rfl, ncf, ec4⟩ (fun _ _ _ _ h => .inl (.inl (h.1 _ _ z2 (ne_of z2 S4.h2 fun z => by cases z) nlf))) ?_ ?_
            · rintro k x' σ G5 G5' hk ⟨k5, S5, c, v10, v11, rfl, ncl, ec5⟩ ⟨rfl, hx⟩
              rw [List.getElem?_map] at hx
              obtain ⟨u, hu, rfl⟩ := Option.map_eq_some_iff.mp hx
              obtain ⟨f1, f2, f3⟩ := flat_take hu
              rw [z3] at f2
              walk_at "rd"
              have us : u.all sgn = true := List.all_eq_true.mpr fun c hc => List.all_eq_true.mp tsg c (by rw [← z3]; exact f3 c hc)
              refine ⟨_, rfl, Nat.le_trans (show (List.take k ps).flatten.length + u.length ≤ 1200 by omega) (by decide), _, _, S5.h1, lkn_take _ _ _, x, dx, mp, dm, fl, rp, dr, r, _, u, rfl, S5, few_quotes ok, by omega, us, fun l1 G6 hl1 el1 S6 k6 => ?_⟩
              rw [← f1] at S6
              have ec6 := k6 _ _ ec5 (ne_of ec5 S5.h2 fun z => by cases z) ncl
              have lend : (endedT r rp (List.take k ps).flatten).length ≤ (List.take k ps).flatten.length := ended_len
              have lend2 : (((runZ r rp (List.take k ps).flatten).1.run r u).2).length ≤ u.length + 1 := Nat.le_trans (MS.out_run r u _) (by omega)
              refine ⟨l1, rfl, _, ec6, _, el1, ?_, fun c' hc' => ?_⟩
              · rw [List.length_map, List.length_map]
                exact Nat.le_trans (show (endedT r rp (List.take k ps).flatten).length + _ ≤ 1300 by omega) (by decide)
              have s7 := same_new (o := HO.lst (List.map sV (endedT r rp (List.take k ps).flatten) ++ List.map (fun d => V.str (S d.1)) ((runZ r rp (List.take k ps).flatten).1.run r u).2)) hc'
              have e7 : upd G6 c' (HO.lst (List.map sV (endedT r rp (List.take k ps).flatten) ++ List.map (fun d => V.str (S d.1)) ((runZ r rp (List.take k ps).flatten).1.run r u).2)) c' = some _ := upd_same
              generalize upd G6 c' (HO.lst (List.map sV (endedT r rp (List.take k ps).flatten) ++ List.map (fun d => V.str (S d.1)) ((runZ r rp (List.take k ps).flatten).1.run r u).2)) = G7 at *
              rw [ended_app, ← f1] at e7
              have S7 := S6.same s7
              have el7 := s7 _ _ el1
              have nlc : l1 ≠ c' := ne_of_none el1 hc'
              obtain ⟨_, efl5, _⟩ := S5.h3
              obtain ⟨_, efl6, _⟩ := S6.h3
              have nlf1 : l1 ≠ fl := Ne.symm (ne_of_none efl5 hl1)
              have nlm1 : l1 ≠ mp := Ne.symm (ne_of_none S5.h2 hl1)
              have ncf' : c' ≠ fl := Ne.symm (ne_of_none efl6 hc')
              refine ⟨.inl ⟨rfl, _, .inl (.inl el7)⟩, l1, rfl, _, el7, by rw [List.length_map]; exact Nat.lt_of_le_of_lt (show _ ≤ 1300 by omega) (by decide), _, rfl, Nat.le_trans (show t.length ≤ 1200 by omega) (by decide), ?_⟩
              have S8 := S7.lst (ys := List.map (fun d => V.str (S d.1)) ((runZ r rp (List.take k ps).flatten).1.run r u).2 ++ [V.str (Str.ofString "x")]) el7 nlf1
              have e8 : upd G7 l1 (HO.lst (List.map (fun d => V.str (S d.1)) ((runZ r rp (List.take k ps).flatten).1.run r u).2 ++ [V.str (Str.ofString "x")])) c' = _ := (upd_ne (Ne.symm nlc)).trans e7
              have k8 : K2 mp fl G4 (upd G7 l1 (HO.lst (List.map (fun d => V.str (S d.1)) ((runZ r rp (List.take k ps).flatten).1.run r u).2 ++ [V.str (Str.ofString "x")]))) := fun b o e n m => by
                have e5 := k5 b o e n m
                rw [upd_ne fun z => by rw [z, hl1] at e5; cases e5]
                exact s7 _ _ (k6 _ _ e5 n m)
              generalize upd G7 l1 (HO.lst (List.map (fun d => V.str (S d.1)) ((runZ r rp (List.take k ps).flatten).1.run r u).2 ++ [V.str (Str.ofString "x")])) = G8 at *
              have tr8 := k8 _ _ tr4' (ne_of tr4' S4.h2 fun z => by cases z) (ne_of tr4' (z5 _ _ efl3 nfs) fun z => by cases z)
              have lf1 : (List.take (k + 1) ps).flatten.length ≤ 1200 := by rw [f1, List.length_append]; omega
              have sf1 : (List.take (k + 1) ps).flatten.all sgn = true := List.all_eq_true.mpr fun c hc => List.all_eq_true.mp tsg c (by
                rw [← z3]
                obtain ⟨w, hw, hc⟩ := List.mem_flatten.mp hc
                exact List.mem_flatten.mpr ⟨w, List.mem_of_mem_take hw, hc⟩)
              refine ite2 (fun _ => ?_) (fun _ => ⟨k8, S8, by rw [f1, ← S_app], ncf', e8⟩)
              refine ⟨tp, rp, r, _, by rw [show S (List.take k ps).flatten ++ S u = S (List.take (k + 1) ps).flatten by rw [f1, ← S_app]], tr8, ok, by omega, fun l9 G9 s9 f9 e9 => ?_⟩
              have tm := ended_ok (r := r) (rp := rp) sf1
              refine ⟨_, dp_ws (.inl (.inl (s9 _ _ e8))), _, dp_ws (.inl (.inl e9)), shaped_of tm (Nat.le_trans (wsD_depth _) (by decide)), shaped_of tm (Nat.le_trans (wsD_depth _) (by decide)), ?_⟩
              rw [eqv_dec (p := True) tm tm (by simp)]
              exact ite2 (fun z => by simp at z) (fun _ => ⟨fun b o e n m => s9 _ _ (k8 b o e n m), S8.same s9, by rw [f1, ← S_app], ncf', s9 _ _ e8⟩)
            · rintro σ G5 ⟨k5, S5, c, v10, v11, rfl, ncl, ec5⟩
              rw [List.length_map, List.take_length, z3] at S5 ec5
              exact hN _ _ ⟨c, _, _, _, G4, rfl, z5, z4, S4, k5, S5, ec5⟩
          rintro σ5 G5 ⟨c, v9, v10, v11, G4, rfl, k4, T4, S4, k5, S5, ec5⟩
          obtain ⟨⟨q1o, q1e, q1a, q1b, q1c, q1d⟩, ⟨q2o, q2e, q2a, q2b, q2c, q2d⟩⟩ := S4.ins
          have L4ok : ∀ b ∈ [mp, fl], ∃ o, G4 b = some o ∧ (∀ ps, o ≠ .tbl ps) ∧ (∀ c q, o ≠ CodeO c q) ∧ (∀ u l, o ≠ .frz u l) ∧ ∀ xs, o ≠ .tup xs := fun b hb => by
            rcases List.mem_cons.mp hb with rfl | hb
            · exact ⟨_, q1e, q1a, q1b, q1c, q1d⟩
            · rw [List.mem_singleton.mp hb]; exact ⟨_, q2e, q2a, q2b, q2c, q2d⟩
          have fresh4 : ∀ {b o}, F' b = some o → b ∉ [mp, fl] := fun {b o} e z => by
            rcases List.mem_cons.mp z with z | z
            · rw [z, fmp] at e; cases e
            · rw [List.mem_singleton.mp z, ffl] at e; cases e
          have kx5 : Kx [mp, fl] G4 G5 := k5.kx _ (by simp) (by simp)
          have T5 : Stt K ns G5 st := T4.kx kx5 (fresh4 hsF) fun b hb u l e => by
            obtain ⟨o, e2, _, _, e3, _⟩ := L4ok b hb
            rw [e2] at e; exact e3 _ _ (Option.some.inj e)
          have tb4 := tabk T3 k4 tb3
          have tb5 : TabS G5 a.p__law_refused qRef := Qw.TabS.kx tb4 kx5 fun b hb => by
            obtain ⟨o, e2, e3, e4, _⟩ := L4ok b hb
            exact ⟨o, e2, e3, e4⟩
          have kF4 : Kx [st, a.p__law_refused] F' G4 := ((s1.kx _).trans kx13).trans (k4.kx _ (by simp))
          have kF5 : Kx [st, a.p__law_refused] F' G5 := kF4.fresh (M := [mp, fl]) (kx5.mono fun x hx => List.mem_append_left _ hx) fun x hx => by
            rcases List.mem_cons.mp hx with rfl | hx
            · exact fmp
            · rw [List.mem_singleton.mp hx]; exact ffl
          have C5 := C.kx kF5 T5 tb5
          obtain ⟨xs3, hs3⟩ := T3.has
          obtain ⟨_, eo3, _⟩ := O3.h3
          obtain ⟨_, es3, _⟩ := S3.h3
          obtain ⟨_, es1, _⟩ := S1.h3
          have O4 : Spl a G4 y dy mp2 dm2 fl2 rp2 dr2 r u2 := O3.kx (k4.kx [st] (by simp)) ⟨fun z => ne_of O3.h1 hs3 (fun z => by cases z) (List.mem_singleton.mp z), fun z => ne_of O3.h2 hs3 (fun z => by cases z) (List.mem_singleton.mp z), fun z => nfs2 (List.mem_singleton.mp z), fun z => ne_of O3.h4 hs3 (fun z => by cases z) (List.mem_singleton.mp z)⟩ fun b hb xs e => by
            rw [List.mem_singleton.mp hb, hs3] at e; cases e
          have fr1 : ∀ {b}, G1 b = none → b ∉ [mp, fl] := fun {b} e z => by
            rcases List.mem_cons.mp z with z | z
            · rw [z, S1.h2] at e; cases e
            · rw [List.mem_singleton.mp z, es1] at e; cases e
          have nrm : rp2 ≠ mp := ne_of O3.h4 S3.h2 fun z => by
            injection z with _ _ z; exact absurd (congrArg List.length z) (by show ¬ (5 = 7); decide)
          have nrx : rp2 ≠ x := ne_of O3.h4 S3.h1 fun z => by
            injection z with _ _ z; exact absurd (congrArg List.length z) (by show ¬ (5 = 3); decide)
          have nrf : rp2 ≠ fl := ne_of O3.h4 es3 fun z => by cases z
          have O5 : Spl a G5 y dy mp2 dm2 fl2 rp2 dr2 r u2 := O4.kx kx5 ⟨fr1 fy, fr1 fmp2, fr1 ffl2, fun z => by
            rcases List.mem_cons.mp z with z | z
            · exact nrm z
            · exact nrf (List.mem_singleton.mp z)⟩ fun b hb xs e => by
            obtain ⟨o, e2, _, _, _, e3⟩ := L4ok b hb
            rw [e2] at e; exact e3 _ (Option.some.inj e)
          refine tseq_split (fun σ' G => Same G5 G ∧ σ' = [some (.ref p), some (.int (0 + (i : Int) * 15)), some (.ref st), some (.ref tp), some (.ref tl), some (sV t), some (.ref x), some (.ref c), some (.ref y), v9, v10, v11, none, none]) (fun N hN => ?_) ?_
          · walk_at "rd"
            refine ⟨tp, r, t, rfl, C5.t, ok, by omega, fun v2 G6 s6 lr => ?_⟩
            rw [← readAll_lr ok _ rp] at lr
            obtain ⟨ty, o1, o2⟩ := lres_ty (K := K) lr
            refine ⟨ty, _, .ty _, o1, _, o2, ite2 (fun _ => ?_) (fun _ => hN _ _ ⟨s6, rfl⟩)⟩
            refine ⟨tp, rp, r, t, rfl, s6 _ _ C5.t, ok, by omega, fun l9 G9 s9 f9 e9 => ?_⟩
            have tm := ended_ok (r := r) (rp := rp) tsg
            refine ⟨_, dp_ws (.inl (.inl (s9 _ _ (s6 _ _ ec5)))), _, dp_ws (.inl (.inl e9)), shaped_of tm (Nat.le_trans (wsD_depth _) (by decide)), shaped_of tm (Nat.le_trans (wsD_depth _) (by decide)), ?_⟩
            rw [eqv_dec (p := True) tm tm (by simp)]
            exact ite2 (fun z => by simp at z) (fun _ => hN _ _ ⟨s6.trans s9, rfl⟩)
          rintro σ6 G6 ⟨s6, rfl⟩
          walk_at "rd"
          have S6 := S5.same s6
          have O6 := O5.same s6
          have tb6 := C5.tab.ext s6
          refine ⟨tp, x, dx, mp, dm, fl, rp, dr, r, t, rfl, s6 _ _ C5.t, ok, by omega, tsg, S6, tb6, fun G7 k7 t7 => ⟨true, rfl, ite2 (fun z => by cases z) (fun _ => ?_)⟩⟩
          have frx : ∀ {b}, G1 b = none → (∃ o, G6 b = some o ∧ ∀ ps, o ≠ .tbl ps) → b ∉ [x, mp, a.p__law_refused] := fun {b} e ⟨o, eo, no⟩ z => by
            rcases List.mem_cons.mp z with z | z
            · rw [z, S1.h1] at e; cases e
            rcases List.mem_cons.mp z with z | z
            · rw [z, S1.h2] at e; cases e
            · exact ne_tab tb6 eo no (List.mem_singleton.mp z)
          have L6 : ∀ b ∈ [x, mp, a.p__law_refused], ∃ o, G6 b = some o ∧ (∀ u l, o ≠ .frz u l) ∧ ∀ xs, o ≠ .tup xs := fun b hb => by
            rcases List.mem_cons.mp hb with rfl | hb
            · exact ⟨_, S6.h1, fun _ _ z => (by cases z), fun _ z => (by cases z)⟩
            rcases List.mem_cons.mp hb with rfl | hb
            · exact ⟨_, S6.h2, fun _ _ z => (by cases z), fun _ z => (by cases z)⟩
            · obtain ⟨ps, h, _⟩ := tb6
              rw [List.mem_singleton.mp hb]
              exact ⟨_, h, fun _ _ z => (by cases z), fun _ z => (by cases z)⟩
          obtain ⟨_, eo6, _⟩ := O6.h3
          have O7 : Spl a G7 y dy mp2 dm2 fl2 rp2 dr2 r u2 := O6.kx k7 ⟨frx fy ⟨_, O6.h1, ins_ok.1⟩, frx fmp2 ⟨_, O6.h2, ins_ok.1⟩, frx ffl2 ⟨_, eo6, lst_ok.1⟩, fun z => by
            rcases List.mem_cons.mp z with z | z
            · exact nrx z
            rcases List.mem_cons.mp z with z | z
            · exact nrm z
            · exact ne_tab tb6 O6.h4 ins_ok.1 (List.mem_singleton.mp z)⟩ fun b hb xs e => by
            obtain ⟨o, e2, _, e3⟩ := L6 b hb
            rw [e2] at e; exact e3 _ (Option.some.inj e)
          have T6 := C5.T.same s6
          obtain ⟨xs6, hs6⟩ := T6.has
          have T7 : Stt K ns G7 st := T6.kx k7 (fun z => by
            rcases List.mem_cons.mp z with z | z
            · rw [z, fx] at hsF; cases hsF
            rcases List.mem_cons.mp z with z | z
            · rw [z, fmp] at hsF; cases hsF
            · exact ne_tab tb6 hs6 lst_ok.1 (List.mem_singleton.mp z)) fun b hb u l e => by
            obtain ⟨o, e2, e3, _⟩ := L6 b hb
            rw [e2] at e; exact e3 _ _ (Option.some.inj e)
          refine ⟨_, _, O7.h1, lkn_end _ _ _, y, dy, mp2, dm2, fl2, rp2, dr2, r, u2, rfl, O7, by omega, fun q9 G8 hq9 an hp9 k8 => ⟨?_, _, rfl⟩⟩
          have L7 : ∀ b ∈ [y, mp2], ∃ o, G7 b = some o ∧ (∀ ps, o ≠ .tbl ps) ∧ (∀ c q, o ≠ CodeO c q) ∧ (∀ u l, o ≠ .frz u l) := fun b hb => by
            rcases List.mem_cons.mp hb with rfl | hb
            · exact ⟨_, O7.h1, ins_ok.1, ins_ok.2, fun _ _ z => (by cases z)⟩
            · rw [List.mem_singleton.mp hb]; exact ⟨_, O7.h2, ins_ok.1, ins_ok.2, fun _ _ z => (by cases z)⟩
          have kx8 : Kx [y, mp2] G7 G8 := k8.kx _ (by simp) (by simp)
          have T8 : Stt K ns G8 st := T7.kx kx8 (fun z => by
            rcases List.mem_cons.mp z with z | z
            · rw [z, fy0] at hsF; cases hsF
            · rw [List.mem_singleton.mp z, fmp20] at hsF; cases hsF) fun b hb u l e => by
            obtain ⟨o, e2, _, _, e3⟩ := L7 b hb
            rw [e2] at e; exact e3 _ _ (Option.some.inj e)
          have t8 : TabS G8 a.p__law_refused qRef := Qw.TabS.kx t7 kx8 fun b hb => by
            obtain ⟨o, e2, e3, e4, _⟩ := L7 b hb
            exact ⟨o, e2, e3, e4⟩
          have kF7 : Kx [st, a.p__law_refused] F' G7 := (kF5.trans (s6.kx _)).fresh (M := [x, mp]) (k7.mono fun b hb => by simp only [List.mem_cons, List.not_mem_nil, or_false, List.mem_append] at hb ⊢; rcases hb with h | h | h <;> simp [h]) fun b hb => by
            rcases List.mem_cons.mp hb with rfl | hb
            · exact fx
            · rw [List.mem_singleton.mp hb]; exact fmp
          have kF8 : Kx [st, a.p__law_refused] F' G8 := kF7.fresh (M := [y, mp2]) (kx8.mono fun b hb => List.mem_append_left _ hb) fun b hb => by
            rcases List.mem_cons.mp hb with rfl | hb
            · exact fy0
            · rw [List.mem_singleton.mp hb]; exact fmp20
          exact C.kx kF8 T8 t8
        · rintro σ F ⟨C, v5, v6, v7, v8, v9, v10, v11, rfl⟩
          exact ⟨C.sc, C.tab, _, _, _, _, _, _, _, _, _, _, _, rfl⟩
      · rintro σ F ⟨sc, tb, v1, v2, v3, v4, v5, v6, v7, v8, v9, v10, v11, rfl⟩
        exact hN _ _ ⟨_, _, _, _, _, _, _, _, _, _, _, rfl⟩
    rintro σ F ⟨v1, v2, v3, v4, v5, v6, v7, v8, v9, v10, v11, rfl⟩
    walk_at "rd"
    intro y dy hy hdy ney
    have sr : Same F (upd (upd F dy (HO.own y)) y (HO.ins a.c_Rules dy [])) := (same_new hdy).trans (same_new (by rw [upd_ne (Ne.symm ney)]; exact hy))
    refine ⟨y, dy, usual, lateV y, usual_ok, upd_same, fun F1 r1 r2 => ⟨rfl, fun x dx hx hdx ne => ?_⟩⟩
    refine ⟨x, dx, y, dy, usual, rfl, upd_same, (same_new hdx).trans (same_new (by rw [upd_ne (Ne.symm ne)]; exact hx)) _ _ r1, fun F2 mp dm fl hmp hfl S2 k2 => ⟨rfl, ?_⟩⟩
    generalize v10 = v10'
    refine tlc_all (ι := Addr × Hp) (C := fun z => z.2 z.1 = some (.tup (ps7.map sV)) ∧ Same F2 z.2) (J := fun z => Itt K z.1) (H1 := fun z => z.2) (fun R hR => ?_) fun z hz D hD => ?_
    · walk_at "rd"
      rw [late7]
      intro p7 hp7
      exact ⟨⟨_, .inl (.inl upd_same)⟩, hR (p7, _) ⟨upd_same, same_new hp7⟩⟩
    · obtain ⟨tp7, F3⟩ := z
      obtain ⟨z1, z2⟩ := hz
      dsimp only at z1 z2 hD ⊢
      have S3 := S2.same z2
      obtain ⟨_, ef3, _⟩ := S3.h3
      have nDf : D ≠ fl := Ne.symm (ne_of_none ef3 hD)
      have nDm : D ≠ mp := Ne.symm (ne_of_none S3.h2 hD)
      refine lc_P ps7 (fun i acc G => K2 mp fl F3 G ∧ Spl a G x dx mp dm fl y dy usual (ps7.take i).flatten ∧ Paired (fun v ws => ∃ l, v = .ref l ∧ G l = some (.lst (ws.map sV)) ∧ l ≠ D ∧ l ≠ fl) acc (outs7.take i)) (G := fun H => SqT K H tp7 (ps7.map sV)) (List.length_map (as := ps7) sV ▸ walk_tup) (by decide) ⟨fun b o e _ _ => same_new (o := HO.lst []) hD b o e, S3.same (same_new hD), by rw [List.take_zero]; exact .nil⟩ (fun i acc G ⟨k, _, _⟩ _ => .inl (.inl (k _ _ z1 (ne_of z1 S3.h2 fun z => by cases z) (ne_of z1 ef3 fun z => by cases z)))) ?_ ?_
      · rintro R R' i u v G G' acc hu ⟨kG, SG, pG⟩ hDG ⟨rfl, hv⟩ hk
        rw [List.getElem?_map, hu] at hv
        cases hv
        obtain ⟨ws, hws, out⟩ := late_outs y i u hu
        obtain ⟨f1, f2, f3⟩ := flat_take hu
        walk_at "rd"
        have tot : ps7.flatten.length = 12 := rfl
        have uall : u.all sgn = true := List.all_eq_true.mpr fun c hc => List.all_eq_true.mp (show ps7.flatten.all sgn = true by decide) c (f3 c hc)
        refine ⟨_, _, SG.h1, lkn_take _ _ _, x, dx, mp, dm, fl, y, dy, usual, _, u, rfl, SG, by decide, by omega, uall, fun l1 G1 hl1 el1 S1 k1 => ?_⟩
        have hD1 := k1 _ _ hDG nDm nDf
        obtain ⟨_, efG, _⟩ := SG.h3
        have nl1f : l1 ≠ fl := Ne.symm (ne_of_none efG hl1)
        have nl1D : l1 ≠ D := Ne.symm (ne_of_none hDG hl1)
        refine hk _ _ hD1 ⟨fun b o e n m => ?_, ?_, ?_⟩
        · rw [upd_ne fun z => by rw [z, hD] at e; cases e]
          exact k1 _ _ (kG b o e n m) n m
        · rw [f1]
          exact S1.lst hD1 nDf
        · rw [take_at hws]
          refine Paired.app (Paired.mapP pG fun _ _ ⟨l, e1, e2, e3, e4⟩ => ⟨l, e1, (upd_ne e3).trans (k1 _ _ e2 (ne_of e2 SG.h2 fun z => by cases z) e4), e3, e4⟩) (.cons ⟨l1, rfl, (upd_ne nl1D).trans ?_, nl1D, nl1f⟩ .nil)
          rw [el1, ← out, List.map_map]
          rfl
      · rintro G acc ⟨kG, SG, pG⟩ hDG
        have pG : Paired (fun v ws => ∃ l, v = .ref l ∧ G l = some (.lst (ws.map sV)) ∧ l ≠ D ∧ l ≠ fl) acc outs7 := pG
        have SG : Spl a G x dx mp dm fl y dy usual ps7.flatten := SG
        have eab : Str.ofString "ab" = S [97, 98] := by decide +kernel
        have ec : Str.ofString "c" = S [99] := by decide +kernel
        have exy : Str.ofString "x y" = S [120, 32, 121] := by decide +kernel
        rw [eab, ec, exy]
        walk_at "al"
        rename_i p1 h1 G1 s1 e1
        walk_at "al"
        rename_i p2 h2 G2 s2 e2
        walk_at "al"
        rename_i p3 h3 G3 s3 e3
        walk_at "al"
        rename_i p4 h4 G4 s4 e4
        walk_at "al"
        rename_i p5 h5 G5 s5 e5
        walk_at "al"
        rename_i p6 h6 G6 s6 e6
        walk_at "al"
        rename_i p7 h7 G7 s7 e7
        walk_at "al"
        rename_i p8 h8 G8 s8 e8
        have t7 := s7.trans s8
        have t6 := s6.trans t7
        have t5 := s5.trans t6
        have t4 := s4.trans t5
        have t3 := s3.trans t4
        have t2 := s2.trans t3
        have t1 := s1.trans t2
        have S8 := SG.same t1
        have tm : tame (.list (outs7.map wsD)) = true := by decide +kernel
        have dd : (PyData.list (outs7.map wsD)).depth ≤ 32 := by decide +kernel
        refine ⟨.list (outs7.map wsD), .lst (.inl (.inl (t1 _ _ hDG))) (dpAll_paired (g := wsD) (fun v ws ⟨l, q1, q2, _, _⟩ => by subst q1; exact dp_ws (.inl (.inl (t1 _ _ q2)))) pG), .list (outs7.map wsD), .lst (.inl (.inl e8)) ?_, shaped_of tm dd, shaped_of tm dd, ?_⟩
        · exact .cons (dp_ws (ws := []) (.inl (.inl (t2 _ _ e1)))) (.cons (dp_ws (ws := []) (.inl (.inl (t3 _ _ e2)))) (.cons (dp_ws (ws := [[97, 98]]) (.inl (.inl (t4 _ _ e3)))) (.cons (dp_ws (ws := [[99]]) (.inl (.inl (t5 _ _ e4)))) (.cons (dp_ws (ws := []) (.inl (.inl (t6 _ _ e5)))) (.cons (dp_ws (ws := [[120, 32, 121]]) (.inl (.inl (t7 _ _ e6)))) (.cons (dp_ws (ws := []) (.inl (.inl (s8 _ _ e7)))) .nil))))))
        rw [eqv_dec (p := True) tm tm (by simp)]
        refine ite2 (fun _ => ?_) (fun z => by simp at z)
        refine ⟨_, _, S8.h1, lkn_end _ _ _, x, dx, mp, dm, fl, y, dy, usual, _, rfl, S8, by decide, fun q1 G9 hq1 an hp9 k9 => ?_⟩
        rw [late_read] at an
        obtain ⟨d1, m1, m2, zs, a1, a2, a3, a4, _⟩ := an
        refine ⟨_, rfl, _, _, _, a1, T.c_Words.cl, T.n_Words_places, _, lk_WFp' _ _, ?_⟩
        walk_at "al"
        rename_i p1 h1 F1' s1 e1
        walk_at "al"
        rename_i p2 h2 F2' s2 e2
        walk_at "al"
        rename_i p3 h3 F3' s3 e3
        walk_at "al"
        rename_i p4 h4 F4' s4 e4
        walk_at "al"
        rename_i p5 h5 F5' s5 e5
        have t4 := s4.trans s5
        have t3 := s3.trans t4
        have t2 := s2.trans t3
        have t1 := s1.trans t2
        have tm : tame (psD [(0, 2), (3, 4), (5, 10), (11, 12)]) = true := by decide +kernel
        have dd : (psD [(0, 2), (3, 4), (5, 10), (11, 12)]).depth ≤ 32 := by decide +kernel
        refine ⟨psD [(0, 2), (3, 4), (5, 10), (11, 12)], dp_ps (.inl (.inl (t1 _ _ a3))) (Paired.mapP a4 fun _ _ z => z.mono fun b xs => t1 b _), psD [(0, 2), (3, 4), (5, 10), (11, 12)], dp_ps (.inl (.inl e5)) (.cons ⟨p1, rfl, t2 _ _ e1⟩ (.cons ⟨p2, rfl, t3 _ _ e2⟩ (.cons ⟨p3, rfl, t4 _ _ e3⟩ (.cons ⟨p4, rfl, s5 _ _ e4⟩ .nil)))), shaped_of tm dd, shaped_of tm dd, ?_⟩
        rw [eqv_dec (p := True) tm tm (by simp)]
        exact q _
end
end Qw

set_option Elab.async false
set_option linter.all false
set_option maxRecDepth 100000
set_option maxHeartbeats 4000000
/-! a law whose helpers make lambdas: their code objects' tables may grow -/
namespace Qw
open PySem L2 LamX PySem.Spec PyProof.Rows
abbrev tab0 : Obj := { cls := .none, data := .fields #[] }
/-- what is tracked at first: the tables, the script if it is not written in K -/
def Kind (K : PySem.W.Frag) (cs : List (Addr × Addr)) (a : Addr) (sc : Obj) (xs : List V) (H : Hp) : Prop :=
  ∀ b u, H b = some u → (u = .tbl #[] ∧ ∃ p ∈ cs, p.2 = b) ∨ (b = a ∧ K.lookup a = none ∧ u = .frz sc (.lst xs))
theorem law_callGT {P : Program} {w : World} {K : PySem.W.Frag} {mg mb : Str → Option Value} {k : Nat} {fa a : Addr} {fd : FuncData} {x : Str} {sp : Sp} {s : Shared} {vs : List Value} {ns : List Int} {cs : List (Addr × Addr)}
    (inK : K.In s.heap) (nsG : s.heap.Ns mainGlobals mg) (nsB : s.heap.Ns builtinsNs mb) (boot : ∀ x : Str, x ≠ "__name__" → mb x = bootBuiltins x)
    (nol : s.heap.NoLimit) (nog : s.gens = #[]) (at_a : s.heap.get? a = some { cls := .type "list", data := .seq vs.toArray }) (inZ : IntsAre vs ns)
    (few : ns.length ≤ sizeLine) (room : Room k callerA)
    (tabs : ∀ p ∈ cs, s.heap.get? p.2 = some tab0) (outK : ∀ p ∈ cs, K.lookup p.2 = none) (code : ∀ p ∈ cs, PySem.W.CodeHd s.heap p.1 p.2)
    (bmod : ∃ (m : Addr) (ob : Obj), mg "__builtins__" = some (.ref m) ∧ m ≠ builtinsNs ∧ s.heap.get? m = some ob ∧ ob.cls = .type "module" ∧ ob.dict = some builtinsNs ∧ ob.data = .plain)
    (F : ∀ base : Heap, K.In base → base.Ns mainGlobals mg → (∀ p ∈ cs, TabB base mg p.1 p.2) → FnG P w K mg base k fa fd [x] sp)
    (binds : ∀ (s : Shared) (u : Value), BindsTo s fd ⟨[u], []⟩ [(x, u)])
    (start : ∀ H : Hp, (∀ p ∈ cs, H p.2 = some (.tbl #[])) → ((∃ o, H a = some (.frz o (.lst (ns.map V.int)))) ∨ SqL K (fun _ => none) a (ns.map V.int)) → sp [.ref a] H (fun v _ => v = .bl true) E0) :
    codeAny (model P w) callerA (.call (.ref fa) ⟨[.ref a], []⟩)
      (fun r s' => r = .ok (.ret (.bool true)) ∧ OldK s.heap s'.heap ∧ s'.os = s.os ∧ AllBare s'.gens) s := by
  have lenV := inZ.length
  let sc : Obj := { cls := .type "list", data := .seq vs.toArray }
  have main : ∀ H : Hp, Kind K cs a sc (ns.map V.int) H → (∀ p ∈ cs, H p.2 = some (.tbl #[])) → ((∃ o, H a = some (.frz o (.lst (ns.map V.int)))) ∨ SqL K (fun _ => none) a (ns.map V.int)) →
      codeAny (model P w) callerA (.call (.ref fa) ⟨[.ref a], []⟩)
        (fun r s' => r = .ok (.ret (.bool true)) ∧ OldK s.heap s'.heap ∧ s'.os = s.os ∧ AllBare s'.gens) s := by
    intro H kd tb st
    have seen : ∀ {b : Addr} {u : HO}, H b = some u → K.lookup b = none ∧ (s.heap.get? b = some tab0 ∨ s.heap.get? b = some sc) := fun {b u} e => by
      rcases kd b u e with ⟨_, p, hp, rfl⟩ | ⟨rfl, h2, _⟩
      · exact ⟨outK p hp, .inl (tabs p hp)⟩
      · exact ⟨h2, .inr at_a⟩
    have hid : ∀ {b : Addr} {o : Obj}, s.heap.get? b = some o → o.data ≠ .fields #[] → (∀ vs n, o.data ≠ .seq vs n) → (hidT s.heap H).get? b = some o := fun {b o} e n1 n2 => by
      refine hidT_get e ?_
      cases q : H b with
      | none => rfl
      | some u =>
        rcases (seen q).2 with z | z
        · rw [e] at z
          exact absurd (congrArg Obj.data (Option.some.inj z)) n1
        · rw [e] at z
          exact absurd (congrArg Obj.data (Option.some.inj z)) (n2 _ _)
    have nsH : ∀ {b : Addr} {m : Str → Option Value}, s.heap.Ns b m → (hidT s.heap H).Ns b m := by
      rintro b m ⟨o, es, ep, e, d, r⟩
      exact ⟨o, es, ep, hid e (fun z => by rw [d] at z; cases z) (fun _ _ z => by rw [d] at z; cases z), d, r⟩
    have KH : K.In (hidT s.heap H) := fun b o e => by
      refine hidT_get (inK b o e) ?_
      cases q : H b with
      | none => rfl
      | some u =>
        rw [(seen q).1] at e
        cases e
    have MH : Mod K mg (hidT s.heap H) := by
      obtain ⟨mc, l1, l2⟩ := nol
      exact ⟨KH, nsH nsG, ⟨mb, nsH nsB, boot⟩, ⟨mc, nsH l1, l2⟩⟩
    have ok : HOk P w H s.heap := fun b u e => by
      rcases kd b u e with ⟨rfl, p, hp, rfl⟩ | ⟨rfl, _, rfl⟩
      · exact tabs p hp
      · exact ⟨at_a, by rw [List.length_map]; exact few, vs, _, vals_ints inZ, at_a⟩
    have TB : ∀ p ∈ cs, TabB (hidT s.heap H) mg p.1 p.2 := fun p hp => by
      refine ⟨?_, ?_, ?_⟩
      · obtain ⟨oc, fs, f1, f2, g1, g2, i1, i2, i3, c1, c2, c3, c4, rest⟩ := code p hp
        refine ⟨oc, fs, f1, f2, g1, g2, i1, i2, i3, hid c1 (fun z => ?_) (fun _ _ z => ?_), c2, c3, c4, rest⟩
        · rw [c3] at z
          have z := Data.fields.inj z
          rw [z] at c4
          simp at c4
        · rw [c3] at z; cases z
      · obtain ⟨m, ob, m1, m2, m3, m4, m5, m6⟩ := bmod
        refine ⟨m, ob, m1, m2, ?_, ?_, hid m3 (fun z => by rw [m6] at z; cases z) (fun _ _ z => by rw [m6] at z; cases z), m4, m5, m6⟩
        · rintro rfl
          obtain ⟨o, es, ep, e, d, _⟩ := nsG
          rw [e] at m3
          cases m3
          rw [d] at m6; cases m6
        · rintro rfl
          rw [tabs p hp] at m3
          cases m3
          cases m6
      · intro z
        obtain ⟨o, es, ep, e, d, _⟩ := nsG
        rw [z, tabs p hp] at e
        cases e
        cases d
    have env : Env0 P w K mg (hidT s.heap H) callerA [] s H :=
      ⟨rfl, MH, fun _ _ e => of_hidT e, Nat.le_of_eq (hidT_size _ _), trivial, fun b z => (by cases z), ok, .of_eq nog⟩
    have run := (F _ KH (nsH nsG) TB).runG callerA [] s H ⟨[.ref a], []⟩ [.ref a] [.ref a] _ _ free_caller room env (binds s (.ref a)) (.cons rfl .nil) (start H tb st)
    refine codeAny_mono run fun r s' h => ?_
    match r, h with
    | .error _, h => exact h.elim
    | .ok (.ret u), h =>
      obtain ⟨v, H', os, bare, un, ok', rv, q⟩ := h
      cases (show v = .bl true from q)
      cases (show u = Value.bool true from rv)
      have kept : ∀ b o, (∀ p ∈ cs, p.2 ≠ b) → s.heap.get? b = some o → s'.heap.get? b = some o := fun b o nb e => by
        cases q : H b with
        | none => exact un.keep b o e q (by intro y; cases y) (by simp)
        | some u =>
          rcases kd b u q with ⟨_, p, hp, z⟩ | ⟨rfl, _, rfl⟩
          · exact absurd z (nb p hp)
          · rw [at_a] at e
            cases e
            exact (ok' b _ (un.frzs b _ _ q)).1
      have more : ∀ p ∈ cs, ∃ add : Array Value, s'.heap.get? p.2 = some { cls := .none, data := .fields (#[] ++ add) } := fun p hp => by
        obtain ⟨add, z⟩ := un.tbls _ _ (tb p hp)
        exact ⟨add, ok' p.2 _ z⟩
      refine ⟨rfl, ⟨fun b o e => ?_, fun b o e => ?_⟩, os, bare⟩
      · by_cases hb : ∃ p ∈ cs, p.2 = b
        · obtain ⟨p, hp, rfl⟩ := hb
          obtain ⟨add, g⟩ := more p hp
          rw [tabs p hp] at e
          cases e
          exact .inr (.inl ⟨((code p hp).tab (tabs p hp)).isCodeTable, rfl, #[], add, rfl, g⟩)
        · exact .inl (kept b o (fun p hp z => hb ⟨p, hp, z⟩) e)
      · by_cases hb : ∃ p ∈ cs, p.2 = b
        · obtain ⟨p, hp, rfl⟩ := hb
          obtain ⟨add, g⟩ := more p hp
          exact ⟨_, g⟩
        · exact ⟨o, kept b o (fun p hp z => hb ⟨p, hp, z⟩) e⟩
  have apart : ∀ p ∈ cs, p.2 ≠ a := fun p hp z => by
    have e := tabs p hp
    rw [z, at_a] at e
    cases e
  rcases hk : K.lookup a with _ | o
  · refine main (fun b => if b = a then some (.frz sc (.lst (ns.map V.int))) else if ∃ p ∈ cs, p.2 = b then some (.tbl #[]) else none) (fun b u e => ?_) (fun p hp => ?_) (.inl ⟨sc, if_pos rfl⟩)
    · dsimp only at e
      split at e
      · rename_i ba
        exact .inr ⟨ba, hk, (Option.some.inj e).symm⟩
      · split at e
        · rename_i hb
          exact .inl ⟨(Option.some.inj e).symm, hb⟩
        · cases e
    · exact (if_neg (apart p hp)).trans (if_pos ⟨p, hp, rfl⟩)
  · have e := inK a o hk
    rw [at_a] at e
    cases e
    refine main (fun b => if ∃ p ∈ cs, p.2 = b then some (.tbl #[]) else none) (fun b u e => ?_) (fun p hp => if_pos ⟨p, hp, rfl⟩) (.inr (.inr ⟨_, vs.toArray, _, hk, rfl, rfl, rfl, by rw [List.size_toArray, lenV]; exact few, by simpa using vals_ints inZ⟩))
    dsimp only at e
    split at e
    · rename_i hb
      exact .inl ⟨(Option.some.inj e).symm, hb⟩
    · cases e
/-- such a law's end -/
theorem walk_ofGT {l : PySem.W.OpenLaw} {n k : Nat} {q : Program} {loose : List Str} {XP : (Str → Option Value) → Heap → Prop} {YP : World → Heap → Prop} {d : DefRec} {x : Str}
    (most : l.most = some n) (small : n ≤ sizeLine) (nodef : d.params.defaults = []) (room : Room k callerA)
    (F : ∀ (w : World) (mg : Str → Option Value) (fa : Addr) (h : Heap), YP w h → h.Ns mainGlobals mg → mg d.name = some (.ref fa) →
      ∃ (K : PySem.W.Frag) (fd : FuncData) (sp : Sp) (cs : List (Addr × Addr)), K.In h ∧ (∀ p ∈ cs, h.get? p.2 = some tab0 ∧ K.lookup p.2 = none ∧ PySem.W.CodeHd h p.1 p.2) ∧ (∀ (s : Shared) (u : Value), BindsTo s fd ⟨[u], []⟩ [(x, u)]) ∧
        (∀ (H : Hp) (a : Addr) (ns : List Int), ns.length ≤ n → (∀ p ∈ cs, H p.2 = some (.tbl #[])) → ((∃ o, H a = some (.frz o (.lst (ns.map V.int)))) ∨ SqL K (fun _ => none) a (ns.map V.int)) → sp [.ref a] H (fun v _ => v = .bl true) E0) ∧
        ∀ base : Heap, K.In base → base.Ns mainGlobals mg → (∀ p ∈ cs, TabB base mg p.1 p.2) → FnG l.prog w K mg base k fa fd [x] sp) : PySem.W.WalkO q loose XP YP l.row.toRowW d [] (fun f vs => PySem.call f vs) := by
  refine Att.attach_callB most nodef fun w _ s mg mb fa o pm cd doc a vs ns G Y ho hd hcd hmg hob hin hlen hbits hg => ?_
  obtain ⟨K, fd, sp, cs, KX, ht, hb, hsp, hF⟩ := F w mg fa _ Y G.T.g hmg
  exact law_callGT KX G.T.g G.T.b G.T.builtins G.T.nolimit hg hob hin (Nat.le_trans hlen small) room (fun p hp => (ht p hp).1) (fun p hp => (ht p hp).2.1) (fun p hp => (ht p hp).2.2) G.T.bmain hF hb fun H hT hS => hsp H a ns hlen hT hS
end Qw

set_option Elab.async false
set_option linter.all false
set_option maxRecDepth 100000
set_option maxHeartbeats 4000000
namespace Qw
open PySem L2 LamX
theorem kit_own {K : PySem.W.Frag} {C D : Addr} {b : Bool} (ne : (C : Nat) ≠ D) (hd : PySem.W.hasDictIn K D = true) (ht : PySem.W.typeIn K (.ref D) = some (.type "type")) (h : PySem.W.mroIn K C (.ref D) = some b) : PySem.W.kitOne K (.ref C) (.ref D) = some b := by
  obtain ⟨cd, hc, _⟩ := PySem.W.any_some hd
  have e2 : ((PySem.W.clsIn K D).isSome && PySem.W.typeIn K (.ref D) == some (.type "type")) = true := by
    rw [hc, ht]
    rfl
  show (if (Value.ref C == Value.ref D) = true then some true else if ((PySem.W.clsIn K D).isSome && PySem.W.typeIn K (.ref D) == some (.type "type")) = true then PySem.W.mroIn K C (.ref D) else none) = some b
  rw [if_neg (fun z => ne (Value.ref.inj (beq_iff_eq.mp z))), if_pos e2]
  exact h
theorem all_mk {P : Program} {w : World} {K : PySem.W.Frag} {h : Heap} {mg : Str → Option Value} {fa : Addr} (X : K.In h) (G : h.Ns mainGlobals mg) (hfa : mg "law" = some (.ref fa))
    {C_QuoteError C_Ended C_Rules C_Machine C_Answer C_Words C_Fault C_Splitter f_are_signs f_Rules_init T_Rules_init f_Rules_told f_Rules_quotes f_Machine_init f_Machine_begin f_Machine_ended f_Machine_plain f_Machine_quoted f_Machine_step f_Machine_fault f_Words_init f_Fault_init f_Splitter_init f_Splitter_take f_Splitter_end f__law_cell_at f__law_draw f__law_number f__law_next f__law_told f__law_text f__law_rules f__law_quoted f__law_word f__law_read f__law_over f__law_ended f__law_pieces f__law_refused kd__law_refused p__law_refused f__law_end_right f_law a_MOST : Addr}
    {kV_are_signs dc_are_signs pm_are_signs cd_are_signs ct_are_signs oc_are_signs : Value}
    {od_are_signs an_are_signs : Option Addr}
    {sl_are_signs : Array (Option Value)}
    {kV_Rules_init dc_Rules_init pm_Rules_init cd_Rules_init ct_Rules_init oc_Rules_init : Value}
    {od_Rules_init an_Rules_init : Option Addr}
    {sl_Rules_init : Array (Option Value)}
    {odT_Rules_init : Option Addr}
    {slT_Rules_init : Array (Option Value)}
    {nT_Rules_init : Nat}
    {t0_Rules_init t1_Rules_init t2_Rules_init t3_Rules_init t4_Rules_init : Tok}
    {kV_Rules_told dc_Rules_told pm_Rules_told cd_Rules_told ct_Rules_told oc_Rules_told : Value}
    {od_Rules_told an_Rules_told : Option Addr}
    {sl_Rules_told : Array (Option Value)}
    {kV_Rules_quotes dc_Rules_quotes pm_Rules_quotes cd_Rules_quotes ct_Rules_quotes oc_Rules_quotes : Value}
    {od_Rules_quotes an_Rules_quotes : Option Addr}
    {sl_Rules_quotes : Array (Option Value)}
    {kV_Machine_init dc_Machine_init pm_Machine_init cd_Machine_init ct_Machine_init oc_Machine_init : Value}
    {od_Machine_init an_Machine_init : Option Addr}
    {sl_Machine_init : Array (Option Value)}
    {kV_Machine_begin dc_Machine_begin pm_Machine_begin cd_Machine_begin ct_Machine_begin oc_Machine_begin : Value}
    {od_Machine_begin an_Machine_begin : Option Addr}
    {sl_Machine_begin : Array (Option Value)}
    {kV_Machine_ended dc_Machine_ended pm_Machine_ended cd_Machine_ended ct_Machine_ended oc_Machine_ended : Value}
    {od_Machine_ended an_Machine_ended : Option Addr}
    {sl_Machine_ended : Array (Option Value)}
    {kV_Machine_plain dc_Machine_plain pm_Machine_plain cd_Machine_plain ct_Machine_plain oc_Machine_plain : Value}
    {od_Machine_plain an_Machine_plain : Option Addr}
    {sl_Machine_plain : Array (Option Value)}
    {kV_Machine_quoted dc_Machine_quoted pm_Machine_quoted cd_Machine_quoted ct_Machine_quoted oc_Machine_quoted : Value}
    {od_Machine_quoted an_Machine_quoted : Option Addr}
    {sl_Machine_quoted : Array (Option Value)}
    {kV_Machine_step dc_Machine_step pm_Machine_step cd_Machine_step ct_Machine_step oc_Machine_step : Value}
    {od_Machine_step an_Machine_step : Option Addr}
    {sl_Machine_step : Array (Option Value)}
    {kV_Machine_fault dc_Machine_fault pm_Machine_fault cd_Machine_fault ct_Machine_fault oc_Machine_fault : Value}
    {od_Machine_fault an_Machine_fault : Option Addr}
    {sl_Machine_fault : Array (Option Value)}
    {kV_Words_init dc_Words_init pm_Words_init cd_Words_init ct_Words_init oc_Words_init : Value}
    {od_Words_init an_Words_init : Option Addr}
    {sl_Words_init : Array (Option Value)}
    {kV_Fault_init dc_Fault_init pm_Fault_init cd_Fault_init ct_Fault_init oc_Fault_init : Value}
    {od_Fault_init an_Fault_init : Option Addr}
    {sl_Fault_init : Array (Option Value)}
    {kV_Splitter_init dc_Splitter_init pm_Splitter_init cd_Splitter_init ct_Splitter_init oc_Splitter_init : Value}
    {od_Splitter_init an_Splitter_init : Option Addr}
    {sl_Splitter_init : Array (Option Value)}
    {kV_Splitter_take dc_Splitter_take pm_Splitter_take cd_Splitter_take ct_Splitter_take oc_Splitter_take : Value}
    {od_Splitter_take an_Splitter_take : Option Addr}
    {sl_Splitter_take : Array (Option Value)}
    {kV_Splitter_end dc_Splitter_end pm_Splitter_end cd_Splitter_end ct_Splitter_end oc_Splitter_end : Value}
    {od_Splitter_end an_Splitter_end : Option Addr}
    {sl_Splitter_end : Array (Option Value)}
    {kV__law_cell_at dc__law_cell_at pm__law_cell_at cd__law_cell_at ct__law_cell_at oc__law_cell_at : Value}
    {od__law_cell_at an__law_cell_at : Option Addr}
    {sl__law_cell_at : Array (Option Value)}
    {kV__law_draw dc__law_draw pm__law_draw cd__law_draw ct__law_draw oc__law_draw : Value}
    {od__law_draw an__law_draw : Option Addr}
    {sl__law_draw : Array (Option Value)}
    {kV__law_number dc__law_number pm__law_number cd__law_number ct__law_number oc__law_number : Value}
    {od__law_number an__law_number : Option Addr}
    {sl__law_number : Array (Option Value)}
    {kV__law_next dc__law_next pm__law_next cd__law_next ct__law_next oc__law_next : Value}
    {od__law_next an__law_next : Option Addr}
    {sl__law_next : Array (Option Value)}
    {kV__law_told dc__law_told pm__law_told cd__law_told ct__law_told oc__law_told : Value}
    {od__law_told an__law_told : Option Addr}
    {sl__law_told : Array (Option Value)}
    {kV__law_text dc__law_text pm__law_text cd__law_text ct__law_text oc__law_text : Value}
    {od__law_text an__law_text : Option Addr}
    {sl__law_text : Array (Option Value)}
    {kV__law_rules dc__law_rules pm__law_rules cd__law_rules ct__law_rules oc__law_rules : Value}
    {od__law_rules an__law_rules : Option Addr}
    {sl__law_rules : Array (Option Value)}
    {kV__law_quoted dc__law_quoted pm__law_quoted cd__law_quoted ct__law_quoted oc__law_quoted : Value}
    {od__law_quoted an__law_quoted : Option Addr}
    {sl__law_quoted : Array (Option Value)}
    {kV__law_word dc__law_word pm__law_word cd__law_word ct__law_word oc__law_word : Value}
    {od__law_word an__law_word : Option Addr}
    {sl__law_word : Array (Option Value)}
    {kV__law_read dc__law_read pm__law_read cd__law_read ct__law_read oc__law_read : Value}
    {od__law_read an__law_read : Option Addr}
    {sl__law_read : Array (Option Value)}
    {kV__law_over dc__law_over pm__law_over cd__law_over ct__law_over oc__law_over : Value}
    {od__law_over an__law_over : Option Addr}
    {sl__law_over : Array (Option Value)}
    {kV__law_ended dc__law_ended pm__law_ended cd__law_ended ct__law_ended oc__law_ended : Value}
    {od__law_ended an__law_ended : Option Addr}
    {sl__law_ended : Array (Option Value)}
    {kV__law_pieces dc__law_pieces pm__law_pieces cd__law_pieces ct__law_pieces oc__law_pieces : Value}
    {od__law_pieces an__law_pieces : Option Addr}
    {sl__law_pieces : Array (Option Value)}
    {kV__law_refused dc__law_refused pm__law_refused ct__law_refused oc__law_refused : Value}
    {od__law_refused an__law_refused : Option Addr}
    {sl__law_refused : Array (Option Value)}
    {kV__law_end_right dc__law_end_right pm__law_end_right cd__law_end_right ct__law_end_right oc__law_end_right : Value}
    {od__law_end_right an__law_end_right : Option Addr}
    {sl__law_end_right : Array (Option Value)}
    {kV_law dc_law pm_law cd_law ct_law oc_law : Value}
    {od_law an_law : Option Addr}
    {sl_law : Array (Option Value)}
    {t_LINE_END : Tok}
    {t0_MOST t1_MOST t2_MOST t3_MOST t4_MOST : Tok}
    {od_MOST : Option Addr}
    {sl_MOST : Array (Option Value)}
    {n_MOST : Nat}
    {t_PLAIN : Tok}
    {t_NOTED : Tok}
    (hts : ∀ P ∈ [p__law_refused], h.get? P = some tab0)
    (aC_QuoteError : PySem.W.nsIn K mainGlobals "QuoteError" = some (some (.ref C_QuoteError)))
    (aC_Ended : PySem.W.nsIn K mainGlobals "Ended" = some (some (.ref C_Ended)))
    (aC_Rules : PySem.W.nsIn K mainGlobals "Rules" = some (some (.ref C_Rules)))
    (aC_Machine : PySem.W.nsIn K mainGlobals "Machine" = some (some (.ref C_Machine)))
    (aC_Answer : PySem.W.nsIn K mainGlobals "Answer" = some (some (.ref C_Answer)))
    (aC_Words : PySem.W.nsIn K mainGlobals "Words" = some (some (.ref C_Words)))
    (aC_Fault : PySem.W.nsIn K mainGlobals "Fault" = some (some (.ref C_Fault)))
    (aC_Splitter : PySem.W.nsIn K mainGlobals "Splitter" = some (some (.ref C_Splitter)))
    (a_are_signs : PySem.W.nsIn K mainGlobals "are_signs" = some (some (.ref f_are_signs)))
    (l_are_signs : K.lookup f_are_signs = some ⟨oc_are_signs, od_are_signs, .func (PySem.W.fnOf "are_signs" "are_signs" (defArgs st_are_signs) (defBody st_are_signs) (defScope st_are_signs) .none kV_are_signs dc_are_signs pm_are_signs an_are_signs cd_are_signs ct_are_signs), sl_are_signs⟩)
    (c_are_signs : PySem.W.codeIn K cd_are_signs "are_signs" = true)
    (k_are_signs : PySem.W.keepIn K (.ref f_are_signs) = true)
    (a_Rules_init : PySem.W.findIn K (.ref C_Rules) "__init__" = some (some (.ref f_Rules_init)))
    (i_Rules_init : PySem.W.isFn K (.ref f_Rules_init) = true)
    (l_Rules_init : K.lookup f_Rules_init = some ⟨oc_Rules_init, od_Rules_init, .func (PySem.W.fnOf "__init__" "Rules.__init__" (defArgs st_Rules_init) (defBody st_Rules_init) (defScope st_Rules_init) (.ref T_Rules_init) kV_Rules_init dc_Rules_init pm_Rules_init an_Rules_init cd_Rules_init ct_Rules_init), sl_Rules_init⟩)
    (d_Rules_init : K.lookup T_Rules_init = some ⟨.type "tuple", odT_Rules_init, .seq #[Value.str (" " : Str) t0_Rules_init, Value.str ("'" : Str) t1_Rules_init, Value.str ("\"" : Str) t2_Rules_init, Value.str ("\\" : Str) t3_Rules_init, Value.str ("#" : Str) t4_Rules_init] nT_Rules_init, slT_Rules_init⟩)
    (c_Rules_init : PySem.W.codeIn K cd_Rules_init "Rules.__init__" = true)
    (k_Rules_init : PySem.W.keepIn K (.ref f_Rules_init) = true)
    (a_Rules_told : PySem.W.findIn K (.ref C_Rules) "told" = some (some (.ref f_Rules_told)))
    (i_Rules_told : PySem.W.isFn K (.ref f_Rules_told) = true)
    (l_Rules_told : K.lookup f_Rules_told = some ⟨oc_Rules_told, od_Rules_told, .func (PySem.W.fnOf "told" "Rules.told" (defArgs st_Rules_told) (defBody st_Rules_told) (defScope st_Rules_told) .none kV_Rules_told dc_Rules_told pm_Rules_told an_Rules_told cd_Rules_told ct_Rules_told), sl_Rules_told⟩)
    (c_Rules_told : PySem.W.codeIn K cd_Rules_told "Rules.told" = true)
    (k_Rules_told : PySem.W.keepIn K (.ref f_Rules_told) = true)
    (a_Rules_quotes : PySem.W.findIn K (.ref C_Rules) "quotes" = some (some (.ref f_Rules_quotes)))
    (i_Rules_quotes : PySem.W.isFn K (.ref f_Rules_quotes) = true)
    (l_Rules_quotes : K.lookup f_Rules_quotes = some ⟨oc_Rules_quotes, od_Rules_quotes, .func (PySem.W.fnOf "quotes" "Rules.quotes" (defArgs st_Rules_quotes) (defBody st_Rules_quotes) (defScope st_Rules_quotes) .none kV_Rules_quotes dc_Rules_quotes pm_Rules_quotes an_Rules_quotes cd_Rules_quotes ct_Rules_quotes), sl_Rules_quotes⟩)
    (c_Rules_quotes : PySem.W.codeIn K cd_Rules_quotes "Rules.quotes" = true)
    (k_Rules_quotes : PySem.W.keepIn K (.ref f_Rules_quotes) = true)
    (a_Machine_init : PySem.W.findIn K (.ref C_Machine) "__init__" = some (some (.ref f_Machine_init)))
    (i_Machine_init : PySem.W.isFn K (.ref f_Machine_init) = true)
    (l_Machine_init : K.lookup f_Machine_init = some ⟨oc_Machine_init, od_Machine_init, .func (PySem.W.fnOf "__init__" "Machine.__init__" (defArgs st_Machine_init) (defBody st_Machine_init) (defScope st_Machine_init) .none kV_Machine_init dc_Machine_init pm_Machine_init an_Machine_init cd_Machine_init ct_Machine_init), sl_Machine_init⟩)
    (c_Machine_init : PySem.W.codeIn K cd_Machine_init "Machine.__init__" = true)
    (k_Machine_init : PySem.W.keepIn K (.ref f_Machine_init) = true)
    (a_Machine_begin : PySem.W.findIn K (.ref C_Machine) "begin" = some (some (.ref f_Machine_begin)))
    (i_Machine_begin : PySem.W.isFn K (.ref f_Machine_begin) = true)
    (l_Machine_begin : K.lookup f_Machine_begin = some ⟨oc_Machine_begin, od_Machine_begin, .func (PySem.W.fnOf "begin" "Machine.begin" (defArgs st_Machine_begin) (defBody st_Machine_begin) (defScope st_Machine_begin) .none kV_Machine_begin dc_Machine_begin pm_Machine_begin an_Machine_begin cd_Machine_begin ct_Machine_begin), sl_Machine_begin⟩)
    (c_Machine_begin : PySem.W.codeIn K cd_Machine_begin "Machine.begin" = true)
    (k_Machine_begin : PySem.W.keepIn K (.ref f_Machine_begin) = true)
    (a_Machine_ended : PySem.W.findIn K (.ref C_Machine) "ended" = some (some (.ref f_Machine_ended)))
    (i_Machine_ended : PySem.W.isFn K (.ref f_Machine_ended) = true)
    (l_Machine_ended : K.lookup f_Machine_ended = some ⟨oc_Machine_ended, od_Machine_ended, .func (PySem.W.fnOf "ended" "Machine.ended" (defArgs st_Machine_ended) (defBody st_Machine_ended) (defScope st_Machine_ended) .none kV_Machine_ended dc_Machine_ended pm_Machine_ended an_Machine_ended cd_Machine_ended ct_Machine_ended), sl_Machine_ended⟩)
    (c_Machine_ended : PySem.W.codeIn K cd_Machine_ended "Machine.ended" = true)
    (k_Machine_ended : PySem.W.keepIn K (.ref f_Machine_ended) = true)
    (a_Machine_plain : PySem.W.findIn K (.ref C_Machine) "plain" = some (some (.ref f_Machine_plain)))
    (i_Machine_plain : PySem.W.isFn K (.ref f_Machine_plain) = true)
    (l_Machine_plain : K.lookup f_Machine_plain = some ⟨oc_Machine_plain, od_Machine_plain, .func (PySem.W.fnOf "plain" "Machine.plain" (defArgs st_Machine_plain) (defBody st_Machine_plain) (defScope st_Machine_plain) .none kV_Machine_plain dc_Machine_plain pm_Machine_plain an_Machine_plain cd_Machine_plain ct_Machine_plain), sl_Machine_plain⟩)
    (c_Machine_plain : PySem.W.codeIn K cd_Machine_plain "Machine.plain" = true)
    (k_Machine_plain : PySem.W.keepIn K (.ref f_Machine_plain) = true)
    (a_Machine_quoted : PySem.W.findIn K (.ref C_Machine) "quoted" = some (some (.ref f_Machine_quoted)))
    (i_Machine_quoted : PySem.W.isFn K (.ref f_Machine_quoted) = true)
    (l_Machine_quoted : K.lookup f_Machine_quoted = some ⟨oc_Machine_quoted, od_Machine_quoted, .func (PySem.W.fnOf "quoted" "Machine.quoted" (defArgs st_Machine_quoted) (defBody st_Machine_quoted) (defScope st_Machine_quoted) .none kV_Machine_quoted dc_Machine_quoted pm_Machine_quoted an_Machine_quoted cd_Machine_quoted ct_Machine_quoted), sl_Machine_quoted⟩)
    (c_Machine_quoted : PySem.W.codeIn K cd_Machine_quoted "Machine.quoted" = true)
    (k_Machine_quoted : PySem.W.keepIn K (.ref f_Machine_quoted) = true)
    (a_Machine_step : PySem.W.findIn K (.ref C_Machine) "step" = some (some (.ref f_Machine_step)))
    (i_Machine_step : PySem.W.isFn K (.ref f_Machine_step) = true)
    (l_Machine_step : K.lookup f_Machine_step = some ⟨oc_Machine_step, od_Machine_step, .func (PySem.W.fnOf "step" "Machine.step" (defArgs st_Machine_step) (defBody st_Machine_step) (defScope st_Machine_step) .none kV_Machine_step dc_Machine_step pm_Machine_step an_Machine_step cd_Machine_step ct_Machine_step), sl_Machine_step⟩)
    (c_Machine_step : PySem.W.codeIn K cd_Machine_step "Machine.step" = true)
    (k_Machine_step : PySem.W.keepIn K (.ref f_Machine_step) = true)
    (a_Machine_fault : PySem.W.findIn K (.ref C_Machine) "fault" = some (some (.ref f_Machine_fault)))
    (i_Machine_fault : PySem.W.isFn K (.ref f_Machine_fault) = true)
    (l_Machine_fault : K.lookup f_Machine_fault = some ⟨oc_Machine_fault, od_Machine_fault, .func (PySem.W.fnOf "fault" "Machine.fault" (defArgs st_Machine_fault) (defBody st_Machine_fault) (defScope st_Machine_fault) .none kV_Machine_fault dc_Machine_fault pm_Machine_fault an_Machine_fault cd_Machine_fault ct_Machine_fault), sl_Machine_fault⟩)
    (c_Machine_fault : PySem.W.codeIn K cd_Machine_fault "Machine.fault" = true)
    (k_Machine_fault : PySem.W.keepIn K (.ref f_Machine_fault) = true)
    (a_Words_init : PySem.W.findIn K (.ref C_Words) "__init__" = some (some (.ref f_Words_init)))
    (i_Words_init : PySem.W.isFn K (.ref f_Words_init) = true)
    (l_Words_init : K.lookup f_Words_init = some ⟨oc_Words_init, od_Words_init, .func (PySem.W.fnOf "__init__" "Words.__init__" (defArgs st_Words_init) (defBody st_Words_init) (defScope st_Words_init) .none kV_Words_init dc_Words_init pm_Words_init an_Words_init cd_Words_init ct_Words_init), sl_Words_init⟩)
    (c_Words_init : PySem.W.codeIn K cd_Words_init "Words.__init__" = true)
    (k_Words_init : PySem.W.keepIn K (.ref f_Words_init) = true)
    (a_Fault_init : PySem.W.findIn K (.ref C_Fault) "__init__" = some (some (.ref f_Fault_init)))
    (i_Fault_init : PySem.W.isFn K (.ref f_Fault_init) = true)
    (l_Fault_init : K.lookup f_Fault_init = some ⟨oc_Fault_init, od_Fault_init, .func (PySem.W.fnOf "__init__" "Fault.__init__" (defArgs st_Fault_init) (defBody st_Fault_init) (defScope st_Fault_init) .none kV_Fault_init dc_Fault_init pm_Fault_init an_Fault_init cd_Fault_init ct_Fault_init), sl_Fault_init⟩)
    (c_Fault_init : PySem.W.codeIn K cd_Fault_init "Fault.__init__" = true)
    (k_Fault_init : PySem.W.keepIn K (.ref f_Fault_init) = true)
    (a_Splitter_init : PySem.W.findIn K (.ref C_Splitter) "__init__" = some (some (.ref f_Splitter_init)))
    (i_Splitter_init : PySem.W.isFn K (.ref f_Splitter_init) = true)
    (l_Splitter_init : K.lookup f_Splitter_init = some ⟨oc_Splitter_init, od_Splitter_init, .func (PySem.W.fnOf "__init__" "Splitter.__init__" (defArgs st_Splitter_init) (defBody st_Splitter_init) (defScope st_Splitter_init) .none kV_Splitter_init dc_Splitter_init pm_Splitter_init an_Splitter_init cd_Splitter_init ct_Splitter_init), sl_Splitter_init⟩)
    (c_Splitter_init : PySem.W.codeIn K cd_Splitter_init "Splitter.__init__" = true)
    (k_Splitter_init : PySem.W.keepIn K (.ref f_Splitter_init) = true)
    (a_Splitter_take : PySem.W.findIn K (.ref C_Splitter) "take" = some (some (.ref f_Splitter_take)))
    (i_Splitter_take : PySem.W.isFn K (.ref f_Splitter_take) = true)
    (l_Splitter_take : K.lookup f_Splitter_take = some ⟨oc_Splitter_take, od_Splitter_take, .func (PySem.W.fnOf "take" "Splitter.take" (defArgs st_Splitter_take) (defBody st_Splitter_take) (defScope st_Splitter_take) .none kV_Splitter_take dc_Splitter_take pm_Splitter_take an_Splitter_take cd_Splitter_take ct_Splitter_take), sl_Splitter_take⟩)
    (c_Splitter_take : PySem.W.codeIn K cd_Splitter_take "Splitter.take" = true)
    (k_Splitter_take : PySem.W.keepIn K (.ref f_Splitter_take) = true)
    (a_Splitter_end : PySem.W.findIn K (.ref C_Splitter) "end" = some (some (.ref f_Splitter_end)))
    (i_Splitter_end : PySem.W.isFn K (.ref f_Splitter_end) = true)
    (l_Splitter_end : K.lookup f_Splitter_end = some ⟨oc_Splitter_end, od_Splitter_end, .func (PySem.W.fnOf "end" "Splitter.end" (defArgs st_Splitter_end) (defBody st_Splitter_end) (defScope st_Splitter_end) .none kV_Splitter_end dc_Splitter_end pm_Splitter_end an_Splitter_end cd_Splitter_end ct_Splitter_end), sl_Splitter_end⟩)
    (c_Splitter_end : PySem.W.codeIn K cd_Splitter_end "Splitter.end" = true)
    (k_Splitter_end : PySem.W.keepIn K (.ref f_Splitter_end) = true)
    (a__law_cell_at : PySem.W.nsIn K mainGlobals "_law_cell_at" = some (some (.ref f__law_cell_at)))
    (l__law_cell_at : K.lookup f__law_cell_at = some ⟨oc__law_cell_at, od__law_cell_at, .func (PySem.W.fnOf "_law_cell_at" "_law_cell_at" (defArgs st__law_cell_at) (defBody st__law_cell_at) (defScope st__law_cell_at) .none kV__law_cell_at dc__law_cell_at pm__law_cell_at an__law_cell_at cd__law_cell_at ct__law_cell_at), sl__law_cell_at⟩)
    (c__law_cell_at : PySem.W.codeIn K cd__law_cell_at "_law_cell_at" = true)
    (k__law_cell_at : PySem.W.keepIn K (.ref f__law_cell_at) = true)
    (a__law_draw : PySem.W.nsIn K mainGlobals "_law_draw" = some (some (.ref f__law_draw)))
    (l__law_draw : K.lookup f__law_draw = some ⟨oc__law_draw, od__law_draw, .func (PySem.W.fnOf "_law_draw" "_law_draw" (defArgs st__law_draw) (defBody st__law_draw) (defScope st__law_draw) .none kV__law_draw dc__law_draw pm__law_draw an__law_draw cd__law_draw ct__law_draw), sl__law_draw⟩)
    (c__law_draw : PySem.W.codeIn K cd__law_draw "_law_draw" = true)
    (k__law_draw : PySem.W.keepIn K (.ref f__law_draw) = true)
    (a__law_number : PySem.W.nsIn K mainGlobals "_law_number" = some (some (.ref f__law_number)))
    (l__law_number : K.lookup f__law_number = some ⟨oc__law_number, od__law_number, .func (PySem.W.fnOf "_law_number" "_law_number" (defArgs st__law_number) (defBody st__law_number) (defScope st__law_number) .none kV__law_number dc__law_number pm__law_number an__law_number cd__law_number ct__law_number), sl__law_number⟩)
    (c__law_number : PySem.W.codeIn K cd__law_number "_law_number" = true)
    (k__law_number : PySem.W.keepIn K (.ref f__law_number) = true)
    (a__law_next : PySem.W.nsIn K mainGlobals "_law_next" = some (some (.ref f__law_next)))
    (l__law_next : K.lookup f__law_next = some ⟨oc__law_next, od__law_next, .func (PySem.W.fnOf "_law_next" "_law_next" (defArgs st__law_next) (defBody st__law_next) (defScope st__law_next) .none kV__law_next dc__law_next pm__law_next an__law_next cd__law_next ct__law_next), sl__law_next⟩)
    (c__law_next : PySem.W.codeIn K cd__law_next "_law_next" = true)
    (k__law_next : PySem.W.keepIn K (.ref f__law_next) = true)
    (a__law_told : PySem.W.nsIn K mainGlobals "_law_told" = some (some (.ref f__law_told)))
    (l__law_told : K.lookup f__law_told = some ⟨oc__law_told, od__law_told, .func (PySem.W.fnOf "_law_told" "_law_told" (defArgs st__law_told) (defBody st__law_told) (defScope st__law_told) .none kV__law_told dc__law_told pm__law_told an__law_told cd__law_told ct__law_told), sl__law_told⟩)
    (c__law_told : PySem.W.codeIn K cd__law_told "_law_told" = true)
    (k__law_told : PySem.W.keepIn K (.ref f__law_told) = true)
    (a__law_text : PySem.W.nsIn K mainGlobals "_law_text" = some (some (.ref f__law_text)))
    (l__law_text : K.lookup f__law_text = some ⟨oc__law_text, od__law_text, .func (PySem.W.fnOf "_law_text" "_law_text" (defArgs st__law_text) (defBody st__law_text) (defScope st__law_text) .none kV__law_text dc__law_text pm__law_text an__law_text cd__law_text ct__law_text), sl__law_text⟩)
    (c__law_text : PySem.W.codeIn K cd__law_text "_law_text" = true)
    (k__law_text : PySem.W.keepIn K (.ref f__law_text) = true)
    (a__law_rules : PySem.W.nsIn K mainGlobals "_law_rules" = some (some (.ref f__law_rules)))
    (l__law_rules : K.lookup f__law_rules = some ⟨oc__law_rules, od__law_rules, .func (PySem.W.fnOf "_law_rules" "_law_rules" (defArgs st__law_rules) (defBody st__law_rules) (defScope st__law_rules) .none kV__law_rules dc__law_rules pm__law_rules an__law_rules cd__law_rules ct__law_rules), sl__law_rules⟩)
    (c__law_rules : PySem.W.codeIn K cd__law_rules "_law_rules" = true)
    (k__law_rules : PySem.W.keepIn K (.ref f__law_rules) = true)
    (a__law_quoted : PySem.W.nsIn K mainGlobals "_law_quoted" = some (some (.ref f__law_quoted)))
    (l__law_quoted : K.lookup f__law_quoted = some ⟨oc__law_quoted, od__law_quoted, .func (PySem.W.fnOf "_law_quoted" "_law_quoted" (defArgs st__law_quoted) (defBody st__law_quoted) (defScope st__law_quoted) .none kV__law_quoted dc__law_quoted pm__law_quoted an__law_quoted cd__law_quoted ct__law_quoted), sl__law_quoted⟩)
    (c__law_quoted : PySem.W.codeIn K cd__law_quoted "_law_quoted" = true)
    (k__law_quoted : PySem.W.keepIn K (.ref f__law_quoted) = true)
    (a__law_word : PySem.W.nsIn K mainGlobals "_law_word" = some (some (.ref f__law_word)))
    (l__law_word : K.lookup f__law_word = some ⟨oc__law_word, od__law_word, .func (PySem.W.fnOf "_law_word" "_law_word" (defArgs st__law_word) (defBody st__law_word) (defScope st__law_word) .none kV__law_word dc__law_word pm__law_word an__law_word cd__law_word ct__law_word), sl__law_word⟩)
    (c__law_word : PySem.W.codeIn K cd__law_word "_law_word" = true)
    (k__law_word : PySem.W.keepIn K (.ref f__law_word) = true)
    (a__law_read : PySem.W.nsIn K mainGlobals "_law_read" = some (some (.ref f__law_read)))
    (l__law_read : K.lookup f__law_read = some ⟨oc__law_read, od__law_read, .func (PySem.W.fnOf "_law_read" "_law_read" (defArgs st__law_read) (defBody st__law_read) (defScope st__law_read) .none kV__law_read dc__law_read pm__law_read an__law_read cd__law_read ct__law_read), sl__law_read⟩)
    (c__law_read : PySem.W.codeIn K cd__law_read "_law_read" = true)
    (k__law_read : PySem.W.keepIn K (.ref f__law_read) = true)
    (a__law_over : PySem.W.nsIn K mainGlobals "_law_over" = some (some (.ref f__law_over)))
    (l__law_over : K.lookup f__law_over = some ⟨oc__law_over, od__law_over, .func (PySem.W.fnOf "_law_over" "_law_over" (defArgs st__law_over) (defBody st__law_over) (defScope st__law_over) .none kV__law_over dc__law_over pm__law_over an__law_over cd__law_over ct__law_over), sl__law_over⟩)
    (c__law_over : PySem.W.codeIn K cd__law_over "_law_over" = true)
    (k__law_over : PySem.W.keepIn K (.ref f__law_over) = true)
    (a__law_ended : PySem.W.nsIn K mainGlobals "_law_ended" = some (some (.ref f__law_ended)))
    (l__law_ended : K.lookup f__law_ended = some ⟨oc__law_ended, od__law_ended, .func (PySem.W.fnOf "_law_ended" "_law_ended" (defArgs st__law_ended) (defBody st__law_ended) (defScope st__law_ended) .none kV__law_ended dc__law_ended pm__law_ended an__law_ended cd__law_ended ct__law_ended), sl__law_ended⟩)
    (c__law_ended : PySem.W.codeIn K cd__law_ended "_law_ended" = true)
    (k__law_ended : PySem.W.keepIn K (.ref f__law_ended) = true)
    (a__law_pieces : PySem.W.nsIn K mainGlobals "_law_pieces" = some (some (.ref f__law_pieces)))
    (l__law_pieces : K.lookup f__law_pieces = some ⟨oc__law_pieces, od__law_pieces, .func (PySem.W.fnOf "_law_pieces" "_law_pieces" (defArgs st__law_pieces) (defBody st__law_pieces) (defScope st__law_pieces) .none kV__law_pieces dc__law_pieces pm__law_pieces an__law_pieces cd__law_pieces ct__law_pieces), sl__law_pieces⟩)
    (c__law_pieces : PySem.W.codeIn K cd__law_pieces "_law_pieces" = true)
    (k__law_pieces : PySem.W.keepIn K (.ref f__law_pieces) = true)
    (a__law_refused : PySem.W.nsIn K mainGlobals "_law_refused" = some (some (.ref f__law_refused)))
    (l__law_refused : K.lookup f__law_refused = some ⟨oc__law_refused, od__law_refused, .func (PySem.W.fnOf "_law_refused" "_law_refused" (defArgs st__law_refused) (defBody st__law_refused) (defScope st__law_refused) .none kV__law_refused dc__law_refused pm__law_refused an__law_refused (.ref kd__law_refused) ct__law_refused), sl__law_refused⟩)
    (c__law_refused : PySem.W.codeIn K (.ref kd__law_refused) "_law_refused" = true)
    (hK__law_refused : PySem.W.codeHdIn K kd__law_refused p__law_refused = true)
    (nK__law_refused : K.lookup p__law_refused = none)
    (k__law_refused : PySem.W.keepIn K (.ref f__law_refused) = true)
    (a__law_end_right : PySem.W.nsIn K mainGlobals "_law_end_right" = some (some (.ref f__law_end_right)))
    (l__law_end_right : K.lookup f__law_end_right = some ⟨oc__law_end_right, od__law_end_right, .func (PySem.W.fnOf "_law_end_right" "_law_end_right" (defArgs st__law_end_right) (defBody st__law_end_right) (defScope st__law_end_right) .none kV__law_end_right dc__law_end_right pm__law_end_right an__law_end_right cd__law_end_right ct__law_end_right), sl__law_end_right⟩)
    (c__law_end_right : PySem.W.codeIn K cd__law_end_right "_law_end_right" = true)
    (k__law_end_right : PySem.W.keepIn K (.ref f__law_end_right) = true)
    (a_law : PySem.W.nsIn K mainGlobals "law" = some (some (.ref f_law)))
    (l_law : K.lookup f_law = some ⟨oc_law, od_law, .func (PySem.W.fnOf "law" "law" (defArgs st_law) (defBody st_law) (defScope st_law) .none kV_law dc_law pm_law an_law cd_law ct_law), sl_law⟩)
    (c_law : PySem.W.codeIn K cd_law "law" = true)
    (k_law : PySem.W.keepIn K (.ref f_law) = true)
    (pg_Rules : PySem.W.plainGet K C_Rules Str.empty = true)
    (hd_Rules : PySem.W.hasDictIn K C_Rules = true)
    (po_Rules : PySem.W.plainOver K C_Rules = true)
    (sa_Rules : PySem.W.findIn K (.ref C_Rules) "__setattr__" = some (some (.builtin "object.__setattr__")))
    (mk_Rules : PySem.W.makesIn K C_Rules = true)
    (kc_Rules : PySem.W.keepIn K (.ref C_Rules) = true)
    (n_Rules_breaks : PySem.W.findIn K (.ref C_Rules) "breaks" = some none)
    (n_Rules_hard : PySem.W.findIn K (.ref C_Rules) "hard" = some none)
    (n_Rules_soft : PySem.W.findIn K (.ref C_Rules) "soft" = some none)
    (n_Rules_bend : PySem.W.findIn K (.ref C_Rules) "bend" = some none)
    (n_Rules_note : PySem.W.findIn K (.ref C_Rules) "note" = some none)
    (pg_Machine : PySem.W.plainGet K C_Machine Str.empty = true)
    (hd_Machine : PySem.W.hasDictIn K C_Machine = true)
    (po_Machine : PySem.W.plainOver K C_Machine = true)
    (sa_Machine : PySem.W.findIn K (.ref C_Machine) "__setattr__" = some (some (.builtin "object.__setattr__")))
    (mk_Machine : PySem.W.makesIn K C_Machine = true)
    (kc_Machine : PySem.W.keepIn K (.ref C_Machine) = true)
    (n_Machine_rules : PySem.W.findIn K (.ref C_Machine) "rules" = some none)
    (n_Machine_state : PySem.W.findIn K (.ref C_Machine) "state" = some none)
    (n_Machine_bent : PySem.W.findIn K (.ref C_Machine) "bent" = some none)
    (n_Machine_word : PySem.W.findIn K (.ref C_Machine) "word" = some none)
    (n_Machine_begun : PySem.W.findIn K (.ref C_Machine) "begun" = some none)
    (n_Machine_opened : PySem.W.findIn K (.ref C_Machine) "opened" = some none)
    (n_Machine_place : PySem.W.findIn K (.ref C_Machine) "place" = some none)
    (pg_Words : PySem.W.plainGet K C_Words Str.empty = true)
    (hd_Words : PySem.W.hasDictIn K C_Words = true)
    (po_Words : PySem.W.plainOver K C_Words = true)
    (sa_Words : PySem.W.findIn K (.ref C_Words) "__setattr__" = some (some (.builtin "object.__setattr__")))
    (mk_Words : PySem.W.makesIn K C_Words = true)
    (kc_Words : PySem.W.keepIn K (.ref C_Words) = true)
    (n_Words_words : PySem.W.findIn K (.ref C_Words) "words" = some none)
    (n_Words_places : PySem.W.findIn K (.ref C_Words) "places" = some none)
    (pg_Fault : PySem.W.plainGet K C_Fault Str.empty = true)
    (hd_Fault : PySem.W.hasDictIn K C_Fault = true)
    (po_Fault : PySem.W.plainOver K C_Fault = true)
    (sa_Fault : PySem.W.findIn K (.ref C_Fault) "__setattr__" = some (some (.builtin "object.__setattr__")))
    (mk_Fault : PySem.W.makesIn K C_Fault = true)
    (kc_Fault : PySem.W.keepIn K (.ref C_Fault) = true)
    (n_Fault_place : PySem.W.findIn K (.ref C_Fault) "place" = some none)
    (pg_Splitter : PySem.W.plainGet K C_Splitter Str.empty = true)
    (hd_Splitter : PySem.W.hasDictIn K C_Splitter = true)
    (po_Splitter : PySem.W.plainOver K C_Splitter = true)
    (sa_Splitter : PySem.W.findIn K (.ref C_Splitter) "__setattr__" = some (some (.builtin "object.__setattr__")))
    (mk_Splitter : PySem.W.makesIn K C_Splitter = true)
    (kc_Splitter : PySem.W.keepIn K (.ref C_Splitter) = true)
    (n_Splitter_machine : PySem.W.findIn K (.ref C_Splitter) "machine" = some none)
    (n_Splitter_found : PySem.W.findIn K (.ref C_Splitter) "found" = some none)
    (n_Splitter_over : PySem.W.findIn K (.ref C_Splitter) "over" = some none)
    (g_LINE_END : PySem.W.nsIn K mainGlobals "LINE_END" = some (some (Value.str ("\n" : Str) t_LINE_END)))
    (g_MOST : PySem.W.nsIn K mainGlobals "MOST" = some (some (.ref a_MOST)))
    (s_MOST : K.lookup a_MOST = some ⟨.type "tuple", od_MOST, .seq #[.int 4 t0_MOST, .int 2 t1_MOST, .int 2 t2_MOST, .int 1 t3_MOST, .int 1 t4_MOST] n_MOST, sl_MOST⟩)
    (g_PLAIN : PySem.W.nsIn K mainGlobals "PLAIN" = some (some (Value.str ("" : Str) t_PLAIN)))
    (g_NOTED : PySem.W.nsIn K mainGlobals "NOTED" = some (some (Value.str ("note" : Str) t_NOTED)))
    (b_isinstance : PySem.W.nsIn K mainGlobals "isinstance" = some none)
    (b_all : PySem.W.nsIn K mainGlobals "all" = some none)
    (b_zip : PySem.W.nsIn K mainGlobals "zip" = some none)
    (b_len : PySem.W.nsIn K mainGlobals "len" = some none)
    (b_set : PySem.W.nsIn K mainGlobals "set" = some none)
    (b_str : PySem.W.nsIn K mainGlobals "str" = some none)
    (b_list : PySem.W.nsIn K mainGlobals "list" = some none)
    (b_range : PySem.W.nsIn K mainGlobals "range" = some none)
    (b_int : PySem.W.nsIn K mainGlobals "int" = some none)
    (b_tuple : PySem.W.nsIn K mainGlobals "tuple" = some none)
    (b_max : PySem.W.nsIn K mainGlobals "max" = some none)
    (b_min : PySem.W.nsIn K mainGlobals "min" = some none)
    (i_Wordsha : PySem.W.findIn K (.ref C_Words) "__class__" = some (some (.builtin "object.__class__")))
    (i_Wordshm : PySem.W.mroIn K C_Words (.type "object") = some true)
    (objGet : PySem.W.specialIn K (.builtin "object.__class__") "__get__" = some (some (.builtin "getset_descriptor.__get__")))
    (objTak : PySem.W.takesIn K (.builtin "object.__class__") = some true)
    (i_Faultha : PySem.W.findIn K (.ref C_Fault) "__class__" = some (some (.builtin "object.__class__")))
    (i_Faulthm : PySem.W.mroIn K C_Fault (.type "object") = some true)
    (m_k_WF : PySem.W.mroIn K C_Words (.ref C_Fault) = some false)
    (ty_Fault : PySem.W.typeIn K (.ref C_Fault) = some (.type "type"))
    (ne_k_WF : (C_Words : Nat) ≠ C_Fault)
    (m_k_WA : PySem.W.mroIn K C_Words (.ref C_Answer) = some true)
    (ty_Answer : PySem.W.typeIn K (.ref C_Answer) = some (.type "type"))
    (hd_Answer : PySem.W.hasDictIn K C_Answer = true)
    (ne_k_WA : (C_Words : Nat) ≠ C_Answer)
    (m_k_FW : PySem.W.mroIn K C_Fault (.ref C_Words) = some false)
    (ty_Words : PySem.W.typeIn K (.ref C_Words) = some (.type "type"))
    (ne_k_FW : (C_Fault : Nat) ≠ C_Words)
    (m_k_FA : PySem.W.mroIn K C_Fault (.ref C_Answer) = some true)
    (ne_k_FA : (C_Fault : Nat) ≠ C_Answer)
    (ea_QuoteError : PySem.W.findIn K (.ref C_QuoteError) "__getattribute__" = some (some (.builtin "BaseException.__getattribute__")))
    (eb_QuoteError : PySem.W.findIn K (.ref C_QuoteError) "__getattr__" = some none)
    (ec_QuoteError : PySem.W.subIn K (.ref C_QuoteError) (.type "BaseException") = some true)
    (ed_QuoteError : PySem.W.hasDictIn K C_QuoteError = true)
    (ee_QuoteError : PySem.W.findIn K (.ref C_QuoteError) "__class__" = some (some (.builtin "object.__class__")))
    (ef_QuoteError : PySem.W.mroIn K C_QuoteError (.type "object") = some true)
    (eh_QuoteError : PySem.W.typeIn K (.ref C_QuoteError) = some (.type "type"))
    (ei_QuoteError : PySem.W.keepIn K (.ref C_QuoteError) = true)
    (es_QuoteError_QuoteError : PySem.W.subIn K (.ref C_QuoteError) (.ref C_QuoteError) = some true)
    (ea_Ended : PySem.W.findIn K (.ref C_Ended) "__getattribute__" = some (some (.builtin "BaseException.__getattribute__")))
    (eb_Ended : PySem.W.findIn K (.ref C_Ended) "__getattr__" = some none)
    (ec_Ended : PySem.W.subIn K (.ref C_Ended) (.type "BaseException") = some true)
    (ed_Ended : PySem.W.hasDictIn K C_Ended = true)
    (ee_Ended : PySem.W.findIn K (.ref C_Ended) "__class__" = some (some (.builtin "object.__class__")))
    (ef_Ended : PySem.W.mroIn K C_Ended (.type "object") = some true)
    (eh_Ended : PySem.W.typeIn K (.ref C_Ended) = some (.type "type"))
    (ei_Ended : PySem.W.keepIn K (.ref C_Ended) = true)
    (es_Ended_QuoteError : PySem.W.subIn K (.ref C_Ended) (.ref C_QuoteError) = some true)
    (ex_Ended : PySem.W.excIn K C_Ended [.type "ValueError", .type "Exception", .type "BaseException", .type "object"] "ValueError.__new__" = true)
    : ∃ (fd : FuncData) (sp : Sp) (cs : List (Addr × Addr)), (∀ p ∈ cs, h.get? p.2 = some tab0 ∧ K.lookup p.2 = none ∧ PySem.W.CodeHd h p.1 p.2) ∧ (∀ (s : Shared) (v : Value), BindsTo s fd ⟨[v], []⟩ [("_law_script", v)]) ∧
      (∀ (H : Hp) (a : Addr) (ns : List Int), ns.length ≤ 63 → (∀ p ∈ cs, H p.2 = some (.tbl #[])) → ((∃ o, H a = some (.frz o (.lst (ns.map V.int)))) ∨ SqL K (fun _ => none) a (ns.map V.int)) → sp [.ref a] H (fun v _ => v = .bl true) E0) ∧
      ∀ base : Heap, K.In base → base.Ns mainGlobals mg → (∀ p ∈ cs, TabB base mg p.1 p.2) → FnG P w K mg base 8 fa fd ["_law_script"] sp := by
  have e := hfa.symm.trans (PySem.W.mg_of X G a_law)
  cases e
  have T : Txt K mg { c_QuoteError := C_QuoteError, c_BadRules := (0 : Nat), c_BadText := (0 : Nat), c_Ended := C_Ended, c_Rules := C_Rules, c_Machine := C_Machine, c_Answer := C_Answer, c_Words := C_Words, c_Fault := C_Fault, c_Splitter := C_Splitter, f_are_signs := f_are_signs, d_are_signs := PySem.W.fnOf "are_signs" "are_signs" (defArgs st_are_signs) (defBody st_are_signs) (defScope st_are_signs) .none kV_are_signs dc_are_signs pm_are_signs an_are_signs cd_are_signs ct_are_signs, f_Rules_init := f_Rules_init, d_Rules_init := PySem.W.fnOf "__init__" "Rules.__init__" (defArgs st_Rules_init) (defBody st_Rules_init) (defScope st_Rules_init) (.ref T_Rules_init) kV_Rules_init dc_Rules_init pm_Rules_init an_Rules_init cd_Rules_init ct_Rules_init, f_Rules_told := f_Rules_told, d_Rules_told := PySem.W.fnOf "told" "Rules.told" (defArgs st_Rules_told) (defBody st_Rules_told) (defScope st_Rules_told) .none kV_Rules_told dc_Rules_told pm_Rules_told an_Rules_told cd_Rules_told ct_Rules_told, f_Rules_quotes := f_Rules_quotes, d_Rules_quotes := PySem.W.fnOf "quotes" "Rules.quotes" (defArgs st_Rules_quotes) (defBody st_Rules_quotes) (defScope st_Rules_quotes) .none kV_Rules_quotes dc_Rules_quotes pm_Rules_quotes an_Rules_quotes cd_Rules_quotes ct_Rules_quotes, f_Machine_init := f_Machine_init, d_Machine_init := PySem.W.fnOf "__init__" "Machine.__init__" (defArgs st_Machine_init) (defBody st_Machine_init) (defScope st_Machine_init) .none kV_Machine_init dc_Machine_init pm_Machine_init an_Machine_init cd_Machine_init ct_Machine_init, f_Machine_begin := f_Machine_begin, d_Machine_begin := PySem.W.fnOf "begin" "Machine.begin" (defArgs st_Machine_begin) (defBody st_Machine_begin) (defScope st_Machine_begin) .none kV_Machine_begin dc_Machine_begin pm_Machine_begin an_Machine_begin cd_Machine_begin ct_Machine_begin, f_Machine_ended := f_Machine_ended, d_Machine_ended := PySem.W.fnOf "ended" "Machine.ended" (defArgs st_Machine_ended) (defBody st_Machine_ended) (defScope st_Machine_ended) .none kV_Machine_ended dc_Machine_ended pm_Machine_ended an_Machine_ended cd_Machine_ended ct_Machine_ended, f_Machine_plain := f_Machine_plain, d_Machine_plain := PySem.W.fnOf "plain" "Machine.plain" (defArgs st_Machine_plain) (defBody st_Machine_plain) (defScope st_Machine_plain) .none kV_Machine_plain dc_Machine_plain pm_Machine_plain an_Machine_plain cd_Machine_plain ct_Machine_plain, f_Machine_quoted := f_Machine_quoted, d_Machine_quoted := PySem.W.fnOf "quoted" "Machine.quoted" (defArgs st_Machine_quoted) (defBody st_Machine_quoted) (defScope st_Machine_quoted) .none kV_Machine_quoted dc_Machine_quoted pm_Machine_quoted an_Machine_quoted cd_Machine_quoted ct_Machine_quoted, f_Machine_step := f_Machine_step, d_Machine_step := PySem.W.fnOf "step" "Machine.step" (defArgs st_Machine_step) (defBody st_Machine_step) (defScope st_Machine_step) .none kV_Machine_step dc_Machine_step pm_Machine_step an_Machine_step cd_Machine_step ct_Machine_step, f_Machine_fault := f_Machine_fault, d_Machine_fault := PySem.W.fnOf "fault" "Machine.fault" (defArgs st_Machine_fault) (defBody st_Machine_fault) (defScope st_Machine_fault) .none kV_Machine_fault dc_Machine_fault pm_Machine_fault an_Machine_fault cd_Machine_fault ct_Machine_fault, f_Words_init := f_Words_init, d_Words_init := PySem.W.fnOf "__init__" "Words.__init__" (defArgs st_Words_init) (defBody st_Words_init) (defScope st_Words_init) .none kV_Words_init dc_Words_init pm_Words_init an_Words_init cd_Words_init ct_Words_init, f_Fault_init := f_Fault_init, d_Fault_init := PySem.W.fnOf "__init__" "Fault.__init__" (defArgs st_Fault_init) (defBody st_Fault_init) (defScope st_Fault_init) .none kV_Fault_init dc_Fault_init pm_Fault_init an_Fault_init cd_Fault_init ct_Fault_init, f_Splitter_init := f_Splitter_init, d_Splitter_init := PySem.W.fnOf "__init__" "Splitter.__init__" (defArgs st_Splitter_init) (defBody st_Splitter_init) (defScope st_Splitter_init) .none kV_Splitter_init dc_Splitter_init pm_Splitter_init an_Splitter_init cd_Splitter_init ct_Splitter_init, f_Splitter_take := f_Splitter_take, d_Splitter_take := PySem.W.fnOf "take" "Splitter.take" (defArgs st_Splitter_take) (defBody st_Splitter_take) (defScope st_Splitter_take) .none kV_Splitter_take dc_Splitter_take pm_Splitter_take an_Splitter_take cd_Splitter_take ct_Splitter_take, f_Splitter_end := f_Splitter_end, d_Splitter_end := PySem.W.fnOf "end" "Splitter.end" (defArgs st_Splitter_end) (defBody st_Splitter_end) (defScope st_Splitter_end) .none kV_Splitter_end dc_Splitter_end pm_Splitter_end an_Splitter_end cd_Splitter_end ct_Splitter_end, f__law_cell_at := f__law_cell_at, d__law_cell_at := PySem.W.fnOf "_law_cell_at" "_law_cell_at" (defArgs st__law_cell_at) (defBody st__law_cell_at) (defScope st__law_cell_at) .none kV__law_cell_at dc__law_cell_at pm__law_cell_at an__law_cell_at cd__law_cell_at ct__law_cell_at, f__law_draw := f__law_draw, d__law_draw := PySem.W.fnOf "_law_draw" "_law_draw" (defArgs st__law_draw) (defBody st__law_draw) (defScope st__law_draw) .none kV__law_draw dc__law_draw pm__law_draw an__law_draw cd__law_draw ct__law_draw, f__law_number := f__law_number, d__law_number := PySem.W.fnOf "_law_number" "_law_number" (defArgs st__law_number) (defBody st__law_number) (defScope st__law_number) .none kV__law_number dc__law_number pm__law_number an__law_number cd__law_number ct__law_number, f__law_next := f__law_next, d__law_next := PySem.W.fnOf "_law_next" "_law_next" (defArgs st__law_next) (defBody st__law_next) (defScope st__law_next) .none kV__law_next dc__law_next pm__law_next an__law_next cd__law_next ct__law_next, f__law_told := f__law_told, d__law_told := PySem.W.fnOf "_law_told" "_law_told" (defArgs st__law_told) (defBody st__law_told) (defScope st__law_told) .none kV__law_told dc__law_told pm__law_told an__law_told cd__law_told ct__law_told, f__law_text := f__law_text, d__law_text := PySem.W.fnOf "_law_text" "_law_text" (defArgs st__law_text) (defBody st__law_text) (defScope st__law_text) .none kV__law_text dc__law_text pm__law_text an__law_text cd__law_text ct__law_text, f__law_rules := f__law_rules, d__law_rules := PySem.W.fnOf "_law_rules" "_law_rules" (defArgs st__law_rules) (defBody st__law_rules) (defScope st__law_rules) .none kV__law_rules dc__law_rules pm__law_rules an__law_rules cd__law_rules ct__law_rules, f__law_quoted := f__law_quoted, d__law_quoted := PySem.W.fnOf "_law_quoted" "_law_quoted" (defArgs st__law_quoted) (defBody st__law_quoted) (defScope st__law_quoted) .none kV__law_quoted dc__law_quoted pm__law_quoted an__law_quoted cd__law_quoted ct__law_quoted, f__law_word := f__law_word, d__law_word := PySem.W.fnOf "_law_word" "_law_word" (defArgs st__law_word) (defBody st__law_word) (defScope st__law_word) .none kV__law_word dc__law_word pm__law_word an__law_word cd__law_word ct__law_word, f__law_read := f__law_read, d__law_read := PySem.W.fnOf "_law_read" "_law_read" (defArgs st__law_read) (defBody st__law_read) (defScope st__law_read) .none kV__law_read dc__law_read pm__law_read an__law_read cd__law_read ct__law_read, f__law_over := f__law_over, d__law_over := PySem.W.fnOf "_law_over" "_law_over" (defArgs st__law_over) (defBody st__law_over) (defScope st__law_over) .none kV__law_over dc__law_over pm__law_over an__law_over cd__law_over ct__law_over, f__law_ended := f__law_ended, d__law_ended := PySem.W.fnOf "_law_ended" "_law_ended" (defArgs st__law_ended) (defBody st__law_ended) (defScope st__law_ended) .none kV__law_ended dc__law_ended pm__law_ended an__law_ended cd__law_ended ct__law_ended, f__law_pieces := f__law_pieces, d__law_pieces := PySem.W.fnOf "_law_pieces" "_law_pieces" (defArgs st__law_pieces) (defBody st__law_pieces) (defScope st__law_pieces) .none kV__law_pieces dc__law_pieces pm__law_pieces an__law_pieces cd__law_pieces ct__law_pieces, f__law_refused := f__law_refused, k__law_refused := kd__law_refused, p__law_refused := p__law_refused, d__law_refused := PySem.W.fnOf "_law_refused" "_law_refused" (defArgs st__law_refused) (defBody st__law_refused) (defScope st__law_refused) .none kV__law_refused dc__law_refused pm__law_refused an__law_refused (.ref kd__law_refused) ct__law_refused, f__law_end_right := f__law_end_right, d__law_end_right := PySem.W.fnOf "_law_end_right" "_law_end_right" (defArgs st__law_end_right) (defBody st__law_end_right) (defScope st__law_end_right) .none kV__law_end_right dc__law_end_right pm__law_end_right an__law_end_right cd__law_end_right ct__law_end_right, f_law := fa, d_law := PySem.W.fnOf "law" "law" (defArgs st_law) (defBody st_law) (defScope st_law) .none kV_law dc_law pm_law an_law cd_law ct_law, t_LINE_END := t_LINE_END, a_MOST := a_MOST, t_PLAIN := t_PLAIN, t_NOTED := t_NOTED } := {
    F_are_signs := fun_mk (st := st_are_signs) l_are_signs c_are_signs k_are_signs,
    f_are_signs := ⟨PySem.W.mg_of X G a_are_signs, k_are_signs⟩,
    F_Rules_init := ⟨⟨_, _, _, _, _, _, _, _, _, _, rfl, l_Rules_init, c_Rules_init, .inr ⟨by decide, T_Rules_init, _, _, _, rfl, d_Rules_init, rfl, .cons ⟨_, rfl⟩ (.cons ⟨_, rfl⟩ (.cons ⟨_, rfl⟩ (.cons ⟨_, rfl⟩ (.cons ⟨_, rfl⟩ (.nil)))))⟩, .inl rfl⟩, k_Rules_init⟩,
    F_Rules_told := fun_mk (st := st_Rules_told) l_Rules_told c_Rules_told k_Rules_told,
    m_Rules_told := ⟨a_Rules_told, i_Rules_told, k_Rules_told⟩,
    F_Rules_quotes := fun_mk (st := st_Rules_quotes) l_Rules_quotes c_Rules_quotes k_Rules_quotes,
    m_Rules_quotes := ⟨a_Rules_quotes, i_Rules_quotes, k_Rules_quotes⟩,
    F_Machine_init := fun_mk (st := st_Machine_init) l_Machine_init c_Machine_init k_Machine_init,
    F_Machine_begin := fun_mk (st := st_Machine_begin) l_Machine_begin c_Machine_begin k_Machine_begin,
    m_Machine_begin := ⟨a_Machine_begin, i_Machine_begin, k_Machine_begin⟩,
    F_Machine_ended := fun_mk (st := st_Machine_ended) l_Machine_ended c_Machine_ended k_Machine_ended,
    m_Machine_ended := ⟨a_Machine_ended, i_Machine_ended, k_Machine_ended⟩,
    F_Machine_plain := fun_mk (st := st_Machine_plain) l_Machine_plain c_Machine_plain k_Machine_plain,
    m_Machine_plain := ⟨a_Machine_plain, i_Machine_plain, k_Machine_plain⟩,
    F_Machine_quoted := fun_mk (st := st_Machine_quoted) l_Machine_quoted c_Machine_quoted k_Machine_quoted,
    m_Machine_quoted := ⟨a_Machine_quoted, i_Machine_quoted, k_Machine_quoted⟩,
    F_Machine_step := fun_mk (st := st_Machine_step) l_Machine_step c_Machine_step k_Machine_step,
    m_Machine_step := ⟨a_Machine_step, i_Machine_step, k_Machine_step⟩,
    F_Machine_fault := fun_mk (st := st_Machine_fault) l_Machine_fault c_Machine_fault k_Machine_fault,
    m_Machine_fault := ⟨a_Machine_fault, i_Machine_fault, k_Machine_fault⟩,
    F_Words_init := fun_mk (st := st_Words_init) l_Words_init c_Words_init k_Words_init,
    F_Fault_init := fun_mk (st := st_Fault_init) l_Fault_init c_Fault_init k_Fault_init,
    F_Splitter_init := fun_mk (st := st_Splitter_init) l_Splitter_init c_Splitter_init k_Splitter_init,
    F_Splitter_take := fun_mk (st := st_Splitter_take) l_Splitter_take c_Splitter_take k_Splitter_take,
    m_Splitter_take := ⟨a_Splitter_take, i_Splitter_take, k_Splitter_take⟩,
    F_Splitter_end := fun_mk (st := st_Splitter_end) l_Splitter_end c_Splitter_end k_Splitter_end,
    m_Splitter_end := ⟨a_Splitter_end, i_Splitter_end, k_Splitter_end⟩,
    F__law_cell_at := fun_mk (st := st__law_cell_at) l__law_cell_at c__law_cell_at k__law_cell_at,
    f__law_cell_at := ⟨PySem.W.mg_of X G a__law_cell_at, k__law_cell_at⟩,
    F__law_draw := fun_mk (st := st__law_draw) l__law_draw c__law_draw k__law_draw,
    f__law_draw := ⟨PySem.W.mg_of X G a__law_draw, k__law_draw⟩,
    F__law_number := fun_mk (st := st__law_number) l__law_number c__law_number k__law_number,
    f__law_number := ⟨PySem.W.mg_of X G a__law_number, k__law_number⟩,
    F__law_next := fun_mk (st := st__law_next) l__law_next c__law_next k__law_next,
    f__law_next := ⟨PySem.W.mg_of X G a__law_next, k__law_next⟩,
    F__law_told := fun_mk (st := st__law_told) l__law_told c__law_told k__law_told,
    f__law_told := ⟨PySem.W.mg_of X G a__law_told, k__law_told⟩,
    F__law_text := fun_mk (st := st__law_text) l__law_text c__law_text k__law_text,
    f__law_text := ⟨PySem.W.mg_of X G a__law_text, k__law_text⟩,
    F__law_rules := fun_mk (st := st__law_rules) l__law_rules c__law_rules k__law_rules,
    f__law_rules := ⟨PySem.W.mg_of X G a__law_rules, k__law_rules⟩,
    F__law_quoted := fun_mk (st := st__law_quoted) l__law_quoted c__law_quoted k__law_quoted,
    f__law_quoted := ⟨PySem.W.mg_of X G a__law_quoted, k__law_quoted⟩,
    F__law_word := fun_mk (st := st__law_word) l__law_word c__law_word k__law_word,
    f__law_word := ⟨PySem.W.mg_of X G a__law_word, k__law_word⟩,
    F__law_read := fun_mk (st := st__law_read) l__law_read c__law_read k__law_read,
    f__law_read := ⟨PySem.W.mg_of X G a__law_read, k__law_read⟩,
    F__law_over := fun_mk (st := st__law_over) l__law_over c__law_over k__law_over,
    f__law_over := ⟨PySem.W.mg_of X G a__law_over, k__law_over⟩,
    F__law_ended := fun_mk (st := st__law_ended) l__law_ended c__law_ended k__law_ended,
    f__law_ended := ⟨PySem.W.mg_of X G a__law_ended, k__law_ended⟩,
    F__law_pieces := fun_mk (st := st__law_pieces) l__law_pieces c__law_pieces k__law_pieces,
    f__law_pieces := ⟨PySem.W.mg_of X G a__law_pieces, k__law_pieces⟩,
    K__law_refused := ⟨_, _, _, _, _, _, _, _, rfl, l__law_refused, c__law_refused⟩,
    F__law_refused := fun_mk (st := st__law_refused) l__law_refused c__law_refused k__law_refused,
    f__law_refused := ⟨PySem.W.mg_of X G a__law_refused, k__law_refused⟩,
    F__law_end_right := fun_mk (st := st__law_end_right) l__law_end_right c__law_end_right k__law_end_right,
    f__law_end_right := ⟨PySem.W.mg_of X G a__law_end_right, k__law_end_right⟩,
    F_law := fun_mk (st := st_law) l_law c_law k_law,
    f_law := ⟨PySem.W.mg_of X G a_law, k_law⟩,
    c_Rules := ⟨PySem.W.mg_of X G aC_Rules, ⟨pg_Rules, hd_Rules, po_Rules, sa_Rules⟩, ⟨mk_Rules, a_Rules_init, i_Rules_init, kc_Rules⟩⟩,
    n_Rules_breaks := n_Rules_breaks,
    n_Rules_hard := n_Rules_hard,
    n_Rules_soft := n_Rules_soft,
    n_Rules_bend := n_Rules_bend,
    n_Rules_note := n_Rules_note,
    c_Machine := ⟨PySem.W.mg_of X G aC_Machine, ⟨pg_Machine, hd_Machine, po_Machine, sa_Machine⟩, ⟨mk_Machine, a_Machine_init, i_Machine_init, kc_Machine⟩⟩,
    n_Machine_rules := n_Machine_rules,
    n_Machine_state := n_Machine_state,
    n_Machine_bent := n_Machine_bent,
    n_Machine_word := n_Machine_word,
    n_Machine_begun := n_Machine_begun,
    n_Machine_opened := n_Machine_opened,
    n_Machine_place := n_Machine_place,
    c_Words := ⟨PySem.W.mg_of X G aC_Words, ⟨pg_Words, hd_Words, po_Words, sa_Words⟩, ⟨mk_Words, a_Words_init, i_Words_init, kc_Words⟩⟩,
    n_Words_words := n_Words_words,
    n_Words_places := n_Words_places,
    c_Fault := ⟨PySem.W.mg_of X G aC_Fault, ⟨pg_Fault, hd_Fault, po_Fault, sa_Fault⟩, ⟨mk_Fault, a_Fault_init, i_Fault_init, kc_Fault⟩⟩,
    n_Fault_place := n_Fault_place,
    c_Splitter := ⟨PySem.W.mg_of X G aC_Splitter, ⟨pg_Splitter, hd_Splitter, po_Splitter, sa_Splitter⟩, ⟨mk_Splitter, a_Splitter_init, i_Splitter_init, kc_Splitter⟩⟩,
    n_Splitter_machine := n_Splitter_machine,
    n_Splitter_found := n_Splitter_found,
    n_Splitter_over := n_Splitter_over,
    g_LINE_END := PySem.W.mg_of X G g_LINE_END,
    g_MOST := PySem.W.mg_of X G g_MOST,
    s_MOST := fun H => .inr ⟨_, _, _, s_MOST, rfl, rfl, (show 5 ≤ sizeLine by decide), .cons ⟨_, rfl⟩ (.cons ⟨_, rfl⟩ (.cons ⟨_, rfl⟩ (.cons ⟨_, rfl⟩ (.cons ⟨_, rfl⟩ (.nil)))))⟩,
    g_PLAIN := PySem.W.mg_of X G g_PLAIN,
    g_NOTED := PySem.W.mg_of X G g_NOTED,
    b_isinstance := PySem.W.mg_none_of X G b_isinstance,
    b_all := PySem.W.mg_none_of X G b_all,
    b_zip := PySem.W.mg_none_of X G b_zip,
    b_len := PySem.W.mg_none_of X G b_len,
    b_set := PySem.W.mg_none_of X G b_set,
    b_str := PySem.W.mg_none_of X G b_str,
    b_list := PySem.W.mg_none_of X G b_list,
    b_range := PySem.W.mg_none_of X G b_range,
    b_int := PySem.W.mg_none_of X G b_int,
    b_tuple := PySem.W.mg_none_of X G b_tuple,
    b_max := PySem.W.mg_none_of X G b_max,
    b_min := PySem.W.mg_none_of X G b_min,
    c_Answer := ⟨PySem.W.mg_of X G aC_Answer⟩,
    i_Words := ⟨i_Wordsha, objGet, objTak, i_Wordshm⟩,
    i_Fault := ⟨i_Faultha, objGet, objTak, i_Faulthm⟩,
    k_WW := if_pos (beq_self_eq_true _),
    k_WF := kit_own ne_k_WF hd_Fault ty_Fault m_k_WF,
    k_WA := kit_own ne_k_WA hd_Answer ty_Answer m_k_WA,
    k_FF := if_pos (beq_self_eq_true _),
    k_FW := kit_own ne_k_FW hd_Words ty_Words m_k_FW,
    k_FA := kit_own ne_k_FA hd_Answer ty_Answer m_k_FA,
    eg_QuoteError := ⟨PySem.W.mg_of X G aC_QuoteError⟩,
    ea_QuoteError := ea_QuoteError,
    eb_QuoteError := eb_QuoteError,
    ec_QuoteError := ec_QuoteError,
    ed_QuoteError := ed_QuoteError,
    ee_QuoteError := ee_QuoteError,
    ef_QuoteError := ef_QuoteError,
    eh_QuoteError := eh_QuoteError,
    ei_QuoteError := ei_QuoteError,
    es_QuoteError_QuoteError := es_QuoteError_QuoteError,
    eg_Ended := ⟨PySem.W.mg_of X G aC_Ended⟩,
    ea_Ended := ea_Ended,
    eb_Ended := eb_Ended,
    ec_Ended := ec_Ended,
    ed_Ended := ed_Ended,
    ee_Ended := ee_Ended,
    ef_Ended := ef_Ended,
    eh_Ended := eh_Ended,
    ei_Ended := ei_Ended,
    es_Ended_QuoteError := es_Ended_QuoteError,
    ex_Ended := ex_Ended }
  refine ⟨_, sp_law K { c_QuoteError := C_QuoteError, c_BadRules := (0 : Nat), c_BadText := (0 : Nat), c_Ended := C_Ended, c_Rules := C_Rules, c_Machine := C_Machine, c_Answer := C_Answer, c_Words := C_Words, c_Fault := C_Fault, c_Splitter := C_Splitter, f_are_signs := f_are_signs, d_are_signs := PySem.W.fnOf "are_signs" "are_signs" (defArgs st_are_signs) (defBody st_are_signs) (defScope st_are_signs) .none kV_are_signs dc_are_signs pm_are_signs an_are_signs cd_are_signs ct_are_signs, f_Rules_init := f_Rules_init, d_Rules_init := PySem.W.fnOf "__init__" "Rules.__init__" (defArgs st_Rules_init) (defBody st_Rules_init) (defScope st_Rules_init) (.ref T_Rules_init) kV_Rules_init dc_Rules_init pm_Rules_init an_Rules_init cd_Rules_init ct_Rules_init, f_Rules_told := f_Rules_told, d_Rules_told := PySem.W.fnOf "told" "Rules.told" (defArgs st_Rules_told) (defBody st_Rules_told) (defScope st_Rules_told) .none kV_Rules_told dc_Rules_told pm_Rules_told an_Rules_told cd_Rules_told ct_Rules_told, f_Rules_quotes := f_Rules_quotes, d_Rules_quotes := PySem.W.fnOf "quotes" "Rules.quotes" (defArgs st_Rules_quotes) (defBody st_Rules_quotes) (defScope st_Rules_quotes) .none kV_Rules_quotes dc_Rules_quotes pm_Rules_quotes an_Rules_quotes cd_Rules_quotes ct_Rules_quotes, f_Machine_init := f_Machine_init, d_Machine_init := PySem.W.fnOf "__init__" "Machine.__init__" (defArgs st_Machine_init) (defBody st_Machine_init) (defScope st_Machine_init) .none kV_Machine_init dc_Machine_init pm_Machine_init an_Machine_init cd_Machine_init ct_Machine_init, f_Machine_begin := f_Machine_begin, d_Machine_begin := PySem.W.fnOf "begin" "Machine.begin" (defArgs st_Machine_begin) (defBody st_Machine_begin) (defScope st_Machine_begin) .none kV_Machine_begin dc_Machine_begin pm_Machine_begin an_Machine_begin cd_Machine_begin ct_Machine_begin, f_Machine_ended := f_Machine_ended, d_Machine_ended := PySem.W.fnOf "ended" "Machine.ended" (defArgs st_Machine_ended) (defBody st_Machine_ended) (defScope st_Machine_ended) .none kV_Machine_ended dc_Machine_ended pm_Machine_ended an_Machine_ended cd_Machine_ended ct_Machine_ended, f_Machine_plain := f_Machine_plain, d_Machine_plain := PySem.W.fnOf "plain" "Machine.plain" (defArgs st_Machine_plain) (defBody st_Machine_plain) (defScope st_Machine_plain) .none kV_Machine_plain dc_Machine_plain pm_Machine_plain an_Machine_plain cd_Machine_plain ct_Machine_plain, f_Machine_quoted := f_Machine_quoted, d_Machine_quoted := PySem.W.fnOf "quoted" "Machine.quoted" (defArgs st_Machine_quoted) (defBody st_Machine_quoted) (defScope st_Machine_quoted) .none kV_Machine_quoted dc_Machine_quoted pm_Machine_quoted an_Machine_quoted cd_Machine_quoted ct_Machine_quoted, f_Machine_step := f_Machine_step, d_Machine_step := PySem.W.fnOf "step" "Machine.step" (defArgs st_Machine_step) (defBody st_Machine_step) (defScope st_Machine_step) .none kV_Machine_step dc_Machine_step pm_Machine_step an_Machine_step cd_Machine_step ct_Machine_step, f_Machine_fault := f_Machine_fault, d_Machine_fault := PySem.W.fnOf "fault" "Machine.fault" (defArgs st_Machine_fault) (defBody st_Machine_fault) (defScope st_Machine_fault) .none kV_Machine_fault dc_Machine_fault pm_Machine_fault an_Machine_fault cd_Machine_fault ct_Machine_fault, f_Words_init := f_Words_init, d_Words_init := PySem.W.fnOf "__init__" "Words.__init__" (defArgs st_Words_init) (defBody st_Words_init) (defScope st_Words_init) .none kV_Words_init dc_Words_init pm_Words_init an_Words_init cd_Words_init ct_Words_init, f_Fault_init := f_Fault_init, d_Fault_init := PySem.W.fnOf "__init__" "Fault.__init__" (defArgs st_Fault_init) (defBody st_Fault_init) (defScope st_Fault_init) .none kV_Fault_init dc_Fault_init pm_Fault_init an_Fault_init cd_Fault_init ct_Fault_init, f_Splitter_init := f_Splitter_init, d_Splitter_init := PySem.W.fnOf "__init__" "Splitter.__init__" (defArgs st_Splitter_init) (defBody st_Splitter_init) (defScope st_Splitter_init) .none kV_Splitter_init dc_Splitter_init pm_Splitter_init an_Splitter_init cd_Splitter_init ct_Splitter_init, f_Splitter_take := f_Splitter_take, d_Splitter_take := PySem.W.fnOf "take" "Splitter.take" (defArgs st_Splitter_take) (defBody st_Splitter_take) (defScope st_Splitter_take) .none kV_Splitter_take dc_Splitter_take pm_Splitter_take an_Splitter_take cd_Splitter_take ct_Splitter_take, f_Splitter_end := f_Splitter_end, d_Splitter_end := PySem.W.fnOf "end" "Splitter.end" (defArgs st_Splitter_end) (defBody st_Splitter_end) (defScope st_Splitter_end) .none kV_Splitter_end dc_Splitter_end pm_Splitter_end an_Splitter_end cd_Splitter_end ct_Splitter_end, f__law_cell_at := f__law_cell_at, d__law_cell_at := PySem.W.fnOf "_law_cell_at" "_law_cell_at" (defArgs st__law_cell_at) (defBody st__law_cell_at) (defScope st__law_cell_at) .none kV__law_cell_at dc__law_cell_at pm__law_cell_at an__law_cell_at cd__law_cell_at ct__law_cell_at, f__law_draw := f__law_draw, d__law_draw := PySem.W.fnOf "_law_draw" "_law_draw" (defArgs st__law_draw) (defBody st__law_draw) (defScope st__law_draw) .none kV__law_draw dc__law_draw pm__law_draw an__law_draw cd__law_draw ct__law_draw, f__law_number := f__law_number, d__law_number := PySem.W.fnOf "_law_number" "_law_number" (defArgs st__law_number) (defBody st__law_number) (defScope st__law_number) .none kV__law_number dc__law_number pm__law_number an__law_number cd__law_number ct__law_number, f__law_next := f__law_next, d__law_next := PySem.W.fnOf "_law_next" "_law_next" (defArgs st__law_next) (defBody st__law_next) (defScope st__law_next) .none kV__law_next dc__law_next pm__law_next an__law_next cd__law_next ct__law_next, f__law_told := f__law_told, d__law_told := PySem.W.fnOf "_law_told" "_law_told" (defArgs st__law_told) (defBody st__law_told) (defScope st__law_told) .none kV__law_told dc__law_told pm__law_told an__law_told cd__law_told ct__law_told, f__law_text := f__law_text, d__law_text := PySem.W.fnOf "_law_text" "_law_text" (defArgs st__law_text) (defBody st__law_text) (defScope st__law_text) .none kV__law_text dc__law_text pm__law_text an__law_text cd__law_text ct__law_text, f__law_rules := f__law_rules, d__law_rules := PySem.W.fnOf "_law_rules" "_law_rules" (defArgs st__law_rules) (defBody st__law_rules) (defScope st__law_rules) .none kV__law_rules dc__law_rules pm__law_rules an__law_rules cd__law_rules ct__law_rules, f__law_quoted := f__law_quoted, d__law_quoted := PySem.W.fnOf "_law_quoted" "_law_quoted" (defArgs st__law_quoted) (defBody st__law_quoted) (defScope st__law_quoted) .none kV__law_quoted dc__law_quoted pm__law_quoted an__law_quoted cd__law_quoted ct__law_quoted, f__law_word := f__law_word, d__law_word := PySem.W.fnOf "_law_word" "_law_word" (defArgs st__law_word) (defBody st__law_word) (defScope st__law_word) .none kV__law_word dc__law_word pm__law_word an__law_word cd__law_word ct__law_word, f__law_read := f__law_read, d__law_read := PySem.W.fnOf "_law_read" "_law_read" (defArgs st__law_read) (defBody st__law_read) (defScope st__law_read) .none kV__law_read dc__law_read pm__law_read an__law_read cd__law_read ct__law_read, f__law_over := f__law_over, d__law_over := PySem.W.fnOf "_law_over" "_law_over" (defArgs st__law_over) (defBody st__law_over) (defScope st__law_over) .none kV__law_over dc__law_over pm__law_over an__law_over cd__law_over ct__law_over, f__law_ended := f__law_ended, d__law_ended := PySem.W.fnOf "_law_ended" "_law_ended" (defArgs st__law_ended) (defBody st__law_ended) (defScope st__law_ended) .none kV__law_ended dc__law_ended pm__law_ended an__law_ended cd__law_ended ct__law_ended, f__law_pieces := f__law_pieces, d__law_pieces := PySem.W.fnOf "_law_pieces" "_law_pieces" (defArgs st__law_pieces) (defBody st__law_pieces) (defScope st__law_pieces) .none kV__law_pieces dc__law_pieces pm__law_pieces an__law_pieces cd__law_pieces ct__law_pieces, f__law_refused := f__law_refused, k__law_refused := kd__law_refused, p__law_refused := p__law_refused, d__law_refused := PySem.W.fnOf "_law_refused" "_law_refused" (defArgs st__law_refused) (defBody st__law_refused) (defScope st__law_refused) .none kV__law_refused dc__law_refused pm__law_refused an__law_refused (.ref kd__law_refused) ct__law_refused, f__law_end_right := f__law_end_right, d__law_end_right := PySem.W.fnOf "_law_end_right" "_law_end_right" (defArgs st__law_end_right) (defBody st__law_end_right) (defScope st__law_end_right) .none kV__law_end_right dc__law_end_right pm__law_end_right an__law_end_right cd__law_end_right ct__law_end_right, f_law := fa, d_law := PySem.W.fnOf "law" "law" (defArgs st_law) (defBody st_law) (defScope st_law) .none kV_law dc_law pm_law an_law cd_law ct_law, t_LINE_END := t_LINE_END, a_MOST := a_MOST, t_PLAIN := t_PLAIN, t_NOTED := t_NOTED }, [(kd__law_refused, p__law_refused)], ?_, fun s v => .of_eq rfl, fun H a ns hl ht hs => ⟨ns, a, rfl, hs, TabS.nil (ht (kd__law_refused, p__law_refused) (by simp)), hl, fun _ => rfl⟩, fun base _ _ TB => ok_law T (TB (kd__law_refused, p__law_refused) (by simp))⟩
  intro p hp
  simp only [List.mem_cons, List.not_mem_nil, or_false] at hp
  rcases hp with rfl
  · exact ⟨hts _ (by simp), nK__law_refused, PySem.W.codeHd_of_K X hK__law_refused⟩
theorem walk {l : PySem.W.OpenLaw} {q : Program} {loose : List Str} {XP : (Str → Option Value) → Heap → Prop} {YP : World → Heap → Prop} {d : DefRec} {K : Params → PySem.W.Frag} {ts : List Addr} (hn : l.most = some 63)
    (hdf : d.params.defaults = []) (hY : ∀ (w : World) (h : Heap), YP w h → (K w.params).In h) (hT : ∀ (w : World) (h : Heap), YP w h → ∀ P ∈ ts, h.get? P = some tab0)
    (F : ∀ (w : World) (mg : Str → Option Value) (fa : Addr) (h : Heap), (K w.params).In h → (∀ P ∈ ts, h.get? P = some tab0) → h.Ns mainGlobals mg → mg d.name = some (.ref fa) →
      ∃ (fd : FuncData) (sp : Sp) (cs : List (Addr × Addr)), (∀ p ∈ cs, h.get? p.2 = some tab0 ∧ (K w.params).lookup p.2 = none ∧ PySem.W.CodeHd h p.1 p.2) ∧ (∀ (s : Shared) (v : Value), BindsTo s fd ⟨[v], []⟩ [("_law_script", v)]) ∧
      (∀ (H : Hp) (a : Addr) (ns : List Int), ns.length ≤ 63 → (∀ p ∈ cs, H p.2 = some (.tbl #[])) → ((∃ o, H a = some (.frz o (.lst (ns.map V.int)))) ∨ SqL (K w.params) (fun _ => none) a (ns.map V.int)) → sp [.ref a] H (fun v _ => v = .bl true) E0) ∧
      ∀ base : Heap, (K w.params).In base → base.Ns mainGlobals mg → (∀ p ∈ cs, TabB base mg p.1 p.2) → FnG l.prog w (K w.params) mg base 8 fa fd ["_law_script"] sp) :
    PySem.W.WalkO q loose XP YP l.row.toRowW d [] (fun f vs => PySem.call f vs) :=
  walk_ofGT (n := 63) (k := 8) (x := "_law_script") hn (by decide) hdf ⟨rfl, by decide, by decide⟩ fun w mg fa h Y G hm => by
    obtain ⟨fd, sp, cs, h1, h2, h3, h4⟩ := F w mg fa h (hY w h Y) (hT w h Y) G hm
    exact ⟨K w.params, fd, sp, cs, hY w h Y, h1, h2, h3, h4⟩
end Qw

set_option Elab.async false
set_option linter.all false
set_option maxRecDepth 100000
open PySem PySem.W PyProof.Rows
set_option pp.maxSteps 300
set_option pp.deepTerms false
set_option maxHeartbeats 0 in
theorem PySem.Challenge.cw_quotewords_k02_whole_pieces_holds : PySem.Challenge.rw_quotewords_k02_whole_pieces.Holds := by
  w_on; o_law; k_head; (case hw => w_witness2)
  k_fill
  refine Qw.walk (l := PySem.Challenge.rw_quotewords_k02_whole_pieces) rfl rfl (fun w h Y => PySem.W.km_in_of Y) (fun w h Y => PySem.W.km_tabs_of Y) ?F
  case F =>
    intro w mg fa h KX hts G hmg
    refine' Qw.all_mk (P := PySem.Challenge.rw_quotewords_k02_whole_pieces.prog) KX G hmg hts ?aC_QuoteError ?aC_Ended ?aC_Rules ?aC_Machine ?aC_Answer ?aC_Words ?aC_Fault ?aC_Splitter ?a_are_signs ?l_are_signs ?c_are_signs ?k_are_signs ?a_Rules_init ?i_Rules_init ?l_Rules_init ?d_Rules_init ?c_Rules_init ?k_Rules_init ?a_Rules_told ?i_Rules_told ?l_Rules_told ?c_Rules_told ?k_Rules_told ?a_Rules_quotes ?i_Rules_quotes ?l_Rules_quotes ?c_Rules_quotes ?k_Rules_quotes ?a_Machine_init ?i_Machine_init ?l_Machine_init ?c_Machine_init ?k_Machine_init ?a_Machine_begin ?i_Machine_begin ?l_Machine_begin ?c_Machine_begin ?k_Machine_begin ?a_Machine_ended ?i_Machine_ended ?l_Machine_ended ?c_Machine_ended ?k_Machine_ended ?a_Machine_plain ?i_Machine_plain ?l_Machine_plain ?c_Machine_plain ?k_Machine_plain ?a_Machine_quoted ?i_Machine_quoted ?l_Machine_quoted ?c_Machine_quoted ?k_Machine_quoted ?a_Machine_step ?i_Machine_step ?l_Machine_step ?c_Machine_step ?k_Machine_step ?a_Machine_fault ?i_Machine_fault ?l_Machine_fault ?c_Machine_fault ?k_Machine_fault ?a_Words_init ?i_Words_init ?l_Words_init ?c_Words_init ?k_Words_init ?a_Fault_init ?i_Fault_init ?l_Fault_init ?c_Fault_init ?k_Fault_init ?a_Splitter_init ?i_Splitter_init ?l_Splitter_init ?c_Splitter_init ?k_Splitter_init ?a_Splitter_take ?i_Splitter_take ?l_Splitter_take ?c_Splitter_take ?k_Splitter_take ?a_Splitter_end ?i_Splitter_end ?l_Splitter_end ?c_Splitter_end ?k_Splitter_end ?a__law_cell_at ?l__law_cell_at ?c__law_cell_at ?k__law_cell_at ?a__law_draw ?l__law_draw ?c__law_draw ?k__law_draw ?a__law_number ?l__law_number ?c__law_number ?k__law_number ?a__law_next ?l__law_next ?c__law_next ?k__law_next ?a__law_told ?l__law_told ?c__law_told ?k__law_told ?a__law_text ?l__law_text ?c__law_text ?k__law_text ?a__law_rules ?l__law_rules ?c__law_rules ?k__law_rules ?a__law_quoted ?l__law_quoted ?c__law_quoted ?k__law_quoted ?a__law_word ?l__law_word ?c__law_word ?k__law_word ?a__law_read ?l__law_read ?c__law_read ?k__law_read ?a__law_over ?l__law_over ?c__law_over ?k__law_over ?a__law_ended ?l__law_ended ?c__law_ended ?k__law_ended ?a__law_pieces ?l__law_pieces ?c__law_pieces ?k__law_pieces ?a__law_refused ?l__law_refused ?c__law_refused ?hK__law_refused ?nK__law_refused ?k__law_refused ?a__law_end_right ?l__law_end_right ?c__law_end_right ?k__law_end_right ?a_law ?l_law ?c_law ?k_law ?pg_Rules ?hd_Rules ?po_Rules ?sa_Rules ?mk_Rules ?kc_Rules ?n_Rules_breaks ?n_Rules_hard ?n_Rules_soft ?n_Rules_bend ?n_Rules_note ?pg_Machine ?hd_Machine ?po_Machine ?sa_Machine ?mk_Machine ?kc_Machine ?n_Machine_rules ?n_Machine_state ?n_Machine_bent ?n_Machine_word ?n_Machine_begun ?n_Machine_opened ?n_Machine_place ?pg_Words ?hd_Words ?po_Words ?sa_Words ?mk_Words ?kc_Words ?n_Words_words ?n_Words_places ?pg_Fault ?hd_Fault ?po_Fault ?sa_Fault ?mk_Fault ?kc_Fault ?n_Fault_place ?pg_Splitter ?hd_Splitter ?po_Splitter ?sa_Splitter ?mk_Splitter ?kc_Splitter ?n_Splitter_machine ?n_Splitter_found ?n_Splitter_over ?g_LINE_END ?g_MOST ?s_MOST ?g_PLAIN ?g_NOTED ?b_isinstance ?b_all ?b_zip ?b_len ?b_set ?b_str ?b_list ?b_range ?b_int ?b_tuple ?b_max ?b_min ?i_Wordsha ?i_Wordshm ?objGet ?objTak ?i_Faultha ?i_Faulthm ?m_k_WF ?ty_Fault ?ne_k_WF ?m_k_WA ?ty_Answer ?hd_Answer ?ne_k_WA ?m_k_FW ?ty_Words ?ne_k_FW ?m_k_FA ?ne_k_FA ?ea_QuoteError ?eb_QuoteError ?ec_QuoteError ?ed_QuoteError ?ee_QuoteError ?ef_QuoteError ?eh_QuoteError ?ei_QuoteError ?es_QuoteError_QuoteError ?ea_Ended ?eb_Ended ?ec_Ended ?ed_Ended ?ee_Ended ?ef_Ended ?eh_Ended ?ei_Ended ?es_Ended_QuoteError ?ex_Ended
    (case aC_QuoteError => k_is)
    (case aC_Ended => k_is)
    (case aC_Rules => k_is)
    (case aC_Machine => k_is)
    (case aC_Answer => k_is)
    (case aC_Words => k_is)
    (case aC_Fault => k_is)
    (case aC_Splitter => k_is)
    (case a_are_signs => k_is)
    (case l_are_signs => k_is)
    (case c_are_signs => k_is)
    (case k_are_signs => k_is)
    (case a_Rules_init => k_is)
    (case i_Rules_init => k_is)
    (case l_Rules_init => k_is)
    (case d_Rules_init => k_is)
    (case c_Rules_init => k_is)
    (case k_Rules_init => k_is)
    (case a_Rules_told => k_is)
    (case i_Rules_told => k_is)
    (case l_Rules_told => k_is)
    (case c_Rules_told => k_is)
    (case k_Rules_told => k_is)
    (case a_Rules_quotes => k_is)
    (case i_Rules_quotes => k_is)
    (case l_Rules_quotes => k_is)
    (case c_Rules_quotes => k_is)
    (case k_Rules_quotes => k_is)
    (case a_Machine_init => k_is)
    (case i_Machine_init => k_is)
    (case l_Machine_init => k_is)
    (case c_Machine_init => k_is)
    (case k_Machine_init => k_is)
    (case a_Machine_begin => k_is)
    (case i_Machine_begin => k_is)
    (case l_Machine_begin => k_is)
    (case c_Machine_begin => k_is)
    (case k_Machine_begin => k_is)
    (case a_Machine_ended => k_is)
    (case i_Machine_ended => k_is)
    (case l_Machine_ended => k_is)
    (case c_Machine_ended => k_is)
    (case k_Machine_ended => k_is)
    (case a_Machine_plain => k_is)
    (case i_Machine_plain => k_is)
    (case l_Machine_plain => k_is)
    (case c_Machine_plain => k_is)
    (case k_Machine_plain => k_is)
    (case a_Machine_quoted => k_is)
    (case i_Machine_quoted => k_is)
    (case l_Machine_quoted => k_is)
    (case c_Machine_quoted => k_is)
    (case k_Machine_quoted => k_is)
    (case a_Machine_step => k_is)
    (case i_Machine_step => k_is)
    (case l_Machine_step => k_is)
    (case c_Machine_step => k_is)
    (case k_Machine_step => k_is)
    (case a_Machine_fault => k_is)
    (case i_Machine_fault => k_is)
    (case l_Machine_fault => k_is)
    (case c_Machine_fault => k_is)
    (case k_Machine_fault => k_is)
    (case a_Words_init => k_is)
    (case i_Words_init => k_is)
    (case l_Words_init => k_is)
    (case c_Words_init => k_is)
    (case k_Words_init => k_is)
    (case a_Fault_init => k_is)
    (case i_Fault_init => k_is)
    (case l_Fault_init => k_is)
    (case c_Fault_init => k_is)
    (case k_Fault_init => k_is)
    (case a_Splitter_init => k_is)
    (case i_Splitter_init => k_is)
    (case l_Splitter_init => k_is)
    (case c_Splitter_init => k_is)
    (case k_Splitter_init => k_is)
    (case a_Splitter_take => k_is)
    (case i_Splitter_take => k_is)
    (case l_Splitter_take => k_is)
    (case c_Splitter_take => k_is)
    (case k_Splitter_take => k_is)
    (case a_Splitter_end => k_is)
    (case i_Splitter_end => k_is)
    (case l_Splitter_end => k_is)
    (case c_Splitter_end => k_is)
    (case k_Splitter_end => k_is)
    (case a__law_cell_at => k_is)
    (case l__law_cell_at => k_is)
    (case c__law_cell_at => k_is)
    (case k__law_cell_at => k_is)
    (case a__law_draw => k_is)
    (case l__law_draw => k_is)
    (case c__law_draw => k_is)
    (case k__law_draw => k_is)
    (case a__law_number => k_is)
    (case l__law_number => k_is)
    (case c__law_number => k_is)
    (case k__law_number => k_is)
    (case a__law_next => k_is)
    (case l__law_next => k_is)
    (case c__law_next => k_is)
    (case k__law_next => k_is)
    (case a__law_told => k_is)
    (case l__law_told => k_is)
    (case c__law_told => k_is)
    (case k__law_told => k_is)
    (case a__law_text => k_is)
    (case l__law_text => k_is)
    (case c__law_text => k_is)
    (case k__law_text => k_is)
    (case a__law_rules => k_is)
    (case l__law_rules => k_is)
    (case c__law_rules => k_is)
    (case k__law_rules => k_is)
    (case a__law_quoted => k_is)
    (case l__law_quoted => k_is)
    (case c__law_quoted => k_is)
    (case k__law_quoted => k_is)
    (case a__law_word => k_is)
    (case l__law_word => k_is)
    (case c__law_word => k_is)
    (case k__law_word => k_is)
    (case a__law_read => k_is)
    (case l__law_read => k_is)
    (case c__law_read => k_is)
    (case k__law_read => k_is)
    (case a__law_over => k_is)
    (case l__law_over => k_is)
    (case c__law_over => k_is)
    (case k__law_over => k_is)
    (case a__law_ended => k_is)
    (case l__law_ended => k_is)
    (case c__law_ended => k_is)
    (case k__law_ended => k_is)
    (case a__law_pieces => k_is)
    (case l__law_pieces => k_is)
    (case c__law_pieces => k_is)
    (case k__law_pieces => k_is)
    (case a__law_refused => k_is)
    (case l__law_refused => k_is)
    (case c__law_refused => k_is)
    (case hK__law_refused => first | k_is | kernel_rfl)
    (case nK__law_refused => first | k_is | kernel_rfl)
    (case k__law_refused => k_is)
    (case a__law_end_right => k_is)
    (case l__law_end_right => k_is)
    (case c__law_end_right => k_is)
    (case k__law_end_right => k_is)
    (case a_law => k_is)
    (case l_law => k_is)
    (case c_law => k_is)
    (case k_law => k_is)
    (case pg_Rules => k_is)
    (case hd_Rules => k_is)
    (case po_Rules => k_is)
    (case sa_Rules => k_is)
    (case mk_Rules => k_is)
    (case kc_Rules => k_is)
    (case n_Rules_breaks => k_is)
    (case n_Rules_hard => k_is)
    (case n_Rules_soft => k_is)
    (case n_Rules_bend => k_is)
    (case n_Rules_note => k_is)
    (case pg_Machine => k_is)
    (case hd_Machine => k_is)
    (case po_Machine => k_is)
    (case sa_Machine => k_is)
    (case mk_Machine => k_is)
    (case kc_Machine => k_is)
    (case n_Machine_rules => k_is)
    (case n_Machine_state => k_is)
    (case n_Machine_bent => k_is)
    (case n_Machine_word => k_is)
    (case n_Machine_begun => k_is)
    (case n_Machine_opened => k_is)
    (case n_Machine_place => k_is)
    (case pg_Words => k_is)
    (case hd_Words => k_is)
    (case po_Words => k_is)
    (case sa_Words => k_is)
    (case mk_Words => k_is)
    (case kc_Words => k_is)
    (case n_Words_words => k_is)
    (case n_Words_places => k_is)
    (case pg_Fault => k_is)
    (case hd_Fault => k_is)
    (case po_Fault => k_is)
    (case sa_Fault => k_is)
    (case mk_Fault => k_is)
    (case kc_Fault => k_is)
    (case n_Fault_place => k_is)
    (case pg_Splitter => k_is)
    (case hd_Splitter => k_is)
    (case po_Splitter => k_is)
    (case sa_Splitter => k_is)
    (case mk_Splitter => k_is)
    (case kc_Splitter => k_is)
    (case n_Splitter_machine => k_is)
    (case n_Splitter_found => k_is)
    (case n_Splitter_over => k_is)
    (case g_LINE_END => k_is)
    (case g_MOST => k_is)
    (case s_MOST => k_is)
    (case g_PLAIN => k_is)
    (case g_NOTED => k_is)
    (case b_isinstance => k_is)
    (case b_all => k_is)
    (case b_zip => k_is)
    (case b_len => k_is)
    (case b_set => k_is)
    (case b_str => k_is)
    (case b_list => k_is)
    (case b_range => k_is)
    (case b_int => k_is)
    (case b_tuple => k_is)
    (case b_max => k_is)
    (case b_min => k_is)
    (case i_Wordsha => k_is)
    (case i_Wordshm => k_is)
    (case objGet => k_is)
    (case objTak => k_is)
    (case i_Faultha => k_is)
    (case i_Faulthm => k_is)
    (case m_k_WF => k_is)
    (case ty_Fault => k_is)
    (case ne_k_WF => decide)
    (case m_k_WA => k_is)
    (case ty_Answer => k_is)
    (case hd_Answer => k_is)
    (case ne_k_WA => decide)
    (case m_k_FW => k_is)
    (case ty_Words => k_is)
    (case ne_k_FW => decide)
    (case m_k_FA => k_is)
    (case ne_k_FA => decide)
    (case ea_QuoteError => k_is)
    (case eb_QuoteError => k_is)
    (case ec_QuoteError => k_is)
    (case ed_QuoteError => k_is)
    (case ee_QuoteError => k_is)
    (case ef_QuoteError => k_is)
    (case eh_QuoteError => k_is)
    (case ei_QuoteError => k_is)
    (case es_QuoteError_QuoteError => k_is)
    (case ea_Ended => k_is)
    (case eb_Ended => k_is)
    (case ec_Ended => k_is)
    (case ed_Ended => k_is)
    (case ee_Ended => k_is)
    (case ef_Ended => k_is)
    (case eh_Ended => k_is)
    (case ei_Ended => k_is)
    (case es_Ended_QuoteError => k_is)
    (case ex_Ended => first | k_is | kernel_rfl)

