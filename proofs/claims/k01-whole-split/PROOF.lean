import PyProof.Rows.All
import Wide.All
import OpenK.AllK
import Wide.FinOn
import HandS.ForMost
import HandS.Style
import HandS.TupAny
import HandS.IsInst
import HandS.Steps
import HandS.Walk
import HandS.Zip
import HandS.StrMore
import HandS.Defaults
import HandS.Flow
import PySem.Challenge.RW_quotewords_k01_whole_split
import HandS.EndBits
import HandS.HeadEnd
import PyProof.StrLawsFrom
import HandS.Conv
import PyProof.ListStr
import PyProof.StrOps2
import PyProof.SliceStr2
import KE.KRevSl
import KE.GoesZip
import KE.GoesMore
set_option Elab.async false
set_option linter.all false
set_option maxRecDepth 100000
set_option maxHeartbeats 4000000
namespace Qw
open PySem L2

/-! ### texts as lists of codes -/
abbrev Tx := List Nat
def S (l : Tx) : Str := ⟨l.toArray⟩
theorem S_tl (l : Tx) : (S l).cps.toList = l := rfl
theorem S_size (l : Tx) : (S l).cps.size = l.length := by simp [S]
theorem S_len (l : Tx) : (S l).length = l.length := by simp [S, Str.length]
theorem S_of (x : Str) : S x.cps.toList = x := by cases x; simp [S]
theorem S_app (a b : Tx) : S a ++ S b = S (a ++ b) := by
  show Str.append (S a) (S b) = _
  simp [S, Str.append]
theorem S_inj {a b : Tx} : S a = S b ↔ a = b := by
  constructor
  · intro h
    have := congrArg (fun x : Str => x.cps.toList) h
    simpa [S] using this
  · intro h; rw [h]
theorem S_beq (x y : Tx) : (S x == S y) = decide (x = y) := by
  by_cases h : x = y
  · subst h; simp
  · simp [h, S_inj]
theorem scal_ss (x y : Str) : scal (.str x) (.str y) = true := rfl
theorem scal_ii (x y : Int) : scal (.int x) (.int y) = true := rfl
theorem scal_bb (x y : Bool) : scal (.bl x) (.bl y) = true := rfl
theorem scal_nn : scal .non .non = true := rfl
theorem scal_in (x : Int) : scal (.int x) .non = true := rfl
theorem scal_ni (x : Int) : scal .non (.int x) = true := rfl
theorem S_one (c : Nat) : (⟨#[c]⟩ : Str) = S [c] := rfl

/-! ### heaps: what is kept -/
/-- all that was tracked, but at p, is as it was -/
def Kp (p : Addr) (H H' : Hp) : Prop := ∀ b o, H b = some o → b ≠ p → H' b = some o
theorem _root_.L2.Same.kp {H H' : Hp} (p : Addr) (h : Same H H') : Kp p H H' := fun b o e _ => h b o e
theorem Kp.trans {p : Addr} {H H1 H2 : Hp} (a : Kp p H H1) (b : Kp p H1 H2) : Kp p H H2 := fun c o e n => b c o (a c o e n) n
theorem same_new {H : Hp} {p : Addr} {o : HO} (h : H p = none) : Same H (upd H p o) := fun b u e => by
  rw [upd_ne (ne_of_none e h)]; exact e
theorem _root_.L2.Same.mut {H H' : Hp} {p : Addr} {o : HO} (e : Same H H') (h : H p = none) : Same H (upd H' p o) := fun a u ha => by
  rw [upd_ne (ne_of_none ha h)]; exact e a u ha
theorem kp_upd {H : Hp} {p : Addr} {o : HO} : Kp p H (upd H p o) := fun b u e n => by rw [upd_ne n]; exact e
theorem Kp.upd {p : Addr} {H H' : Hp} {o : HO} (a : Kp p H H') : Kp p H (L2.upd H' p o) := a.trans kp_upd
/-- the tuples stay -/
def Tk (H H' : Hp) : Prop := ∀ b xs, H b = some (.tup xs) → H' b = some (.tup xs)
theorem Tk.refl (H : Hp) : Tk H H := fun _ _ h => h
theorem Tk.trans {H H1 H2 : Hp} (a : Tk H H1) (b : Tk H1 H2) : Tk H H2 := fun c o e => b c o (a c o e)
theorem _root_.L2.Same.tk {H H' : Hp} (h : Same H H') : Tk H H' := fun b xs e => h b _ e
theorem Kp.tk {p : Addr} {H H' : Hp} (h : Kp p H H') {o : HO} (e : H p = some o) (no : ∀ xs, o ≠ .tup xs) : Tk H H' := fun b xs q => by
  refine h b _ q fun z => ?_
  subst z; rw [e] at q; exact no xs (Option.some.inj q)
theorem upd_old {H : Hp} {p q : Addr} {o u : HO} (h : H p = some o) (n : H q = none) : upd H q u p = some o := by
  rw [upd_ne (ne_of_none h n)]; exact h
theorem upd_old' {H : Hp} {p q : Addr} {o u : HO} (h : H p = some o) (n : p ≠ q) : upd H q u p = some o := by
  rw [upd_ne n]; exact h
theorem none_upd {H : Hp} {p q : Addr} {o : HO} (h : upd H p o q = none) : H q = none := by
  unfold upd at h; split at h
  · cases h
  · exact h
theorem none_upd' {H : Hp} {p q : Addr} {o : HO} (h : upd H p o q = none) (_ : q ≠ p) : H q = none := none_upd h
theorem ne_upd {H : Hp} {p q : Addr} {o : HO} (h : upd H p o q = none) : q ≠ p := by
  rintro rfl; rw [upd_same] at h; cases h

theorem small_line {n : Nat} (h : n ≤ 1000000) : (n ≤ sizeLine) = True := eq_true (Nat.le_trans h (by decide))
theorem small_lt {n : Nat} (h : n < 1000000) : (n < sizeLine) = True := eq_true (Nat.lt_of_lt_of_le h (by decide))
theorem pl2 {f : Str} {v : V} {fs : List (Str × V)} {k n : Nat} (h : fs.length + (k + 1) < n) : (putF f v fs).length + k < n := by have := length_putF f v fs; omega
end Qw

set_option Elab.async false
set_option linter.all false
set_option maxRecDepth 100000
set_option maxHeartbeats 4000000
namespace Qw
open PySem L2
theorem take_at {α : Type} : ∀ {l : List α} {i : Nat} {x : α}, l[i]? = some x → l.take (i + 1) = l.take i ++ [x]
  | [], i, x, h => by simp at h
  | a :: l, 0, x, h => by
    cases (Option.some.inj h : a = x)
    rfl
  | a :: l, i + 1, x, h => by
    have ih := take_at (l := l) (i := i) (x := x) h
    simp only [List.take_succ_cons, List.cons_append, List.cons.injEq, true_and]
    exact ih
/-- a comprehension that maps: each turn gives F of the i-th of as, and changes nothing that was there -/
theorem lc_map {α : Type} {J : It} {G : Hp → Prop} {Y : Nat → Hp → V → Hp → Prop} {g : TG} {tt : TT} {te : TE} {vs : List Nat} {σ : St} {H1 : Hp} {D : Addr} {Qd : Hp → Prop}
    (as : List α) (F : α → V) (w : Walk J as.length G Y) (hz : as.length ≤ 1000000) (h1 : H1 D = none) (hG : ∀ H, Same H1 H → G H)
    (hs : ∀ (R : VK) (R' : Hp → Prop) i a x H H', as[i]? = some a → Same H1 H → Y i H x H' → (∀ H4, Same H H4 → R (F a) H4) →
      g x (wipe σ vs) H' fun σ2 H2 => wipe σ2 vs = wipe σ vs ∧ tt σ2 H2 fun b H3 => if b = true then te σ2 H3 R else R' H3)
    (hd : ∀ H, Same H1 H → H D = some (.lst (as.map F)) → Qd H) :
    ∃ W : Nat → Nat → Hp → Prop, (∃ m, W 0 m (upd H1 D (.lst []))) ∧ ∀ i m H, W i m H →
      (J.stop i H ∧ Qd H) ∨ (J.go i H ∧ ∃ Nx : Hp → Prop, (∀ H', Nx H' → ∃ m', m' < m ∧ W (i + 1) m' H') ∧ ∀ x H', J.yld i H x H' → g x (wipe σ vs) H' fun σ2 H2 => wipe σ2 vs = wipe σ vs ∧ tt σ2 H2 fun b H3 =>
        if b = true then te σ2 H3 fun y H4 => ∃ acc, H4 D = some (.lst acc) ∧ acc.length < sizeLine ∧ Nx (upd H4 D (.lst (acc ++ [y]))) else Nx H3) := by
  refine lc_it w (fun i H => Same H1 H ∧ H D = some (.lst ((as.take i).map F))) ⟨same_new h1, upd_same⟩ (fun _ H _ p => hG H p.1) ?_ fun H p => hd H p.1 (by rw [List.take_length] at p; exact p.2)
  rintro i x H H' hi ⟨p1, p2⟩ y
  obtain ⟨a, ha⟩ : ∃ a, as[i]? = some a := ⟨as[i], List.getElem?_eq_getElem hi⟩
  refine hs _ _ i a x H H' ha p1 y fun H4 s4 => ⟨_, s4 _ _ p2, ?_, ?_, ?_⟩
  · rw [List.length_map, List.length_take]
    exact Nat.lt_of_lt_of_le (show min i as.length < 1000001 by omega) (by decide)
  · exact Same.mut (p1.trans s4) h1
  · rw [upd_same, take_at ha, List.map_append]
    rfl
theorem tlc_map {α : Type} {wi : TI} {J : It} {G : Hp → Prop} {Y : Nat → Hp → V → Hp → Prop} {g : TG} {tt : TT} {te : TE} {vs : List Nat} {σ : St} {H H1 : Hp} {Q : VK}
    (as : List α) (F : α → V) (hw : ∀ R : It → Hp → Prop, R J H1 → wi σ H R) (w : Walk J as.length G Y) (hz : as.length ≤ 1000000) (hG : ∀ H, Same H1 H → G H)
    (hs : ∀ (R : VK) (R' : Hp → Prop) i a x H H', as[i]? = some a → Same H1 H → Y i H x H' → (∀ H4, Same H H4 → R (F a) H4) →
      g x (wipe σ vs) H' fun σ2 H2 => wipe σ2 vs = wipe σ vs ∧ tt σ2 H2 fun b H3 => if b = true then te σ2 H3 R else R' H3)
    (hd : ∀ D H, H1 D = none → Same H1 H → H D = some (.lst (as.map F)) → Q (.ref D) H) : tLc wi g tt te vs σ H Q :=
  hw _ fun D hD => lc_map as F w hz hD hG hs fun H s e => hd D H hD s e
theorem walk_text {t : Tx} : Walk (Its (S t)) t.length (fun _ => True) (fun i H v H' => H' = H ∧ ∃ c, t[i]? = some c ∧ v = .str (S [c])) :=
  ⟨fun _ _ hi _ => (by show _ < (S t).cps.size; rw [S_size]; exact hi), fun _ _ => (by show (S t).cps.size ≤ _; rw [S_size]; exact Nat.le_refl _), fun _ _ _ _ _ _ y => by
    obtain ⟨e, c, h1, h2⟩ := y
    exact ⟨e, c, by simpa [S] using h1, h2⟩⟩
theorem ix_tupK {X : Cx} {K : PySem.W.Frag} (h : X.K = K) : IxR X (rIxT K) := by
  subst h
  exact ix_tup
theorem ix_listK {X : Cx} {K : PySem.W.Frag} (h : X.K = K) : IxR X (rIxL K) := by
  subst h
  exact ix_list
theorem op_eqDK {X : Cx} {K : PySem.W.Frag} (h : X.K = K) (hu : X.A.units + 64 < cLine) : OpR X (compareOp .Eq) (rEqD K) := by
  subst h
  exact op_eqD hu
theorem op_neDK {X : Cx} {K : PySem.W.Frag} (h : X.K = K) (hu : X.A.units + 64 < cLine) : OpR X (compareOp .NotEq) (rNeD K) := by
  subst h
  exact op_neD hu
theorem gen_new {H H1 : Hp} {p : Addr} {o : HO} (h : upd H p o = H1) (hp : H p = none) : Same H H1 ∧ H1 p = some o := by
  subst h
  exact ⟨same_new hp, upd_same⟩
theorem one_lt (x y : Nat) : ([x] < [y]) = (x < y) := by simp [List.cons_lt_cons_iff]
theorem join_flat0 : ∀ ls : List Tx, Str.join (S []) (ls.map S) = S ls.flatten
  | [] => rfl
  | [x] => by
    show S x = S [x].flatten
    simp
  | x :: y :: r => by
    show S x ++ S [] ++ Str.join (S []) ((y :: r).map S) = _
    rw [join_flat0 (y :: r), S_app, S_app]
    simp
theorem join_flat (ls : List Tx) : Txt.join (S []) (ls.map S) = S ls.flatten := by
  rw [show Txt.join (S []) (ls.map S) = Str.join (S []) (ls.map S) from StrLaws.glued_eq_join _ _]
  exact join_flat0 ls
end Qw

set_option Elab.async false
set_option linter.all false
set_option maxRecDepth 100000
set_option maxHeartbeats 4000000
namespace Qw
open PySem L2
def top (i : Nat) : Stmt := PySem.Challenge.pw_quotewords_k01_whole_split.main.body.getD i (.Pass ⟨0, 0, 0, 0⟩)
abbrev st_are_signs : Stmt := top 8
abbrev N_are_signs : List Str := ["thing", "sign"]
abbrev P_are_signs : List Str := ["thing"]
theorem sc_are_signs : FnScope N_are_signs P_are_signs (defScope st_are_signs) := ⟨rfl, rfl, rfl, by decide +kernel, rfl, by decide +kernel, by decide +kernel⟩
abbrev st_Rules_init : Stmt := inClass (top 9) 0
abbrev N_Rules_init : List Str := ["self", "breaks", "hard", "soft", "bend", "note", "parts", "every", "part", "most"]
abbrev P_Rules_init : List Str := ["self", "breaks", "hard", "soft", "bend", "note"]
theorem sc_Rules_init : FnScope N_Rules_init P_Rules_init (defScope st_Rules_init) := ⟨rfl, rfl, rfl, by decide +kernel, rfl, by decide +kernel, by decide +kernel⟩
abbrev st_Rules_told : Stmt := inClass (top 9) 1
abbrev N_Rules_told : List Str := ["self"]
abbrev P_Rules_told : List Str := ["self"]
theorem sc_Rules_told : FnScope N_Rules_told P_Rules_told (defScope st_Rules_told) := ⟨rfl, rfl, rfl, by decide +kernel, rfl, by decide +kernel, by decide +kernel⟩
abbrev st_Rules_quotes : Stmt := inClass (top 9) 2
abbrev N_Rules_quotes : List Str := ["self"]
abbrev P_Rules_quotes : List Str := ["self"]
theorem sc_Rules_quotes : FnScope N_Rules_quotes P_Rules_quotes (defScope st_Rules_quotes) := ⟨rfl, rfl, rfl, by decide +kernel, rfl, by decide +kernel, by decide +kernel⟩
abbrev st_Machine_init : Stmt := inClass (top 13) 0
abbrev N_Machine_init : List Str := ["self", "rules"]
abbrev P_Machine_init : List Str := ["self", "rules"]
theorem sc_Machine_init : FnScope N_Machine_init P_Machine_init (defScope st_Machine_init) := ⟨rfl, rfl, rfl, by decide +kernel, rfl, by decide +kernel, by decide +kernel⟩
abbrev st_Machine_begin : Stmt := inClass (top 13) 2
abbrev N_Machine_begin : List Str := ["self"]
abbrev P_Machine_begin : List Str := ["self"]
theorem sc_Machine_begin : FnScope N_Machine_begin P_Machine_begin (defScope st_Machine_begin) := ⟨rfl, rfl, rfl, by decide +kernel, rfl, by decide +kernel, by decide +kernel⟩
abbrev st_Machine_ended : Stmt := inClass (top 13) 3
abbrev N_Machine_ended : List Str := ["self", "found"]
abbrev P_Machine_ended : List Str := ["self"]
theorem sc_Machine_ended : FnScope N_Machine_ended P_Machine_ended (defScope st_Machine_ended) := ⟨rfl, rfl, rfl, by decide +kernel, rfl, by decide +kernel, by decide +kernel⟩
abbrev st_Machine_plain : Stmt := inClass (top 13) 4
abbrev N_Machine_plain : List Str := ["self", "sign", "rules"]
abbrev P_Machine_plain : List Str := ["self", "sign"]
theorem sc_Machine_plain : FnScope N_Machine_plain P_Machine_plain (defScope st_Machine_plain) := ⟨rfl, rfl, rfl, by decide +kernel, rfl, by decide +kernel, by decide +kernel⟩
abbrev st_Machine_quoted : Stmt := inClass (top 13) 5
abbrev N_Machine_quoted : List Str := ["self", "sign"]
abbrev P_Machine_quoted : List Str := ["self", "sign"]
theorem sc_Machine_quoted : FnScope N_Machine_quoted P_Machine_quoted (defScope st_Machine_quoted) := ⟨rfl, rfl, rfl, by decide +kernel, rfl, by decide +kernel, by decide +kernel⟩
abbrev st_Machine_step : Stmt := inClass (top 13) 6
abbrev N_Machine_step : List Str := ["self", "sign", "found"]
abbrev P_Machine_step : List Str := ["self", "sign"]
theorem sc_Machine_step : FnScope N_Machine_step P_Machine_step (defScope st_Machine_step) := ⟨rfl, rfl, rfl, by decide +kernel, rfl, by decide +kernel, by decide +kernel⟩
abbrev st_Machine_fault : Stmt := inClass (top 13) 7
abbrev N_Machine_fault : List Str := ["self"]
abbrev P_Machine_fault : List Str := ["self"]
theorem sc_Machine_fault : FnScope N_Machine_fault P_Machine_fault (defScope st_Machine_fault) := ⟨rfl, rfl, rfl, by decide +kernel, rfl, by decide +kernel, by decide +kernel⟩
abbrev st_read_all : Stmt := top 14
abbrev N_read_all : List Str := ["rules", "text", "machine", "found", "sign"]
abbrev P_read_all : List Str := ["rules", "text"]
theorem sc_read_all : FnScope N_read_all P_read_all (defScope st_read_all) := ⟨rfl, rfl, rfl, by decide +kernel, rfl, by decide +kernel, by decide +kernel⟩
abbrev st_Words_init : Stmt := inClass (top 17) 0
abbrev N_Words_init : List Str := ["self", "words", "places"]
abbrev P_Words_init : List Str := ["self", "words", "places"]
theorem sc_Words_init : FnScope N_Words_init P_Words_init (defScope st_Words_init) := ⟨rfl, rfl, rfl, by decide +kernel, rfl, by decide +kernel, by decide +kernel⟩
abbrev st_Words_shows : Stmt := inClass (top 17) 1
abbrev N_Words_shows : List Str := ["self", "rules", "text", "found", "fault", "pair"]
abbrev P_Words_shows : List Str := ["self", "rules", "text"]
theorem sc_Words_shows : FnScope N_Words_shows P_Words_shows (defScope st_Words_shows) := ⟨rfl, rfl, rfl, by decide +kernel, rfl, by decide +kernel, by decide +kernel⟩
abbrev st_Fault_init : Stmt := inClass (top 18) 0
abbrev N_Fault_init : List Str := ["self", "place"]
abbrev P_Fault_init : List Str := ["self", "place"]
theorem sc_Fault_init : FnScope N_Fault_init P_Fault_init (defScope st_Fault_init) := ⟨rfl, rfl, rfl, by decide +kernel, rfl, by decide +kernel, by decide +kernel⟩
abbrev st_Fault_shows : Stmt := inClass (top 18) 1
abbrev N_Fault_shows : List Str := ["self", "rules", "text", "found", "fault"]
abbrev P_Fault_shows : List Str := ["self", "rules", "text"]
theorem sc_Fault_shows : FnScope N_Fault_shows P_Fault_shows (defScope st_Fault_shows) := ⟨rfl, rfl, rfl, by decide +kernel, rfl, by decide +kernel, by decide +kernel⟩
abbrev st_split : Stmt := top 21
abbrev N_split : List Str := ["rules", "text", "found", "fault", "pair"]
abbrev P_split : List Str := ["rules", "text"]
theorem sc_split : FnScope N_split P_split (defScope st_split) := ⟨rfl, rfl, rfl, by decide +kernel, rfl, by decide +kernel, by decide +kernel⟩
abbrev st__law_cell_at : Stmt := top 23
abbrev N__law_cell_at : List Str := ["_law_script", "_law_k"]
abbrev P__law_cell_at : List Str := ["_law_script", "_law_k"]
theorem sc__law_cell_at : FnScope N__law_cell_at P__law_cell_at (defScope st__law_cell_at) := ⟨rfl, rfl, rfl, by decide +kernel, rfl, by decide +kernel, by decide +kernel⟩
abbrev st__law_draw : Stmt := top 24
abbrev N__law_draw : List Str := ["_law_cell", "_law_k", "_law_most", "_law_primes"]
abbrev P__law_draw : List Str := ["_law_cell", "_law_k", "_law_most"]
theorem sc__law_draw : FnScope N__law_draw P__law_draw (defScope st__law_draw) := ⟨rfl, rfl, rfl, by decide +kernel, rfl, by decide +kernel, by decide +kernel⟩
abbrev st__law_number : Stmt := top 25
abbrev N__law_number : List Str := ["_law_cell", "_law_k", "_law_limit", "_law_rest", "_law_turn", "_law_small"]
abbrev P__law_number : List Str := ["_law_cell", "_law_k", "_law_limit"]
theorem sc__law_number : FnScope N__law_number P__law_number (defScope st__law_number) := ⟨rfl, rfl, rfl, by decide +kernel, rfl, by decide +kernel, by decide +kernel⟩
abbrev st__law_next : Stmt := top 26
abbrev N__law_next : List Str := ["_law_state", "_law_limit", "_law_at", "_law_cell"]
abbrev P__law_next : List Str := ["_law_state", "_law_limit"]
theorem sc__law_next : FnScope N__law_next P__law_next (defScope st__law_next) := ⟨rfl, rfl, rfl, by decide +kernel, rfl, by decide +kernel, by decide +kernel⟩
abbrev st__law_told : Stmt := top 27
abbrev N__law_told : List Str := ["_law_state", "_law_left", "_law_found", "_law_most", "_law_part", "_law_least", "_law_k"]
abbrev P__law_told : List Str := ["_law_state"]
theorem sc__law_told : FnScope N__law_told P__law_told (defScope st__law_told) := ⟨rfl, rfl, rfl, by decide +kernel, rfl, by decide +kernel, by decide +kernel⟩
abbrev st__law_text : Stmt := top 28
abbrev N__law_text : List Str := ["_law_state", "_law_told_here", "_law_most", "_law_signs", "_law_found", "_law_k", "_law_some"]
abbrev P__law_text : List Str := ["_law_state", "_law_told_here", "_law_most"]
theorem sc__law_text : FnScope N__law_text P__law_text (defScope st__law_text) := ⟨rfl, rfl, rfl, by decide +kernel, rfl, by decide +kernel, by decide +kernel⟩
abbrev st__law_rules : Stmt := top 29
abbrev N__law_rules : List Str := ["_law_told_here"]
abbrev P__law_rules : List Str := ["_law_told_here"]
theorem sc__law_rules : FnScope N__law_rules P__law_rules (defScope st__law_rules) := ⟨rfl, rfl, rfl, by decide +kernel, rfl, by decide +kernel, by decide +kernel⟩
abbrev st__law_quoted : Stmt := top 30
abbrev N__law_quoted : List Str := ["_law_told_here", "_law_text_here", "_law_at", "_law_begin", "_law_sign", "_law_found"]
abbrev P__law_quoted : List Str := ["_law_told_here", "_law_text_here", "_law_at"]
theorem sc__law_quoted : FnScope N__law_quoted P__law_quoted (defScope st__law_quoted) := ⟨rfl, rfl, rfl, by decide +kernel, rfl, by decide +kernel, by decide +kernel⟩
abbrev st__law_word : Stmt := top 31
abbrev N__law_word : List Str := ["_law_told_here", "_law_text_here", "_law_at", "_law_found", "_law_part"]
abbrev P__law_word : List Str := ["_law_told_here", "_law_text_here", "_law_at"]
theorem sc__law_word : FnScope N__law_word P__law_word (defScope st__law_word) := ⟨rfl, rfl, rfl, by decide +kernel, rfl, by decide +kernel, by decide +kernel⟩
abbrev st__law_read : Stmt := top 32
abbrev N__law_read : List Str := ["_law_told_here", "_law_text_here", "_law_words", "_law_places", "_law_at", "_law_end", "_law_word_here"]
abbrev P__law_read : List Str := ["_law_told_here", "_law_text_here"]
theorem sc__law_read : FnScope N__law_read P__law_read (defScope st__law_read) := ⟨rfl, rfl, rfl, by decide +kernel, rfl, by decide +kernel, by decide +kernel⟩
abbrev st__law_said : Stmt := top 33
abbrev N__law_said : List Str := ["_law_found", "_law_sorts"]
abbrev P__law_said : List Str := ["_law_found"]
theorem sc__law_said : FnScope N__law_said P__law_said (defScope st__law_said) := ⟨rfl, rfl, rfl, by decide +kernel, rfl, by decide +kernel, by decide +kernel⟩
abbrev st__law_right : Stmt := top 34
abbrev N__law_right : List Str := ["_law_told_here", "_law_text_here", "_law_others", "_law_rules_here", "_law_due", "_law_again", "_law_found", "_law_one", "_law_other"]
abbrev P__law_right : List Str := ["_law_told_here", "_law_text_here", "_law_others"]
theorem sc__law_right : FnScope N__law_right P__law_right (defScope st__law_right) := ⟨rfl, rfl, rfl, by decide +kernel, rfl, by decide +kernel, by decide +kernel⟩
abbrev st__law_by_hand_right : Stmt := top 35
abbrev N__law_by_hand_right : List Str := ["_law_state", "_law_told_here", "_law_text_here", "_law_rules_here", "_law_due", "_law_words", "_law_places", "_law_lots", "_law_at", "_law_begin", "_law_end", "_law_one", "_law_some", "_law_spots", "_law_handed", "_law_answer", "_law_place", "_law_spot"]
abbrev P__law_by_hand_right : List Str := ["_law_state", "_law_told_here", "_law_text_here"]
theorem sc__law_by_hand_right : FnScope N__law_by_hand_right P__law_by_hand_right (defScope st__law_by_hand_right) := ⟨rfl, rfl, rfl, by decide +kernel, rfl, by decide +kernel, by decide +kernel⟩
abbrev st_law : Stmt := top 36
abbrev N_law : List Str := ["_law_script", "_law_by", "_law_state", "_law_told_here", "_law_other", "_law_most", "_law_text_here", "_law_near", "_law_usual", "_law_found", "_law_due", "_law_faults", "_law_one"]
abbrev P_law : List Str := ["_law_script"]
theorem sc_law : FnScope N_law P_law (defScope st_law) := ⟨rfl, rfl, rfl, by decide +kernel, rfl, by decide +kernel, by decide +kernel⟩
structure Ad where
  c_QuoteError : Addr
  c_BadRules : Addr
  c_BadText : Addr
  c_Rules : Addr
  c_Machine : Addr
  c_Answer : Addr
  c_Words : Addr
  c_Fault : Addr
  f_are_signs : Addr
  d_are_signs : FuncData
  f_Rules_init : Addr
  d_Rules_init : FuncData
  f_Rules_told : Addr
  d_Rules_told : FuncData
  f_Rules_quotes : Addr
  d_Rules_quotes : FuncData
  f_Machine_init : Addr
  d_Machine_init : FuncData
  f_Machine_begin : Addr
  d_Machine_begin : FuncData
  f_Machine_ended : Addr
  d_Machine_ended : FuncData
  f_Machine_plain : Addr
  d_Machine_plain : FuncData
  f_Machine_quoted : Addr
  d_Machine_quoted : FuncData
  f_Machine_step : Addr
  d_Machine_step : FuncData
  f_Machine_fault : Addr
  d_Machine_fault : FuncData
  f_read_all : Addr
  d_read_all : FuncData
  f_Words_init : Addr
  d_Words_init : FuncData
  f_Words_shows : Addr
  d_Words_shows : FuncData
  f_Fault_init : Addr
  d_Fault_init : FuncData
  f_Fault_shows : Addr
  d_Fault_shows : FuncData
  f_split : Addr
  d_split : FuncData
  f__law_cell_at : Addr
  d__law_cell_at : FuncData
  f__law_draw : Addr
  d__law_draw : FuncData
  f__law_number : Addr
  d__law_number : FuncData
  f__law_next : Addr
  d__law_next : FuncData
  f__law_told : Addr
  d__law_told : FuncData
  f__law_text : Addr
  d__law_text : FuncData
  f__law_rules : Addr
  d__law_rules : FuncData
  f__law_quoted : Addr
  d__law_quoted : FuncData
  f__law_word : Addr
  d__law_word : FuncData
  f__law_read : Addr
  d__law_read : FuncData
  f__law_said : Addr
  d__law_said : FuncData
  f__law_right : Addr
  d__law_right : FuncData
  f__law_by_hand_right : Addr
  d__law_by_hand_right : FuncData
  f_law : Addr
  d_law : FuncData
  t_LINE_END : Tok
  a_MOST : Addr
  t_PLAIN : Tok
  t_NOTED : Tok
  t_LONGEST : Tok
structure GF (K : PySem.W.Frag) (mg : Str → Option Value) (x : Str) (f : Addr) : Prop where
  g : mg x = some (.ref f)
  k : PySem.W.keepIn K (.ref f) = true
structure CF (K : PySem.W.Frag) (mg : Str → Option Value) (x : Str) (C f : Addr) : Prop where
  g : mg x = some (.ref C)
  cl : Cls K C
  mc : Mk K C f
structure CG (mg : Str → Option Value) (x : Str) (C : Addr) : Prop where
  g : mg x = some (.ref C)
/-- what isinstance asks of a class -/
structure IsF (K : PySem.W.Frag) (C : Addr) : Prop where
  ha : PySem.W.findIn K (.ref C) "__class__" = some (some (.builtin "object.__class__"))
  hn : PySem.W.specialIn K (.builtin "object.__class__") "__get__" = some (some (.builtin "getset_descriptor.__get__"))
  ht : PySem.W.takesIn K (.builtin "object.__class__") = some true
  hm : PySem.W.mroIn K C (.type "object") = some true
structure Txt (K : PySem.W.Frag) (mg : Str → Option Value) (a : Ad) : Prop where
  F_are_signs : Fun K "are_signs" "are_signs" st_are_signs a.f_are_signs a.d_are_signs
  f_are_signs : GF K mg "are_signs" a.f_are_signs
  F_Rules_init : FunD K "__init__" "Rules.__init__" (defArgs st_Rules_init) (defBody st_Rules_init) (defScope st_Rules_init) [.str (" " : Str), .str ("'" : Str), .str ("\"" : Str), .str ("\\" : Str), .str ("#" : Str)] [] a.f_Rules_init a.d_Rules_init
  F_Rules_told : Fun K "told" "Rules.told" st_Rules_told a.f_Rules_told a.d_Rules_told
  m_Rules_told : Meth K a.c_Rules "told" a.f_Rules_told
  F_Rules_quotes : Fun K "quotes" "Rules.quotes" st_Rules_quotes a.f_Rules_quotes a.d_Rules_quotes
  m_Rules_quotes : Meth K a.c_Rules "quotes" a.f_Rules_quotes
  F_Machine_init : Fun K "__init__" "Machine.__init__" st_Machine_init a.f_Machine_init a.d_Machine_init
  F_Machine_begin : Fun K "begin" "Machine.begin" st_Machine_begin a.f_Machine_begin a.d_Machine_begin
  m_Machine_begin : Meth K a.c_Machine "begin" a.f_Machine_begin
  F_Machine_ended : Fun K "ended" "Machine.ended" st_Machine_ended a.f_Machine_ended a.d_Machine_ended
  m_Machine_ended : Meth K a.c_Machine "ended" a.f_Machine_ended
  F_Machine_plain : Fun K "plain" "Machine.plain" st_Machine_plain a.f_Machine_plain a.d_Machine_plain
  m_Machine_plain : Meth K a.c_Machine "plain" a.f_Machine_plain
  F_Machine_quoted : Fun K "quoted" "Machine.quoted" st_Machine_quoted a.f_Machine_quoted a.d_Machine_quoted
  m_Machine_quoted : Meth K a.c_Machine "quoted" a.f_Machine_quoted
  F_Machine_step : Fun K "step" "Machine.step" st_Machine_step a.f_Machine_step a.d_Machine_step
  m_Machine_step : Meth K a.c_Machine "step" a.f_Machine_step
  F_Machine_fault : Fun K "fault" "Machine.fault" st_Machine_fault a.f_Machine_fault a.d_Machine_fault
  m_Machine_fault : Meth K a.c_Machine "fault" a.f_Machine_fault
  F_read_all : Fun K "read_all" "read_all" st_read_all a.f_read_all a.d_read_all
  f_read_all : GF K mg "read_all" a.f_read_all
  F_Words_init : Fun K "__init__" "Words.__init__" st_Words_init a.f_Words_init a.d_Words_init
  F_Words_shows : Fun K "shows" "Words.shows" st_Words_shows a.f_Words_shows a.d_Words_shows
  m_Words_shows : Meth K a.c_Words "shows" a.f_Words_shows
  F_Fault_init : Fun K "__init__" "Fault.__init__" st_Fault_init a.f_Fault_init a.d_Fault_init
  F_Fault_shows : Fun K "shows" "Fault.shows" st_Fault_shows a.f_Fault_shows a.d_Fault_shows
  m_Fault_shows : Meth K a.c_Fault "shows" a.f_Fault_shows
  F_split : Fun K "split" "split" st_split a.f_split a.d_split
  f_split : GF K mg "split" a.f_split
  F__law_cell_at : Fun K "_law_cell_at" "_law_cell_at" st__law_cell_at a.f__law_cell_at a.d__law_cell_at
  f__law_cell_at : GF K mg "_law_cell_at" a.f__law_cell_at
  F__law_draw : Fun K "_law_draw" "_law_draw" st__law_draw a.f__law_draw a.d__law_draw
  f__law_draw : GF K mg "_law_draw" a.f__law_draw
  F__law_number : Fun K "_law_number" "_law_number" st__law_number a.f__law_number a.d__law_number
  f__law_number : GF K mg "_law_number" a.f__law_number
  F__law_next : Fun K "_law_next" "_law_next" st__law_next a.f__law_next a.d__law_next
  f__law_next : GF K mg "_law_next" a.f__law_next
  F__law_told : Fun K "_law_told" "_law_told" st__law_told a.f__law_told a.d__law_told
  f__law_told : GF K mg "_law_told" a.f__law_told
  F__law_text : Fun K "_law_text" "_law_text" st__law_text a.f__law_text a.d__law_text
  f__law_text : GF K mg "_law_text" a.f__law_text
  F__law_rules : Fun K "_law_rules" "_law_rules" st__law_rules a.f__law_rules a.d__law_rules
  f__law_rules : GF K mg "_law_rules" a.f__law_rules
  F__law_quoted : Fun K "_law_quoted" "_law_quoted" st__law_quoted a.f__law_quoted a.d__law_quoted
  f__law_quoted : GF K mg "_law_quoted" a.f__law_quoted
  F__law_word : Fun K "_law_word" "_law_word" st__law_word a.f__law_word a.d__law_word
  f__law_word : GF K mg "_law_word" a.f__law_word
  F__law_read : Fun K "_law_read" "_law_read" st__law_read a.f__law_read a.d__law_read
  f__law_read : GF K mg "_law_read" a.f__law_read
  F__law_said : Fun K "_law_said" "_law_said" st__law_said a.f__law_said a.d__law_said
  f__law_said : GF K mg "_law_said" a.f__law_said
  F__law_right : Fun K "_law_right" "_law_right" st__law_right a.f__law_right a.d__law_right
  f__law_right : GF K mg "_law_right" a.f__law_right
  F__law_by_hand_right : Fun K "_law_by_hand_right" "_law_by_hand_right" st__law_by_hand_right a.f__law_by_hand_right a.d__law_by_hand_right
  f__law_by_hand_right : GF K mg "_law_by_hand_right" a.f__law_by_hand_right
  F_law : Fun K "law" "law" st_law a.f_law a.d_law
  f_law : GF K mg "law" a.f_law
  c_Rules : CF K mg "Rules" a.c_Rules a.f_Rules_init
  n_Rules_breaks : NoAttr K a.c_Rules "breaks"
  n_Rules_hard : NoAttr K a.c_Rules "hard"
  n_Rules_soft : NoAttr K a.c_Rules "soft"
  n_Rules_bend : NoAttr K a.c_Rules "bend"
  n_Rules_note : NoAttr K a.c_Rules "note"
  c_Machine : CF K mg "Machine" a.c_Machine a.f_Machine_init
  n_Machine_rules : NoAttr K a.c_Machine "rules"
  n_Machine_state : NoAttr K a.c_Machine "state"
  n_Machine_bent : NoAttr K a.c_Machine "bent"
  n_Machine_word : NoAttr K a.c_Machine "word"
  n_Machine_begun : NoAttr K a.c_Machine "begun"
  n_Machine_opened : NoAttr K a.c_Machine "opened"
  n_Machine_place : NoAttr K a.c_Machine "place"
  c_Words : CF K mg "Words" a.c_Words a.f_Words_init
  n_Words_words : NoAttr K a.c_Words "words"
  n_Words_places : NoAttr K a.c_Words "places"
  c_Fault : CF K mg "Fault" a.c_Fault a.f_Fault_init
  n_Fault_place : NoAttr K a.c_Fault "place"
  g_LINE_END : mg "LINE_END" = some (Value.str ("\n" : Str) a.t_LINE_END)
  g_MOST : mg "MOST" = some (Value.ref a.a_MOST)
  s_MOST : ∀ H, SqT K H a.a_MOST [.int 4, .int 2, .int 2, .int 1, .int 1]
  g_PLAIN : mg "PLAIN" = some (Value.str ("" : Str) a.t_PLAIN)
  g_NOTED : mg "NOTED" = some (Value.str ("note" : Str) a.t_NOTED)
  g_LONGEST : mg "LONGEST" = some (Value.int 400 a.t_LONGEST)
  b_isinstance : mg "isinstance" = none
  b_all : mg "all" = none
  b_zip : mg "zip" = none
  b_len : mg "len" = none
  b_set : mg "set" = none
  b_str : mg "str" = none
  b_list : mg "list" = none
  b_range : mg "range" = none
  b_int : mg "int" = none
  b_tuple : mg "tuple" = none
  b_max : mg "max" = none
  b_min : mg "min" = none
  c_Answer : CG mg "Answer" a.c_Answer
  i_Words : IsF K a.c_Words
  i_Fault : IsF K a.c_Fault
  k_WW : PySem.W.kitOne K (.ref a.c_Words) (.ref a.c_Words) = some true
  k_WF : PySem.W.kitOne K (.ref a.c_Words) (.ref a.c_Fault) = some false
  k_WA : PySem.W.kitOne K (.ref a.c_Words) (.ref a.c_Answer) = some true
  k_FF : PySem.W.kitOne K (.ref a.c_Fault) (.ref a.c_Fault) = some true
  k_FW : PySem.W.kitOne K (.ref a.c_Fault) (.ref a.c_Words) = some false
  k_FA : PySem.W.kitOne K (.ref a.c_Fault) (.ref a.c_Answer) = some true
theorem bi_are_signs {K : PySem.W.Frag} {mg : Str → Option Value} {a : Ad} (T : Txt K mg a) : Binds K a.d_are_signs P_are_signs [] := T.F_are_signs.binds (ps := P_are_signs) fun _ _ _ _ _ _ us hl => match us, hl with | [_], _ => rfl
theorem bi_Rules_told {K : PySem.W.Frag} {mg : Str → Option Value} {a : Ad} (T : Txt K mg a) : Binds K a.d_Rules_told P_Rules_told [] := T.F_Rules_told.binds (ps := P_Rules_told) fun _ _ _ _ _ _ us hl => match us, hl with | [_], _ => rfl
theorem bi_Rules_quotes {K : PySem.W.Frag} {mg : Str → Option Value} {a : Ad} (T : Txt K mg a) : Binds K a.d_Rules_quotes P_Rules_quotes [] := T.F_Rules_quotes.binds (ps := P_Rules_quotes) fun _ _ _ _ _ _ us hl => match us, hl with | [_], _ => rfl
theorem bi_Machine_init {K : PySem.W.Frag} {mg : Str → Option Value} {a : Ad} (T : Txt K mg a) : Binds K a.d_Machine_init P_Machine_init [] := T.F_Machine_init.binds (ps := P_Machine_init) fun _ _ _ _ _ _ us hl => match us, hl with | [_, _], _ => rfl
theorem bi_Machine_begin {K : PySem.W.Frag} {mg : Str → Option Value} {a : Ad} (T : Txt K mg a) : Binds K a.d_Machine_begin P_Machine_begin [] := T.F_Machine_begin.binds (ps := P_Machine_begin) fun _ _ _ _ _ _ us hl => match us, hl with | [_], _ => rfl
theorem bi_Machine_ended {K : PySem.W.Frag} {mg : Str → Option Value} {a : Ad} (T : Txt K mg a) : Binds K a.d_Machine_ended P_Machine_ended [] := T.F_Machine_ended.binds (ps := P_Machine_ended) fun _ _ _ _ _ _ us hl => match us, hl with | [_], _ => rfl
theorem bi_Machine_plain {K : PySem.W.Frag} {mg : Str → Option Value} {a : Ad} (T : Txt K mg a) : Binds K a.d_Machine_plain P_Machine_plain [] := T.F_Machine_plain.binds (ps := P_Machine_plain) fun _ _ _ _ _ _ us hl => match us, hl with | [_, _], _ => rfl
theorem bi_Machine_quoted {K : PySem.W.Frag} {mg : Str → Option Value} {a : Ad} (T : Txt K mg a) : Binds K a.d_Machine_quoted P_Machine_quoted [] := T.F_Machine_quoted.binds (ps := P_Machine_quoted) fun _ _ _ _ _ _ us hl => match us, hl with | [_, _], _ => rfl
theorem bi_Machine_step {K : PySem.W.Frag} {mg : Str → Option Value} {a : Ad} (T : Txt K mg a) : Binds K a.d_Machine_step P_Machine_step [] := T.F_Machine_step.binds (ps := P_Machine_step) fun _ _ _ _ _ _ us hl => match us, hl with | [_, _], _ => rfl
theorem bi_Machine_fault {K : PySem.W.Frag} {mg : Str → Option Value} {a : Ad} (T : Txt K mg a) : Binds K a.d_Machine_fault P_Machine_fault [] := T.F_Machine_fault.binds (ps := P_Machine_fault) fun _ _ _ _ _ _ us hl => match us, hl with | [_], _ => rfl
theorem bi_read_all {K : PySem.W.Frag} {mg : Str → Option Value} {a : Ad} (T : Txt K mg a) : Binds K a.d_read_all P_read_all [] := T.F_read_all.binds (ps := P_read_all) fun _ _ _ _ _ _ us hl => match us, hl with | [_, _], _ => rfl
theorem bi_Words_init {K : PySem.W.Frag} {mg : Str → Option Value} {a : Ad} (T : Txt K mg a) : Binds K a.d_Words_init P_Words_init [] := T.F_Words_init.binds (ps := P_Words_init) fun _ _ _ _ _ _ us hl => match us, hl with | [_, _, _], _ => rfl
theorem bi_Words_shows {K : PySem.W.Frag} {mg : Str → Option Value} {a : Ad} (T : Txt K mg a) : Binds K a.d_Words_shows P_Words_shows [] := T.F_Words_shows.binds (ps := P_Words_shows) fun _ _ _ _ _ _ us hl => match us, hl with | [_, _, _], _ => rfl
theorem bi_Fault_init {K : PySem.W.Frag} {mg : Str → Option Value} {a : Ad} (T : Txt K mg a) : Binds K a.d_Fault_init P_Fault_init [] := T.F_Fault_init.binds (ps := P_Fault_init) fun _ _ _ _ _ _ us hl => match us, hl with | [_, _], _ => rfl
theorem bi_Fault_shows {K : PySem.W.Frag} {mg : Str → Option Value} {a : Ad} (T : Txt K mg a) : Binds K a.d_Fault_shows P_Fault_shows [] := T.F_Fault_shows.binds (ps := P_Fault_shows) fun _ _ _ _ _ _ us hl => match us, hl with | [_, _, _], _ => rfl
theorem bi_split {K : PySem.W.Frag} {mg : Str → Option Value} {a : Ad} (T : Txt K mg a) : Binds K a.d_split P_split [] := T.F_split.binds (ps := P_split) fun _ _ _ _ _ _ us hl => match us, hl with | [_, _], _ => rfl
theorem bi__law_cell_at {K : PySem.W.Frag} {mg : Str → Option Value} {a : Ad} (T : Txt K mg a) : Binds K a.d__law_cell_at P__law_cell_at [] := T.F__law_cell_at.binds (ps := P__law_cell_at) fun _ _ _ _ _ _ us hl => match us, hl with | [_, _], _ => rfl
theorem bi__law_draw {K : PySem.W.Frag} {mg : Str → Option Value} {a : Ad} (T : Txt K mg a) : Binds K a.d__law_draw P__law_draw [] := T.F__law_draw.binds (ps := P__law_draw) fun _ _ _ _ _ _ us hl => match us, hl with | [_, _, _], _ => rfl
theorem bi__law_number {K : PySem.W.Frag} {mg : Str → Option Value} {a : Ad} (T : Txt K mg a) : Binds K a.d__law_number P__law_number [] := T.F__law_number.binds (ps := P__law_number) fun _ _ _ _ _ _ us hl => match us, hl with | [_, _, _], _ => rfl
theorem bi__law_next {K : PySem.W.Frag} {mg : Str → Option Value} {a : Ad} (T : Txt K mg a) : Binds K a.d__law_next P__law_next [] := T.F__law_next.binds (ps := P__law_next) fun _ _ _ _ _ _ us hl => match us, hl with | [_, _], _ => rfl
theorem bi__law_told {K : PySem.W.Frag} {mg : Str → Option Value} {a : Ad} (T : Txt K mg a) : Binds K a.d__law_told P__law_told [] := T.F__law_told.binds (ps := P__law_told) fun _ _ _ _ _ _ us hl => match us, hl with | [_], _ => rfl
theorem bi__law_text {K : PySem.W.Frag} {mg : Str → Option Value} {a : Ad} (T : Txt K mg a) : Binds K a.d__law_text P__law_text [] := T.F__law_text.binds (ps := P__law_text) fun _ _ _ _ _ _ us hl => match us, hl with | [_, _, _], _ => rfl
theorem bi__law_rules {K : PySem.W.Frag} {mg : Str → Option Value} {a : Ad} (T : Txt K mg a) : Binds K a.d__law_rules P__law_rules [] := T.F__law_rules.binds (ps := P__law_rules) fun _ _ _ _ _ _ us hl => match us, hl with | [_], _ => rfl
theorem bi__law_quoted {K : PySem.W.Frag} {mg : Str → Option Value} {a : Ad} (T : Txt K mg a) : Binds K a.d__law_quoted P__law_quoted [] := T.F__law_quoted.binds (ps := P__law_quoted) fun _ _ _ _ _ _ us hl => match us, hl with | [_, _, _], _ => rfl
theorem bi__law_word {K : PySem.W.Frag} {mg : Str → Option Value} {a : Ad} (T : Txt K mg a) : Binds K a.d__law_word P__law_word [] := T.F__law_word.binds (ps := P__law_word) fun _ _ _ _ _ _ us hl => match us, hl with | [_, _, _], _ => rfl
theorem bi__law_read {K : PySem.W.Frag} {mg : Str → Option Value} {a : Ad} (T : Txt K mg a) : Binds K a.d__law_read P__law_read [] := T.F__law_read.binds (ps := P__law_read) fun _ _ _ _ _ _ us hl => match us, hl with | [_, _], _ => rfl
theorem bi__law_said {K : PySem.W.Frag} {mg : Str → Option Value} {a : Ad} (T : Txt K mg a) : Binds K a.d__law_said P__law_said [] := T.F__law_said.binds (ps := P__law_said) fun _ _ _ _ _ _ us hl => match us, hl with | [_], _ => rfl
theorem bi__law_right {K : PySem.W.Frag} {mg : Str → Option Value} {a : Ad} (T : Txt K mg a) : Binds K a.d__law_right P__law_right [] := T.F__law_right.binds (ps := P__law_right) fun _ _ _ _ _ _ us hl => match us, hl with | [_, _, _], _ => rfl
theorem bi__law_by_hand_right {K : PySem.W.Frag} {mg : Str → Option Value} {a : Ad} (T : Txt K mg a) : Binds K a.d__law_by_hand_right P__law_by_hand_right [] := T.F__law_by_hand_right.binds (ps := P__law_by_hand_right) fun _ _ _ _ _ _ us hl => match us, hl with | [_, _, _], _ => rfl
theorem bi_law {K : PySem.W.Frag} {mg : Str → Option Value} {a : Ad} (T : Txt K mg a) : Binds K a.d_law P_law [] := T.F_law.binds (ps := P_law) fun _ _ _ _ _ _ us hl => match us, hl with | [_], _ => rfl
end Qw

set_option Elab.async false
set_option linter.all false
set_option maxRecDepth 100000
set_option maxHeartbeats 4000000
namespace Qw
open PySem L2
/-! ### the machine, told in plain Lean -/
structure RS where
  breaks : Tx
  hard : Tx
  soft : Tx
  bend : Tx
  note : Tx
def RS.f (r : RS) : List (Str × V) := [("breaks", .str (S r.breaks)), ("hard", .str (S r.hard)), ("soft", .str (S r.soft)), ("bend", .str (S r.bend)), ("note", .str (S r.note))]
def RS.quotes (r : RS) : Tx := r.hard ++ r.soft
abbrev NT : Tx := [110, 111, 116, 101]
abbrev LE : Nat := 10
abbrev W3 := Tx × Nat × Nat
structure MS where
  rules : Addr
  state : Tx
  bent : Bool
  word : Option Tx
  begun : Nat
  opened : Nat
  place : Nat
def oV : Option Tx → V
  | none => .non
  | some w => .str (S w)
def MS.f (m : MS) : List (Str × V) := [("rules", .ref m.rules), ("state", .str (S m.state)), ("bent", .bl m.bent), ("word", oV m.word), ("begun", .int m.begun), ("opened", .int m.opened), ("place", .int m.place)]
def MS.zero (r : Addr) : MS := ⟨r, [], false, none, 0, 0, 0⟩
def MS.begin (m : MS) : MS := match m.word with
  | none => { m with word := some [], begun := m.place }
  | some _ => m
def MS.out (m : MS) : List W3 := match m.word with
  | none => []
  | some w => [(w, m.begun, m.place)]
def MS.drop (m : MS) : MS := { m with word := none }
def MS.add (m : MS) (c : Nat) : MS := { m with word := m.word.map (· ++ [c]) }
def MS.plain (r : RS) (m : MS) (c : Nat) : MS × List W3 :=
  if c ∈ r.breaks then (m.drop, m.out)
  else if c ∈ r.note then ({ m.drop with state := NT }, m.out)
  else if c ∈ r.quotes then ({ m.begin with state := [c], opened := m.begin.place }, [])
  else if c ∈ r.bend then ({ m.begin with bent := true, opened := m.begin.place }, [])
  else (m.begin.add c, [])
section lk
variable (r : RS) (m : MS)
theorem lk_breaks : List.lookup ("breaks" : Str) r.f = some (.str (S r.breaks)) := by kernel_rfl
theorem lk_hard : List.lookup ("hard" : Str) r.f = some (.str (S r.hard)) := by kernel_rfl
theorem lk_soft : List.lookup ("soft" : Str) r.f = some (.str (S r.soft)) := by kernel_rfl
theorem lk_bend : List.lookup ("bend" : Str) r.f = some (.str (S r.bend)) := by kernel_rfl
theorem lk_note : List.lookup ("note" : Str) r.f = some (.str (S r.note)) := by kernel_rfl
theorem lk_rules : List.lookup ("rules" : Str) m.f = some (.ref m.rules) := by kernel_rfl
theorem lk_state : List.lookup ("state" : Str) m.f = some (.str (S m.state)) := by kernel_rfl
theorem lk_bent : List.lookup ("bent" : Str) m.f = some (.bl m.bent) := by kernel_rfl
theorem lk_word : List.lookup ("word" : Str) m.f = some (oV m.word) := by kernel_rfl
theorem lk_begun : List.lookup ("begun" : Str) m.f = some (.int m.begun) := by kernel_rfl
theorem lk_opened : List.lookup ("opened" : Str) m.f = some (.int m.opened) := by kernel_rfl
theorem lk_place : List.lookup ("place" : Str) m.f = some (.int m.place) := by kernel_rfl
theorem pt_state (x : Tx) : putF ("state" : Str) (.str (S x)) m.f = { m with state := x }.f := by kernel_rfl
theorem pt_bent (x : Bool) : putF ("bent" : Str) (.bl x) m.f = { m with bent := x }.f := by kernel_rfl
theorem pt_word (x : Option Tx) : putF ("word" : Str) (oV x) m.f = { m with word := x }.f := by kernel_rfl
theorem pt_begun (x : Nat) : putF ("begun" : Str) (.int x) m.f = { m with begun := x }.f := by kernel_rfl
theorem pt_opened (x : Nat) : putF ("opened" : Str) (.int x) m.f = { m with opened := x }.f := by kernel_rfl
theorem pt_place (x : Nat) : putF ("place" : Str) (.int x) m.f = { m with place := x }.f := by kernel_rfl
theorem pt_wordS (x : Tx) : putF ("word" : Str) (.str (S x)) m.f = { m with word := some x }.f := by kernel_rfl
theorem pt_wordN : putF ("word" : Str) .non m.f = { m with word := none }.f := by kernel_rfl
theorem pt_place1 (x : Nat) : putF ("place" : Str) (.int ((x : Int) + 1)) m.f = { m with place := x + 1 }.f := by kernel_rfl
theorem litv_empty : V.str (Str.ofString "") = V.str (S []) := by decide +kernel
theorem litv_note : V.str (Str.ofString "note") = V.str (S NT) := by decide +kernel
theorem litv_nl : V.str (Str.ofString "\n") = V.str (S [LE]) := by decide +kernel
theorem lkn_begin : List.lookup ("begin" : Str) m.f = none := by kernel_rfl
theorem lkn_ended : List.lookup ("ended" : Str) m.f = none := by kernel_rfl
theorem lkn_plain : List.lookup ("plain" : Str) m.f = none := by kernel_rfl
theorem lkn_quoted : List.lookup ("quoted" : Str) m.f = none := by kernel_rfl
theorem lkn_step : List.lookup ("step" : Str) m.f = none := by kernel_rfl
theorem lkn_fault : List.lookup ("fault" : Str) m.f = none := by kernel_rfl
theorem lkn_key : List.lookup ("key" : Str) m.f = none := by kernel_rfl
theorem lkn_told : List.lookup ("told" : Str) r.f = none := by kernel_rfl
theorem lkn_quotes : List.lookup ("quotes" : Str) r.f = none := by kernel_rfl
theorem lkn_special : List.lookup ("special" : Str) r.f = none := by kernel_rfl
theorem oV_inj {x y : Option Tx} : oV x = oV y ↔ x = y := by
  cases x <;> cases y <;> simp [oV, S_inj]
theorem mf_inj {m m' : MS} : m.f = m'.f ↔ m = m' := by
  constructor
  · intro h
    cases m; cases m'
    simp only [MS.f, List.cons.injEq, Prod.mk.injEq, V.ref.injEq, V.str.injEq, V.bl.injEq, V.int.injEq, S_inj, oV_inj, true_and, and_true, Int.natCast_inj] at h
    obtain ⟨h1, h2, h3, h4, h5, h6, h7⟩ := h
    subst h1 h2 h3 h4 h5 h6 h7
    rfl
  · intro h; rw [h]
theorem rf_inj {r r' : RS} : r.f = r'.f ↔ r = r' := by
  constructor
  · intro h
    cases r; cases r'
    simp only [RS.f, List.cons.injEq, Prod.mk.injEq, V.str.injEq, S_inj, true_and, and_true] at h
    obtain ⟨h1, h2, h3, h4, h5⟩ := h
    subst h1 h2 h3 h4 h5
    rfl
  · intro h; rw [h]
theorem pt_open1 (x : Nat) : putF ("opened" : Str) (.int ((x : Int) + 1)) m.f = { m with opened := x + 1 }.f := by kernel_rfl
theorem len_mf : m.f.length < 1000 := by show 7 < 1000; decide
end lk
theorem cx_K {CX : CXT} {P : Program} {w : World} {K : PySem.W.Frag} {mg : Str → Option Value} {base : Heap} {N : List Str} {q : Str} {sc : Scope} {f : Addr} {cd : Value} {A : Around} {o : List Env} {s : Shared} {H : Hp} {E : XK} : (cxOf CX P w K mg base N q sc f cd A o s H E).K = K := rfl
theorem cx_N {CX : CXT} {P : Program} {w : World} {K : PySem.W.Frag} {mg : Str → Option Value} {base : Heap} {N : List Str} {q : Str} {sc : Scope} {f : Addr} {cd : Value} {A : Around} {o : List Env} {s : Shared} {H : Hp} {E : XK} : (cxOf CX P w K mg base N q sc f cd A o s H E).nox.K = K := rfl
local macro_rules | `(tactic| walk_at "rd") => `(tactic| simp only [tSeq, tNext, tAsg, tRet, tRetN, tDrop, tIfS, sFld, sFldAug, tVar, tC, tOp, tUn, tTest, tB, tAnd, tOr, tNot, tAndV, tOrV, tNotV, tIf, tTup, tLst, tCons, tNil, tCB, tCall, tMeth, tMake, tFld, rI, rI0, rU, rEq, rNe, rCat, gName, gTup, gCons, gNil, tPar, tPar3, tBM, tBM0, rAppend, rExtend, rPopAt, rIxL, rIxT, rIxS, tSl, rSlS, rSlL, tPart, tNoPart, iStr, iTup, iList, iRng1, tAug, ipI, L2.rAdd, L2.rSub, L2.rAddS, tChain, rIsB, rNotB, scal_ss, scal_ii, scal_bb, scal_nn, scal_in, scal_ni, tYes,
  cx_K, cx_N, List.getElem?_cons_zero, List.getElem?_cons_succ, List.set_cons_zero, List.set_cons_succ, List.nil_append, List.cons_append, List.append_nil, List.length_cons, List.length_nil, Nat.zero_add,
  Option.some.injEq, V.ref.injEq, V.int.injEq, V.str.injEq, V.bl.injEq, HO.ins.injEq, HO.lst.injEq, HO.tup.injEq, List.cons.injEq, exists_eq_left, exists_eq_left', exists_eq_right, exists_eq_right', and_true, true_and, exists_and_left, exists_and_right, and_assoc, decide_eq_true_eq, Bool.not_eq_true', decide_eq_false_iff_not, reduceCtorEq, exists_const, forall_const, if_true, if_false, false_and, and_false, ite_true, ite_false, Bool.true_eq_false, Bool.false_eq_true, Nat.reduceLeDiff, Nat.reduceAdd, small_line, small_lt, upd_ne, ne_eq, not_false_eq_true, Nat.zero_le, Prod.mk.injEq, upd_same, upd_upd, S_tl, S_len, S_app, S_one, S_inj,
  lk_breaks, lk_hard, lk_soft, lk_bend, lk_note, lk_rules, lk_state, lk_bent, lk_word, lk_begun, lk_opened, lk_place, pt_state, pt_bent, pt_word, pt_wordS, pt_wordN, pt_begun, pt_opened, pt_place, pt_place1, len_mf, litv_empty, litv_note, litv_nl, mf_inj, rf_inj, lkn_begin, lkn_ended, lkn_plain, lkn_quoted, lkn_step, lkn_fault, lkn_key, lkn_told, lkn_quotes, lkn_special, pt_open1, not_true_eq_false, not_false_eq_true])
local macro_rules | `(tactic| walk_at "rdh") => `(tactic| simp only [tSeq, tNext, tAsg, tRet, tRetN, tDrop, tIfS, sFld, sFldAug, tVar, tC, tOp, tUn, tTest, tB, tAnd, tOr, tNot, tAndV, tOrV, tNotV, tIf, tTup, tLst, tCons, tNil, tCB, tCall, tMeth, tMake, tFld, rI, rI0, rU, rEq, rNe, rCat, gName, gTup, gCons, gNil, tPar, tPar3, tBM, tBM0, rAppend, rExtend, rPopAt, rIxL, rIxT, rIxS, tSl, rSlS, rSlL, tPart, tNoPart, iStr, iTup, iList, iRng1, tAug, ipI, L2.rAdd, L2.rSub, L2.rAddS, tChain, rIsB, rNotB, scal_ss, scal_ii, scal_bb, scal_nn, scal_in, scal_ni, tYes,
  cx_K, cx_N, List.getElem?_cons_zero, List.getElem?_cons_succ, List.set_cons_zero, List.set_cons_succ, List.nil_append, List.cons_append, List.append_nil, List.length_cons, List.length_nil, Nat.zero_add,
  Option.some.injEq, V.ref.injEq, V.int.injEq, V.str.injEq, V.bl.injEq, HO.ins.injEq, HO.lst.injEq, HO.tup.injEq, List.cons.injEq, exists_eq_left, exists_eq_left', exists_eq_right, exists_eq_right', and_true, true_and, exists_and_left, exists_and_right, and_assoc, decide_eq_true_eq, Bool.not_eq_true', decide_eq_false_iff_not, reduceCtorEq, exists_const, forall_const, if_true, if_false, false_and, and_false, ite_true, ite_false, Bool.true_eq_false, Bool.false_eq_true, Nat.reduceLeDiff, Nat.reduceAdd, small_line, small_lt, upd_ne, ne_eq, not_false_eq_true, Nat.zero_le, Prod.mk.injEq, upd_same, upd_upd, S_tl, S_len, S_app, S_one, S_inj,
  lk_breaks, lk_hard, lk_soft, lk_bend, lk_note, lk_rules, lk_state, lk_bent, lk_word, lk_begun, lk_opened, lk_place, pt_state, pt_bent, pt_word, pt_wordS, pt_wordN, pt_begun, pt_opened, pt_place, pt_place1, len_mf, litv_empty, litv_note, litv_nl, mf_inj, rf_inj, lkn_begin, lkn_ended, lkn_plain, lkn_quoted, lkn_step, lkn_fault, lkn_key, lkn_told, lkn_quotes, lkn_special, pt_open1, not_true_eq_false, not_false_eq_true, *])
local macro_rules | `(tactic| walk_at "pl") => `(tactic| (first | decide | (refine Nat.lt_of_le_of_lt (length_putF _ _ _) ?_; repeat (first | decide | refine pl2 ?_))))
/-! ### what is told: words with their places -/
def Fnd (H : Hp) (x : V) (d : W3) : Prop := ∃ t u, x = .ref t ∧ H t = some (.tup [.str (S d.1), .ref u]) ∧ H u = some (.tup [.int d.2.1, .int d.2.2])
abbrev Fnds (H : Hp) (xs : List V) (ds : List W3) : Prop := Paired (Fnd H) xs ds
theorem Fnd.mono {H H' : Hp} {x : V} {d : W3} (h : Fnd H x d) (t : Tk H H') : Fnd H' x d := by
  obtain ⟨b, u, e, h1, h2⟩ := h
  exact ⟨b, u, e, t _ _ h1, t _ _ h2⟩
theorem Fnds.mono {H H' : Hp} {xs : List V} {ds : List W3} (h : Fnds H xs ds) (t : Tk H H') : Fnds H' xs ds := Paired.mapP h fun _ _ q => q.mono t
theorem Paired.app {α β : Type} {F : α → β → Prop} : ∀ {l₁ : List α} {l₂ : List β} {m₁ : List α} {m₂ : List β}, Paired F l₁ l₂ → Paired F m₁ m₂ → Paired F (l₁ ++ m₁) (l₂ ++ m₂)
  | _, _, _, _, .nil, h => h
  | _, _, _, _, .cons r t, h => .cons r (Paired.app t h)
/-! ### the machine's invariant -/
structure MS.Ok (m : MS) : Prop where
  st : m.state = [] ∨ m.state = NT ∨ ∃ q, m.state = [q]
  wd : (m.bent = true ∨ ∃ q, m.state = [q]) → ∃ w, m.word = some w
  ln : ∀ w, m.word = some w → w.length ≤ m.place
theorem MS.Ok.zero (r : Addr) : (MS.zero r).Ok := ⟨.inl rfl, fun h => (by rcases h with h | ⟨q, h⟩ <;> cases h), fun w h => (by cases h)⟩
def MS.quoted (r : RS) (m : MS) (c : Nat) : MS :=
  if [c] = m.state then { m with state := [] }
  else if c ∈ r.bend ∧ m.state.all (· ∈ r.soft) = true then { m with bent := true }
  else m.add c
def MS.step (r : RS) (m : MS) (c : Nat) : MS × List W3 :=
  let m1 := if m.state = NT ∧ c = LE then { m with state := [] } else m
  let x := if m1.bent = true then (({ m1 with bent := false } : MS).add c, []) else if m1.state = [] then m1.plain r c else if m1.state = NT then (m1, []) else (m1.quoted r c, [])
  ({ x.1 with place := x.1.place + 1 }, x.2)
def MS.fault (m : MS) : Option Nat := if m.bent = true ∨ (m.state ≠ [] ∧ m.state ≠ NT) then some m.opened else none
section
variable {P : Program} {w : World} {K : PySem.W.Frag} {mg : Str → Option Value} {base : Heap} {a : Ad}
theorem rm_ne {H : Hp} {p q C D dx dr : Addr} {m : MS} {r : RS} (h1 : H p = some (.ins C dx m.f)) (h2 : H q = some (.ins D dr r.f)) : q ≠ p :=
  Ne.symm (ne_of h1 h2 fun z => by injection z with _ _ z; exact absurd (congrArg List.length z) (by show ¬ (7 = 5); decide))
def sp_Machine_init (a : Ad) : Sp := fun vs H Q _ => ∃ p dx r, vs = [.ref p, .ref r] ∧ H p = some (.ins a.c_Machine dx []) ∧
  ∀ H', H' p = some (.ins a.c_Machine dx (MS.zero r).f) → Kp p H H' → Q .non H'
theorem ok_Machine_init (T : Txt K mg a) : FnOk P w K mg base CX0 1 a.f_Machine_init a.d_Machine_init P_Machine_init (sp_Machine_init a) := by
  refine T.F_Machine_init.ok sc_Machine_init (fun vs H Q E h => ?_) (fun cdv A outer s H vs Q E hr h => ?_)
  · obtain ⟨p, dx, m, rfl, _⟩ := h
    rfl
  · obtain ⟨p, dx, r, rfl, hM, k⟩ := h
    refine ⟨_,
(pss_cons (ps_fld (pv 0) (pv 1) rfl)
    (pss_cons (ps_fld (pv 0) (pe_glob (v := .str ("" : Str)) rfl T.g_PLAIN ⟨_, rfl⟩) rfl)
    (pss_cons (ps_fld (pv 0) pe_bl rfl)
    (pss_cons (ps_fld (pv 0) pe_non rfl)
    (pss_cons (ps_fld (pv 0) pe_int rfl)
    (pss_cons (ps_fld (pv 0) pe_int rfl)
    (pss_one (ps_fld (pv 0) pe_int rfl))))))))
      , ?_⟩
    rw [show start N_Machine_init [V.ref p, V.ref r] = [some (.ref p), some (.ref r)] from rfl]
    have hc := T.c_Machine.cl
    have n1 := T.n_Machine_word
    have n2 := T.n_Machine_place
    have n3 := T.n_Machine_begun
    have n4 := T.n_Machine_rules
    have n5 := T.n_Machine_state
    have n6 := T.n_Machine_bent
    have n7 := T.n_Machine_opened
    walk_at "rdh"
    refine ⟨by walk_at "pl", by walk_at "pl", by walk_at "pl", by walk_at "pl", by walk_at "pl", by walk_at "pl", by walk_at "pl", ?_⟩
    refine k _ ?_ kp_upd
    rw [upd_same]
    exact congrArg (fun l => some (HO.ins a.c_Machine dx l)) (show _ = (MS.zero r).f by kernel_rfl)
def sp_begin (a : Ad) : Sp := fun vs H Q _ => ∃ p dx m, vs = [.ref p] ∧ H p = some (.ins a.c_Machine dx (MS.f m)) ∧
  ∀ H', H' p = some (.ins a.c_Machine dx m.begin.f) → Kp p H H' → Q .non H'
theorem ok_Machine_begin (T : Txt K mg a) : FnOk P w K mg base CX0 1 a.f_Machine_begin a.d_Machine_begin P_Machine_begin (sp_begin a) := by
  refine T.F_Machine_begin.ok sc_Machine_begin (fun vs H Q E h => ?_) (fun cdv A outer s H vs Q E hr h => ?_)
  · obtain ⟨p, dx, m, rfl, _⟩ := h
    rfl
  · obtain ⟨p, dx, m, rfl, hM, k⟩ := h
    refine ⟨_,
(pss_one (ps_if (pt_cmpR op_isN (pe_fld (pv 0) rfl) pe_non (nomark _)) (pss_cons (ps_fld (pv 0) pe_str rfl)
    (pss_one (ps_fld (pv 0) (pe_fld (pv 0) rfl) rfl))) pss_nil))
      , ?_⟩
    rw [show start N_Machine_begin [V.ref p] = [some (.ref p)] from rfl]
    have hc := T.c_Machine.cl
    have n1 := T.n_Machine_word
    have n2 := T.n_Machine_place
    have n3 := T.n_Machine_begun
    walk_at "rdh"
    cases hw : m.word with
    | none =>
      simp only [oV, ite_true]
      refine k _ ?_ kp_upd
      rw [upd_same]
      simp only [MS.begin, hw]
    | some z =>
      simp only [oV, reduceCtorEq, ite_false]
      refine k _ ?_ fun b o e _ => e
      rw [hM]
      simp only [MS.begin, hw]
def sp_ended (a : Ad) : Sp := fun vs H Q _ => ∃ p dx m, vs = [.ref p] ∧ H p = some (.ins a.c_Machine dx (MS.f m)) ∧
  ∀ l H' xs, H l = none → H' l = some (.lst xs) → Fnds H' xs m.out → H' p = some (.ins a.c_Machine dx m.drop.f) → Kp p H H' → Q (.ref l) H'
theorem ok_Machine_ended (T : Txt K mg a) : FnOk P w K mg base CX0 1 a.f_Machine_ended a.d_Machine_ended P_Machine_ended (sp_ended a) := by
  refine T.F_Machine_ended.ok sc_Machine_ended (fun vs H Q E h => ?_) (fun cdv A outer s H vs Q E hr h => ?_)
  · obtain ⟨p, dx, m, rfl, _⟩ := h
    rfl
  · obtain ⟨p, dx, m, rfl, hM, k⟩ := h
    refine ⟨_,
(pss_cons (ps_if (pt_cmpR op_isN (pe_fld (pv 0) rfl) pe_non (nomark _)) (pss_one (ps_ret (pe_lst pa_nil))) pss_nil)
    (pss_cons (ps_set (i := 1) sc_Machine_ended.nd rfl (by first | exact Or.inl rfl | exact Or.inr rfl) (pe_lst (pa_cons (pe_tup (pa_cons (pe_fld (pv 0) rfl) (pa_cons (pe_tup (pa_cons (pe_fld (pv 0) rfl) (pa_cons (pe_fld (pv 0) rfl) pa_nil))) pa_nil))) pa_nil)))
    (pss_cons (ps_fld (pv 0) pe_non rfl)
    (pss_one (ps_ret (pv 1))))))
      , ?_⟩
    rw [show start N_Machine_ended [V.ref p] = [some (.ref p), none] from rfl]
    have hc := T.c_Machine.cl
    have n1 := T.n_Machine_word
    have n2 := T.n_Machine_place
    have n3 := T.n_Machine_begun
    walk_at "rdh"
    cases hw : m.word with
    | none =>
      simp only [oV, ite_true]
      intro l hl
      refine k l _ [] hl upd_same ?_ ?_ ((same_new hl).kp _)
      · simp only [MS.out, hw]; exact .nil
      · rw [upd_old hM hl]
        simp only [MS.drop, ← hw]
    | some z =>
      simp only [oV, reduceCtorEq, ite_false]
      intro t ht u hu l hl
      have ht' := none_upd hu
      have n4 := ne_upd hu
      have n5 := ne_upd hl
      have n6 := ne_upd (none_upd' hl n5)
      have n7 := none_upd (none_upd' hl n5)
      have e1 := ne_of_none hM ht
      have e2 := ne_of_none hM ht'
      have e3 := ne_of_none hM n7
      walk_at "rdh"
      refine k l _ [.ref u] n7 ?_ ?_ ?_ ?_
      · rw [upd_ne (Ne.symm e3), upd_same]
      · simp only [MS.out, hw]
        refine .cons ⟨u, t, rfl, ?_, ?_⟩ .nil
        · rw [upd_ne (Ne.symm e2), upd_ne (Ne.symm n5), upd_same]
        · rw [upd_ne (Ne.symm e1), upd_ne (Ne.symm n6), upd_ne (Ne.symm n4), upd_same]
      · rw [upd_same, MS.drop]
      · exact ((((same_new ht).trans (same_new hu)).trans (same_new hl)).kp p).upd
/-- the machine's sign: a sign outside of quoted stretches -/
def sp_plain (a : Ad) : Sp := fun vs H Q _ => ∃ p dx m c dr r, vs = [.ref p, .str (S [c])] ∧ H p = some (.ins a.c_Machine dx (MS.f m)) ∧ H m.rules = some (.ins a.c_Rules dr (RS.f r)) ∧ r.hard.length + r.soft.length ≤ 100 ∧ m.Ok ∧ m.place < 100000 ∧
  ∀ l H' xs, H l = none → H' l = some (.lst xs) → Fnds H' xs (m.plain r c).2 → H' p = some (.ins a.c_Machine dx (m.plain r c).1.f) → Kp p H H' → Q (.ref l) H'
def sp_quotes (a : Ad) : Sp := fun vs H Q _ => ∃ p dr r, vs = [.ref p] ∧ H p = some (.ins a.c_Rules dr (RS.f r)) ∧ r.hard.length + r.soft.length ≤ 100 ∧ Q (.str (S r.quotes)) H
theorem ok_Rules_quotes (T : Txt K mg a) : FnOk P w K mg base CX0 1 a.f_Rules_quotes a.d_Rules_quotes P_Rules_quotes (sp_quotes a) := by
  refine T.F_Rules_quotes.ok sc_Rules_quotes (fun vs H Q E h => ?_) (fun cdv A outer s H vs Q E hr h => ?_)
  · obtain ⟨p, dx, m, rfl, _⟩ := h
    rfl
  · obtain ⟨p, dx, m, rfl, hM, hz, k⟩ := h
    refine ⟨_,
(pss_one (ps_ret (pe_op op_add_str (pe_fld (pv 0) rfl) (pe_fld (pv 0) rfl))))
      , ?_⟩
    rw [show start N_Rules_quotes [V.ref p] = [some (.ref p)] from rfl]
    have hc := T.c_Rules.cl
    have n1 := T.n_Rules_hard
    have n2 := T.n_Rules_soft
    walk_at "rdh"
    exact ⟨Nat.le_trans hz (by decide), k⟩
theorem ok_Machine_plain (T : Txt K mg a) : FnOk P w K mg base CX0 2 a.f_Machine_plain a.d_Machine_plain P_Machine_plain (sp_plain a) := by
  refine T.F_Machine_plain.ok sc_Machine_plain (fun vs H Q E h => ?_) (fun cdv A outer s H vs Q E hr h => ?_)
  · obtain ⟨p, dx, m, c, dr, r, rfl, _⟩ := h
    rfl
  · obtain ⟨p, dx, m, c, dr, r, rfl, hM, hR, hq, ok, hz, k⟩ := h
    have G_Machine_ended := ok_Machine_ended (P := P) (w := w) (base := base) T
    have B_Machine_ended := bi_Machine_ended T
    have G_Machine_begin := ok_Machine_begin (P := P) (w := w) (base := base) T
    have B_Machine_begin := bi_Machine_begin T
    have G_Rules_quotes := ok_Rules_quotes (P := P) (w := w) (base := base) T
    have B_Rules_quotes := bi_Rules_quotes T
    refine ⟨_,
(pss_cons (ps_set (i := 2) sc_Machine_plain.nd rfl (by first | exact Or.inl rfl | exact Or.inr rfl) (pe_fld (pv 0) rfl))
    (pss_cons (ps_if (pt_cmpR op_in_sign (pv 1) (pe_fld (pv 2) rfl) rfl) (pss_one (ps_ret (pe_meth0 (pv 0) T.c_Machine.cl T.m_Machine_ended G_Machine_ended (hr.mono (by decide)) B_Machine_ended .nil pass0))) pss_nil)
    (pss_cons (ps_if (pt_cmpR op_in_sign (pv 1) (pe_fld (pv 2) rfl) rfl) (pss_cons (ps_fld (pv 0) (pe_glob (v := .str ("note" : Str)) rfl T.g_NOTED ⟨_, rfl⟩) rfl)
    (pss_one (ps_ret (pe_meth0 (pv 0) T.c_Machine.cl T.m_Machine_ended G_Machine_ended (hr.mono (by decide)) B_Machine_ended .nil pass0)))) pss_nil)
    (pss_cons (ps_expr (pe_meth0 (pv 0) T.c_Machine.cl T.m_Machine_begin G_Machine_begin (hr.mono (by decide)) B_Machine_begin .nil pass0))
    (pss_cons (ps_if (pt_cmpR op_in_sign (pv 1) (pe_meth0 (pv 2) T.c_Rules.cl T.m_Rules_quotes G_Rules_quotes (hr.mono (by decide)) B_Rules_quotes .nil pass0) rfl) (pss_cons (ps_fld (pv 0) (pv 1) rfl)
    (pss_one (ps_fld (pv 0) (pe_fld (pv 0) rfl) rfl))) (pss_one (ps_if (pt_cmpR op_in_sign (pv 1) (pe_fld (pv 2) rfl) rfl) (pss_cons (ps_fld (pv 0) pe_bl rfl)
    (pss_one (ps_fld (pv 0) (pe_fld (pv 0) rfl) rfl))) (pss_one (ps_fldaug (pv 0) (pv 1) in_addS)))))
    (pss_one (ps_ret (pe_lst pa_nil))))))))
      , ?_⟩
    rw [show start N_Machine_plain [V.ref p, V.str (S [c])] = [some (.ref p), some (.str (S [c])), none] from rfl]
    have hc := T.c_Machine.cl
    have hd := T.c_Rules.cl
    have n1 := T.n_Machine_word
    have n2 := T.n_Machine_place
    have n3 := T.n_Machine_rules
    have n4 := T.n_Machine_state
    have n5 := T.n_Machine_opened
    have n6 := T.n_Machine_bent
    have r1 := T.n_Rules_breaks
    have r2 := T.n_Rules_note
    have r3 := T.n_Rules_bend
    have hne := rm_ne hM hR
    walk_at "rdh"
    refine ite2 (fun c1 => ?_) (fun c1 => ?_)
    · refine ⟨p, dx, m, rfl, hM, fun l H' xs hl h1 h2 h3 h4 => k l H' xs hl h1 ?_ ?_ h4⟩
      · simpa only [MS.plain, if_pos c1] using h2
      · simpa only [MS.plain, if_pos c1] using h3
    refine ite2 (fun c2 => ?_) (fun c2 => ?_)
    · refine ⟨p, dx, _, rfl, upd_same, fun l H' xs hl h1 h2 h3 h4 => k l H' xs (none_upd hl) h1 ?_ ?_ (kp_upd.trans h4)⟩
      · simpa only [MS.plain, if_neg c1, if_pos c2, MS.out] using h2
      · simpa only [MS.plain, if_neg c1, if_pos c2, MS.drop] using h3
    refine ⟨p, dx, m, rfl, hM, fun H' h1 h2 => ?_⟩
    have hR' := h2 _ _ hR hne
    have er : m.begin.rules = m.rules := by unfold MS.begin; split <;> rfl
    have bk : ∀ {o u l}, upd (upd H' p o) l u p = some o → True := fun _ => trivial
    walk_at "rdh"
    refine ⟨_, _, _, rfl, hR', hq, ?_⟩
    walk_at "rdh"
    have fin : ∀ (m' : MS) (l : Addr), upd H' p (.ins a.c_Machine dx m'.f) l = none → MS.plain r m c = (m', []) → Q (.ref l) (upd (upd H' p (.ins a.c_Machine dx m'.f)) l (.lst [])) := fun m' l hl e => by
      have e1 := ne_upd hl
      refine k l _ [] ?_ upd_same ?_ ?_ ?_
      · cases q : H l with
        | none => rfl
        | some o => exact absurd (h2 l o q e1) (by rw [none_upd hl]; intro z; cases z)
      · rw [e]; exact .nil
      · rw [e, upd_ne (Ne.symm e1), upd_same]
      · exact (h2.upd).trans ((same_new hl).kp p)
    refine ite2 (fun c3 => ?_) (fun c3 => ?_)
    · intro l hl
      exact fin _ l hl (by simp only [MS.plain, if_neg c1, if_neg c2, if_pos c3, er])
    refine ite2 (fun c4 => ?_) (fun c4 => ?_)
    · intro l hl
      exact fin _ l hl (by simp only [MS.plain, if_neg c1, if_neg c2, if_neg c3, if_pos c4, er])
    obtain ⟨z, hz1, hz2⟩ : ∃ z, m.begin.word = some z ∧ z.length ≤ m.place := by
      unfold MS.begin
      cases hw : m.word with
      | none => exact ⟨[], rfl, Nat.zero_le _⟩
      | some z => exact ⟨z, hw, ok.ln z hw⟩
    rw [hz1]
    simp only [oV]
    walk_at "rdh"
    refine ⟨Nat.le_trans (Nat.succ_le_of_lt (Nat.lt_of_le_of_lt hz2 hz)) (by decide), fun l hl => ?_⟩
    exact fin _ l hl (by simp only [MS.plain, if_neg c1, if_neg c2, if_neg c3, if_neg c4, MS.add, er, hz1, Option.map])
def sp_quoted (a : Ad) : Sp := fun vs H Q _ => ∃ p dx m c dr r q z, vs = [.ref p, .str (S [c])] ∧ H p = some (.ins a.c_Machine dx (MS.f m)) ∧ H m.rules = some (.ins a.c_Rules dr (RS.f r)) ∧ m.state = [q] ∧ m.word = some z ∧ z.length ≤ m.place ∧ m.place < 100000 ∧
  ∀ H', H' p = some (.ins a.c_Machine dx (m.quoted r c).f) → Kp p H H' → Q .non H'
theorem ok_Machine_quoted (T : Txt K mg a) : FnOk P w K mg base CX0 1 a.f_Machine_quoted a.d_Machine_quoted P_Machine_quoted (sp_quoted a) := by
  refine T.F_Machine_quoted.ok sc_Machine_quoted (fun vs H Q E h => ?_) (fun cdv A outer s H vs Q E hr h => ?_)
  · obtain ⟨p, dx, m, c, dr, r, q, z, rfl, _⟩ := h
    rfl
  · obtain ⟨p, dx, m, c, dr, r, q, z, rfl, hM, hR, hs, hw, hz, hp, k⟩ := h
    obtain ⟨mr, ms, mb, mw, m1, m2, m3⟩ := m
    dsimp only at hs hw hR hz hp
    subst hs hw
    refine ⟨_,
(pss_one (ps_if (pt_cmpR op_eq (pv 1) (pe_fld (pv 0) rfl) (nomark _)) (pss_one (ps_fld (pv 0) (pe_glob (v := .str ("" : Str)) rfl T.g_PLAIN ⟨_, rfl⟩) rfl)) (pss_one (ps_if (PW.pt (pw_and (pt_cmpR op_in_sign (pv 1) (pe_fld (pe_fld (pv 0) rfl) rfl) rfl) (pw_and1 (pt_cmpR op_in_sign (pe_fld (pv 0) rfl) (pe_fld (pe_fld (pv 0) rfl) rfl) rfl)))) (pss_one (ps_fld (pv 0) pe_bl rfl)) (pss_one (ps_fldaug (pv 0) (pv 1) in_addS))))))
      , ?_⟩
    rw [show start N_Machine_quoted [V.ref p, V.str (S [c])] = [some (.ref p), some (.str (S [c]))] from rfl]
    have hc := T.c_Machine.cl
    have hd := T.c_Rules.cl
    have n1 := T.n_Machine_word
    have n3 := T.n_Machine_rules
    have n4 := T.n_Machine_state
    have n6 := T.n_Machine_bent
    have r1 := T.n_Rules_soft
    have r3 := T.n_Rules_bend
    have hne : mr ≠ p := rm_ne hM hR
    walk_at "rdh"
    simp only [oV]
    walk_at "rdh"
    have hl : List.length z + 1 ≤ sizeLine := Nat.le_trans (Nat.succ_le_of_lt (Nat.lt_of_le_of_lt hz hp)) (by decide)
    simp only [MS.quoted, MS.add, List.cons.injEq, and_true, List.all_cons, List.all_nil, Bool.and_true, decide_eq_true_eq, Option.map] at k
    refine ite2 (fun c1 => ?_) (fun c1 => ?_)
    · refine k _ ?_ kp_upd
      rw [upd_same, if_pos c1]
    refine ite2 (fun c2 => ?_) (fun c2 => ?_)
    · refine ite2 (fun c3 => ?_) (fun c3 => ?_)
      · refine k _ ?_ kp_upd
        rw [upd_same, if_neg c1, if_pos ⟨c2, c3⟩]
      · refine ⟨hl, k _ ?_ kp_upd⟩
        rw [upd_same, if_neg c1, if_neg (fun h => c3 h.2)]
    · refine ⟨hl, k _ ?_ kp_upd⟩
      rw [upd_same, if_neg c1, if_neg (fun h => c2 h.1)]
def sp_fault (a : Ad) : Sp := fun vs H Q _ => ∃ p dx m, vs = [.ref p] ∧ H p = some (.ins a.c_Machine dx (MS.f m)) ∧
  ∀ H', Same H H' → Q (match m.fault with | none => .non | some n => .int n) H'
theorem ok_Machine_fault (T : Txt K mg a) : FnOk P w K mg base CX0 1 a.f_Machine_fault a.d_Machine_fault P_Machine_fault (sp_fault a) := by
  refine T.F_Machine_fault.ok sc_Machine_fault (fun vs H Q E h => ?_) (fun cdv A outer s H vs Q E hr h => ?_)
  · obtain ⟨p, dx, m, rfl, _⟩ := h
    rfl
  · obtain ⟨p, dx, m, rfl, hM, k⟩ := h
    refine ⟨_,
(pss_one (ps_ret (pe_ifExp (PW.pt (pw_or (pt_val (pe_fld (pv 0) rfl)) (pw_or1 (pt_cmpR op_notIn_seq (pe_fld (pv 0) rfl) (pe_tup (pa_cons (pe_glob (v := .str ("" : Str)) rfl T.g_PLAIN ⟨_, rfl⟩) (pa_cons (pe_glob (v := .str ("note" : Str)) rfl T.g_NOTED ⟨_, rfl⟩) pa_nil))) rfl)))) (pe_fld (pv 0) rfl) pe_non)))
      , ?_⟩
    rw [show start N_Machine_fault [V.ref p] = [some (.ref p)] from rfl]
    have hc := T.c_Machine.cl
    have n4 := T.n_Machine_state
    have n5 := T.n_Machine_opened
    have n6 := T.n_Machine_bent
    walk_at "rdh"
    refine ite2 (fun c1 => ?_) (fun c1 => ?_)
    · have := k H (Same.refl H)
      rw [MS.fault, if_pos (.inl c1)] at this
      exact this
    intro t ht
    refine ⟨t, _, rfl, .inr (SqT.of upd_same), rfl, rfl, _, rfl, ?_⟩
    have hM' : upd H t (HO.tup [V.str (S []), V.str (S NT)]) p = some (HO.ins a.c_Machine dx m.f) := upd_old hM ht
    have c2 : (if true = true then !inV (V.str (S m.state)) [V.str (S []), V.str (S NT)] else inV (V.str (S m.state)) [V.str (S []), V.str (S NT)]) = decide (m.state ≠ [] ∧ m.state ≠ NT) := by
      simp only [inV, List.any, eqV, S_inj, ite_true, S_beq, Bool.or_false]
      rw [Bool.eq_iff_iff]
      simp only [Bool.not_eq_true', Bool.or_eq_false_iff, decide_eq_false_iff_not, decide_eq_true_eq]
      exact ⟨fun h => ⟨fun e => h.1 e.symm, fun e => h.2 e.symm⟩, fun h => ⟨fun e => h.1 e.symm, fun e => h.2 e.symm⟩⟩
    rw [c2]
    refine ite2 (fun c3 => ?_) (fun c3 => ?_)
    · walk_at "rdh"
      have := k (upd H t (HO.tup [V.str (S []), V.str (S NT)])) (same_new ht)
      rw [MS.fault, if_pos (.inr (of_decide_eq_true c3))] at this
      exact this
    · have := k (upd H t (HO.tup [V.str (S []), V.str (S NT)])) (same_new ht)
      rw [MS.fault, if_neg (fun h => h.elim c1 fun h => c3 (decide_eq_true h))] at this
      exact this
/-! ### a sign -/
theorem MS.rules_begin (m : MS) : m.begin.rules = m.rules := by unfold MS.begin; split <;> rfl
def sp_step (a : Ad) : Sp := fun vs H Q _ => ∃ p dx m c dr r, vs = [.ref p, .str (S [c])] ∧ H p = some (.ins a.c_Machine dx (MS.f m)) ∧ H m.rules = some (.ins a.c_Rules dr (RS.f r)) ∧ r.hard.length + r.soft.length ≤ 100 ∧ m.Ok ∧ m.place < 100000 ∧
  ∀ l H' xs, H l = none → H' l = some (.lst xs) → Fnds H' xs (m.step r c).2 → H' p = some (.ins a.c_Machine dx (m.step r c).1.f) → Kp p H H' → Q (.ref l) H'
theorem ok_Machine_step (T : Txt K mg a) : FnOk P w K mg base CX0 3 a.f_Machine_step a.d_Machine_step P_Machine_step (sp_step a) := by
  refine T.F_Machine_step.ok sc_Machine_step (fun vs H Q E h => ?_) (fun cdv A outer s H vs Q E hr h => ?_)
  · obtain ⟨p, dx, m, c, dr, r, rfl, _⟩ := h
    rfl
  · obtain ⟨p, dx, m, c, dr, r, rfl, hM, hR, hq, ok, hz, k⟩ := h
    have G_Machine_plain := ok_Machine_plain (P := P) (w := w) (base := base) T
    have B_Machine_plain := bi_Machine_plain T
    have G_Machine_quoted := ok_Machine_quoted (P := P) (w := w) (base := base) T
    have B_Machine_quoted := bi_Machine_quoted T
    refine ⟨_,
(pss_cons (ps_set (i := 2) sc_Machine_step.nd rfl (by first | exact Or.inl rfl | exact Or.inr rfl) (pe_lst pa_nil))
    (pss_cons (ps_if (PW.pt (pw_and (pt_cmpR op_eq (pe_fld (pv 0) rfl) (pe_glob (v := .str ("note" : Str)) rfl T.g_NOTED ⟨_, rfl⟩) (nomark _)) (pw_and1 (pt_cmpR op_eq (pv 1) (pe_glob (v := .str ("\n" : Str)) rfl T.g_LINE_END ⟨_, rfl⟩) (nomark _))))) (pss_one (ps_fld (pv 0) (pe_glob (v := .str ("" : Str)) rfl T.g_PLAIN ⟨_, rfl⟩) rfl)) pss_nil)
    (pss_cons (ps_if (pt_val (pe_fld (pv 0) rfl)) (pss_cons (ps_fld (pv 0) pe_bl rfl)
    (pss_one (ps_fldaug (pv 0) (pv 1) in_addS))) (pss_one (ps_if (pt_cmpR op_eq (pe_fld (pv 0) rfl) (pe_glob (v := .str ("" : Str)) rfl T.g_PLAIN ⟨_, rfl⟩) (nomark _)) (pss_one (ps_set (i := 2) sc_Machine_step.nd rfl (by first | exact Or.inl rfl | exact Or.inr rfl) (pe_meth (pv 0) T.c_Machine.cl T.m_Machine_plain G_Machine_plain (hr.mono (by decide)) B_Machine_plain .nil pass0 (pa_cons (pv 1) pa_nil)))) (pss_one (ps_if (pt_cmpR op_ne (pe_fld (pv 0) rfl) (pe_glob (v := .str ("note" : Str)) rfl T.g_NOTED ⟨_, rfl⟩) (nomark _)) (pss_one (ps_expr (pe_meth (pv 0) T.c_Machine.cl T.m_Machine_quoted G_Machine_quoted (hr.mono (by decide)) B_Machine_quoted .nil pass0 (pa_cons (pv 1) pa_nil)))) pss_nil)))))
    (pss_cons (ps_fldaug (pv 0) pe_int in_add)
    (pss_one (ps_ret (pv 2)))))))
      , ?_⟩
    rw [show start N_Machine_step [V.ref p, V.str (S [c])] = [some (.ref p), some (.str (S [c])), none] from rfl]
    have hc := T.c_Machine.cl
    have hd := T.c_Rules.cl
    have n1 := T.n_Machine_word
    have n2 := T.n_Machine_place
    have n4 := T.n_Machine_state
    have n6 := T.n_Machine_bent
    have hne := rm_ne hM hR
    walk_at "rdh"
    intro l0 hl0
    have S1 := same_new (o := HO.lst []) hl0
    have hM1 := S1 _ _ hM
    have hR1 := S1 _ _ hR
    have hL1 : upd H l0 (HO.lst []) l0 = some (HO.lst []) := upd_same
    generalize upd H l0 (HO.lst []) = H1 at *
    have np : p ≠ l0 := ne_of_none hM hl0
    -- the end: the place, and what is told
    have fin : ∀ (m' : MS) (l : Addr) (H' : Hp) (xs : List V), H l = none → H' l = some (.lst xs) → Fnds H' xs (m.step r c).2 → H' p = some (.ins a.c_Machine dx m'.f) → { m' with place := m'.place + 1 } = (m.step r c).1 → Kp p H H' →
        Q (.ref l) (upd H' p (.ins a.c_Machine dx { m' with place := m'.place + 1 }.f)) := fun m' l H' xs h1 h2 h3 h4 h5 h6 => by
      have e1 : l ≠ p := fun z => by rw [z] at h1; rw [h1] at hM; cases hM
      refine k l _ xs h1 ?_ (h3.mono (kp_upd.tk h4 fun _ z => by cases z)) ?_ (h6.upd)
      · rw [upd_ne e1]; exact h2
      · rw [upd_same, h5]
    have fin0 : ∀ m'' : MS, m.step r c = (m'', []) → Q (.ref l0) (upd H1 p (.ins a.c_Machine dx m''.f)) := fun m'' e => by
      refine k l0 _ [] hl0 ?_ (by rw [e]; exact .nil) (by rw [upd_same, e]) ((S1.kp p).upd)
      rw [upd_ne (Ne.symm np)]
      exact hL1
    have word : m.bent = true ∨ (∃ q, m.state = [q]) → ∃ z, m.word = some z ∧ z.length ≤ m.place := fun h => by
      obtain ⟨z, e⟩ := ok.wd h
      exact ⟨z, e, ok.ln z e⟩
    have room : ∀ z : Tx, z.length ≤ m.place → z.length + 1 ≤ sizeLine := fun z h => Nat.le_trans (Nat.succ_le_of_lt (Nat.lt_of_le_of_lt h hz)) (by decide)
    walk_at "rdh"
    by_cases hb : m.bent = true
    · obtain ⟨z, w1, w2⟩ := word (.inl hb)
      simp only [hb, w1, oV, ite_true]
      walk_at "rdh"
      refine ite2 (fun c1 => ?_) (fun c1 => ?_)
      · refine ite2 (fun c2 => ?_) (fun c2 => ?_)
        · exact fin0 _ (by simp [MS.step, c1, c2, hb, MS.add, w1])
        · exact fin0 _ (by simp [MS.step, c1, c2, hb, MS.add, w1])
      · exact fin0 _ (by simp [MS.step, c1, hb, MS.add, w1])
    · have hb' : m.bent = false := by simpa using hb
      simp only [hb', Bool.false_eq_true, ite_false]
      -- plain
      have pl : ∀ (m1 : MS) (H2 : Hp), H2 p = some (.ins a.c_Machine dx m1.f) → Kp p H H2 → m1.rules = m.rules → m1.place = m.place → m1.Ok → m.step r c = ({ (m1.plain r c).1 with place := (m1.plain r c).1.place + 1 }, (m1.plain r c).2) →
          sp_plain a [V.ref p, V.str (S [c])] H2 (fun x H1 => ∃ x_1 x_2 x_3, H1 p = some (HO.ins x_1 x_2 x_3) ∧ Cls K x_1 ∧ NoAttr K x_1 (Str.ofString "place") ∧ ∃ x_4, List.lookup (Str.ofString "place") x_3 = some x_4 ∧
            ∃ i, x_4 = V.int i ∧ ∃ dx' fs', H1 p = some (HO.ins x_1 dx' fs') ∧ fs'.length < 1000 ∧ Q x (upd H1 p (HO.ins x_1 dx' (putF (Str.ofString "place") (V.int (i + 1)) fs')))) E0 := fun m1 H2 h1 h2 h3 h4 h5 h6 => by
        refine ⟨p, dx, m1, c, dr, r, rfl, h1, (by rw [h3]; exact h2 _ _ hR hne), hq, h5, (by rw [h4]; exact hz), fun l H' xs g1 g2 g3 g4 g5 => ?_⟩
        walk_at "rdh"
        refine fin _ l H' xs ?_ g2 (by rw [h6]; exact g3) g4 (by rw [h6]) (h2.trans g5)
        cases e : H l with
        | none => rfl
        | some o =>
          have ne : l ≠ p := fun z => by rw [z] at g1; rw [g1] at h1; cases h1
          have := h2 _ _ e ne
          rw [g1] at this; cases this
      refine ite2 (fun c1 => ?_) (fun c1 => ?_)
      · refine ite2 (fun c2 => ?_) (fun c2 => ?_)
        · refine pl { m with state := [], bent := false } _ upd_same ((S1.kp p).upd) rfl rfl ⟨.inl rfl, fun h => ?_, ok.ln⟩ ?_
          · rcases h with h | ⟨q, h⟩ <;> cases h
          · simp only [MS.step, c1, c2, and_self, ite_true, hb', Bool.false_eq_true, ite_false]
        · have c3 : ¬ m.state = [] := by rw [c1]; intro z; cases z
          refine ite2 (fun c => absurd c c3) (fun _ => ?_)
          refine ite2 (fun c => absurd c1 c) (fun _ => ?_)
          exact fin0 _ (by simp [MS.step, c1, c2, hb'])
      · refine ite2 (fun c2 => ?_) (fun c2 => ?_)
        · refine pl m H1 hM1 (S1.kp p) rfl rfl ok ?_
          simp only [MS.step, if_neg (show ¬ (m.state = NT ∧ c = LE) from fun h => c1 h.1), hb', Bool.false_eq_true, ite_false, if_pos c2]
        · refine ite2 (fun _ => ?_) (fun c => absurd c1 c)
          obtain ⟨q, hs⟩ : ∃ q, m.state = [q] := by
            rcases ok.st with h | h | h
            · exact absurd h c2
            · exact absurd h c1
            · exact h
          obtain ⟨z, w1, w2⟩ := word (.inr ⟨q, hs⟩)
          refine ⟨p, dx, m, c, dr, r, q, z, rfl, hM1, hR1, hs, w1, w2, hz, fun H' g1 g2 => ?_⟩
          walk_at "rdh"
          have hL' := g2 _ _ hL1 (Ne.symm np)
          refine fin (m.quoted r c) l0 H' [] hl0 hL' (by simp [MS.step, c1, c2, hb']; exact .nil) g1 (by simp [MS.step, c1, c2, hb']) ((S1.kp p).trans g2)
end
end Qw

set_option Elab.async false
set_option linter.all false
set_option maxRecDepth 100000
set_option maxHeartbeats 4000000
namespace Qw
open PySem L2
local macro_rules | `(tactic| walk_at "rd") => `(tactic| simp only [tSeq, tNext, tAsg, tRet, tRetN, tDrop, tIfS, sFld, sFldAug, tVar, tC, tOp, tUn, tTest, tB, tAnd, tOr, tNot, tAndV, tOrV, tNotV, tIf, tTup, tLst, tCons, tNil, tCB, tCall, tMeth, tMake, tFld, rI, rI0, rU, rEq, rNe, rCat, gName, gTup, gCons, gNil, tPar, tPar3, tBM, tBM0, rAppend, rExtend, rPopAt, rIxL, rIxT, rIxS, tSl, rSlS, rSlL, tPart, tNoPart, iStr, iTup, iList, iRng1, tAug, ipI, L2.rAdd, L2.rSub, L2.rAddS, tChain, rIsB, rNotB, scal_ss, scal_ii, scal_bb, scal_nn, scal_in, scal_ni, tYes,
  cx_K, cx_N, List.getElem?_cons_zero, List.getElem?_cons_succ, List.set_cons_zero, List.set_cons_succ, List.nil_append, List.cons_append, List.append_nil, List.length_cons, List.length_nil, Nat.zero_add,
  Option.some.injEq, V.ref.injEq, V.int.injEq, V.str.injEq, V.bl.injEq, HO.ins.injEq, HO.lst.injEq, HO.tup.injEq, List.cons.injEq, exists_eq_left, exists_eq_left', exists_eq_right, exists_eq_right', and_true, true_and, exists_and_left, exists_and_right, and_assoc, decide_eq_true_eq, Bool.not_eq_true', decide_eq_false_iff_not, reduceCtorEq, exists_const, forall_const, if_true, if_false, false_and, and_false, ite_true, ite_false, Bool.true_eq_false, Bool.false_eq_true, Nat.reduceLeDiff, Nat.reduceAdd, small_line, small_lt, upd_ne, ne_eq, not_false_eq_true, Nat.zero_le, Prod.mk.injEq, upd_same, upd_upd, S_tl, S_len, S_app, S_one, S_inj,
  lk_breaks, lk_hard, lk_soft, lk_bend, lk_note, lk_rules, lk_state, lk_bent, lk_word, lk_begun, lk_opened, lk_place, pt_state, pt_bent, pt_word, pt_wordS, pt_wordN, pt_begun, pt_opened, pt_place, pt_place1, len_mf, litv_empty, litv_note, litv_nl, mf_inj, rf_inj, lkn_begin, lkn_ended, lkn_plain, lkn_quoted, lkn_step, lkn_fault, lkn_key, lkn_told, lkn_quotes, lkn_special, pt_open1, not_true_eq_false, not_false_eq_true])
local macro_rules | `(tactic| walk_at "rdh") => `(tactic| simp only [tSeq, tNext, tAsg, tRet, tRetN, tDrop, tIfS, sFld, sFldAug, tVar, tC, tOp, tUn, tTest, tB, tAnd, tOr, tNot, tAndV, tOrV, tNotV, tIf, tTup, tLst, tCons, tNil, tCB, tCall, tMeth, tMake, tFld, rI, rI0, rU, rEq, rNe, rCat, gName, gTup, gCons, gNil, tPar, tPar3, tBM, tBM0, rAppend, rExtend, rPopAt, rIxL, rIxT, rIxS, tSl, rSlS, rSlL, tPart, tNoPart, iStr, iTup, iList, iRng1, tAug, ipI, L2.rAdd, L2.rSub, L2.rAddS, tChain, rIsB, rNotB, scal_ss, scal_ii, scal_bb, scal_nn, scal_in, scal_ni, tYes,
  cx_K, cx_N, List.getElem?_cons_zero, List.getElem?_cons_succ, List.set_cons_zero, List.set_cons_succ, List.nil_append, List.cons_append, List.append_nil, List.length_cons, List.length_nil, Nat.zero_add,
  Option.some.injEq, V.ref.injEq, V.int.injEq, V.str.injEq, V.bl.injEq, HO.ins.injEq, HO.lst.injEq, HO.tup.injEq, List.cons.injEq, exists_eq_left, exists_eq_left', exists_eq_right, exists_eq_right', and_true, true_and, exists_and_left, exists_and_right, and_assoc, decide_eq_true_eq, Bool.not_eq_true', decide_eq_false_iff_not, reduceCtorEq, exists_const, forall_const, if_true, if_false, false_and, and_false, ite_true, ite_false, Bool.true_eq_false, Bool.false_eq_true, Nat.reduceLeDiff, Nat.reduceAdd, small_line, small_lt, upd_ne, ne_eq, not_false_eq_true, Nat.zero_le, Prod.mk.injEq, upd_same, upd_upd, S_tl, S_len, S_app, S_one, S_inj,
  lk_breaks, lk_hard, lk_soft, lk_bend, lk_note, lk_rules, lk_state, lk_bent, lk_word, lk_begun, lk_opened, lk_place, pt_state, pt_bent, pt_word, pt_wordS, pt_wordN, pt_begun, pt_opened, pt_place, pt_place1, len_mf, litv_empty, litv_note, litv_nl, mf_inj, rf_inj, lkn_begin, lkn_ended, lkn_plain, lkn_quoted, lkn_step, lkn_fault, lkn_key, lkn_told, lkn_quotes, lkn_special, pt_open1, not_true_eq_false, not_false_eq_true, *])
/-! ### the machine over a text -/
theorem MS.rules_plain (r : RS) (m : MS) (c : Nat) : (m.plain r c).1.rules = m.rules := by
  unfold MS.plain
  repeat' split
  all_goals first | rfl | exact m.rules_begin
theorem MS.rules_quoted (r : RS) (m : MS) (c : Nat) : (m.quoted r c).rules = m.rules := by
  unfold MS.quoted
  repeat' split
  all_goals rfl
theorem MS.place_begin (m : MS) : m.begin.place = m.place := by unfold MS.begin; split <;> rfl
theorem MS.place_plain (r : RS) (m : MS) (c : Nat) : (m.plain r c).1.place = m.place := by
  unfold MS.plain
  repeat' split
  all_goals first | rfl | exact m.place_begin
theorem MS.place_quoted (r : RS) (m : MS) (c : Nat) : (m.quoted r c).place = m.place := by
  unfold MS.quoted
  repeat' split
  all_goals rfl
/-- the sign's ways -/
theorem MS.step_cases (r : RS) (m : MS) (c : Nat) (R : MS × List W3 → Prop)
    (h1 : ∀ m1 : MS, (m1 = m ∨ m1 = { m with state := [] }) → m1.bent = true → R ({ (({ m1 with bent := false } : MS).add c) with place := m1.place + 1 }, []))
    (h2 : ∀ m1 : MS, (m1 = m ∨ m1 = { m with state := [] }) → m1.bent = false → m1.state = [] → R ({ (m1.plain r c).1 with place := (m1.plain r c).1.place + 1 }, (m1.plain r c).2))
    (h3 : m.bent = false → m.state = NT → c ≠ LE → R ({ m with place := m.place + 1 }, []))
    (h4 : m.bent = false → m.state ≠ [] → m.state ≠ NT → R ({ (m.quoted r c) with place := (m.quoted r c).place + 1 }, [])) : R (m.step r c) := by
  by_cases e : m.state = NT ∧ c = LE
  · simp only [MS.step, if_pos e]
    by_cases b : m.bent = true
    · simp only [if_pos b]
      exact h1 _ (.inr rfl) b
    · have b' : m.bent = false := by simpa using b
      simp only [if_neg b, if_true]
      exact h2 _ (.inr rfl) b' rfl
  · simp only [MS.step, if_neg e]
    by_cases b : m.bent = true
    · simp only [if_pos b]
      exact h1 _ (.inl rfl) b
    · have b' : m.bent = false := by simpa using b
      simp only [if_neg b]
      by_cases s1 : m.state = []
      · simp only [if_pos s1]
        exact h2 _ (.inl rfl) b' s1
      · by_cases s2 : m.state = NT
        · simp only [if_neg s1, if_pos s2]
          exact h3 b' s2 fun z => e ⟨s2, z⟩
        · simp only [if_neg s1, if_neg s2]
          exact h4 b' s1 s2
theorem MS.Ok.begin {m : MS} (ok : m.Ok) : m.begin.Ok ∧ ∃ w, m.begin.word = some w := by
  unfold MS.begin
  cases h : m.word with
  | none => exact ⟨⟨ok.st, fun _ => ⟨[], rfl⟩, fun w e => by cases e; exact Nat.zero_le _⟩, ⟨[], rfl⟩⟩
  | some w => exact ⟨ok, ⟨w, h⟩⟩
theorem MS.Ok.step {m : MS} (ok : m.Ok) (r : RS) (c : Nat) : (m.step r c).1.Ok := by
  have same : ∀ m1 : MS, (m1 = m ∨ m1 = { m with state := [] }) → m1.bent = false ∨ m1 = m → m1.Ok := fun m1 h b => by
    rcases h with h | h
    · rw [h]; exact ok
    · rcases b with b | b
      · rw [h] at b ⊢
        exact ⟨.inl rfl, fun z => z.elim (fun z => absurd (b.symm.trans z) (by decide)) (fun ⟨q, z⟩ => nomatch z), ok.ln⟩
      · rw [b]; exact ok
  refine MS.step_cases r m c (fun x => x.1.Ok) (fun m1 h b => ?_) (fun m1 h b s1 => ?_) (fun b s1 _ => ?_) fun b s1 s2 => ?_
  · have e : m1.word = m.word ∧ m1.place = m.place ∧ (m1.bent = true → ∃ w, m1.word = some w) ∧ (m1.state = [] ∨ m1.state = NT ∨ ∃ q, m1.state = [q]) := by
      rcases h with h | h <;> subst h
      · exact ⟨rfl, rfl, fun z => ok.wd (.inl z), ok.st⟩
      · exact ⟨rfl, rfl, fun z => ok.wd (.inl z), .inl rfl⟩
    obtain ⟨w, hw⟩ := e.2.2.1 b
    refine ⟨e.2.2.2, fun _ => ⟨w ++ [c], by simp [MS.add, hw]⟩, fun w' e' => ?_⟩
    simp only [MS.add, hw, Option.map, Option.some.injEq] at e'
    subst e'
    have := ok.ln w (e.1 ▸ hw)
    simp only [List.length_append, List.length_cons, List.length_nil]
    show _ ≤ m1.place + 1
    rw [e.2.1]; omega
  · have ok1 := same m1 h (.inl b)
    have up : ∀ m2 : MS, m2.Ok → ({ m2 with place := m2.place + 1 } : MS).Ok := fun m2 o => ⟨o.st, o.wd, fun w e => Nat.le_succ_of_le (o.ln w e)⟩
    suffices q : ((m1.plain r c).1).Ok ∨ (∃ w, m1.begin.word = some w ∧ (m1.plain r c).1 = m1.begin.add c) by
      rcases q with q | ⟨w, hw, q⟩
      · exact up _ q
      · have o := ok1.begin.1
        show ({ (m1.plain r c).1 with place := (m1.plain r c).1.place + 1 } : MS).Ok
        rw [q]
        refine ⟨o.st, fun _ => ⟨w ++ [c], by simp [MS.add, hw]⟩, fun w' e' => ?_⟩
        simp only [MS.add, hw, Option.map, Option.some.injEq] at e'
        subst e'
        have := o.ln w hw
        simp only [List.length_append, List.length_cons, List.length_nil, MS.add]
        omega
    have o := ok1.begin
    unfold MS.plain
    split
    · exact .inl ⟨ok1.st, fun z => z.elim (fun z => absurd (b.symm.trans z) (by decide)) (fun ⟨q, z⟩ => absurd (s1.symm.trans z) (by intro y; cases y)), fun w e => by cases e⟩
    split
    · exact .inl ⟨.inr (.inl rfl), fun z => z.elim (fun z => absurd (b.symm.trans z) (by decide)) (fun ⟨q, z⟩ => absurd (show NT = [q] from z) (by intro y; cases y)), fun w e => by cases e⟩
    split
    · exact .inl ⟨.inr (.inr ⟨c, rfl⟩), fun _ => o.2, o.1.ln⟩
    split
    · exact .inl ⟨o.1.st, fun _ => o.2, o.1.ln⟩
    · obtain ⟨w, hw⟩ := o.2
      exact .inr ⟨w, hw, rfl⟩
  · exact ⟨ok.st, ok.wd, fun w e => Nat.le_succ_of_le (ok.ln w e)⟩
  · obtain ⟨q, hq⟩ : ∃ q, m.state = [q] := by
      rcases ok.st with h | h | h
      · exact absurd h s1
      · exact absurd h s2
      · exact h
    obtain ⟨w, hw⟩ := ok.wd (.inr ⟨q, hq⟩)
    have l := ok.ln w hw
    show ({ m.quoted r c with place := (m.quoted r c).place + 1 } : MS).Ok
    rw [MS.place_quoted]
    unfold MS.quoted
    split
    · exact ⟨.inl rfl, fun _ => ⟨w, hw⟩, fun w' e => Nat.le_succ_of_le (ok.ln w' e)⟩
    split
    · exact ⟨.inr (.inr ⟨q, hq⟩), fun _ => ⟨w, hw⟩, fun w' e => Nat.le_succ_of_le (ok.ln w' e)⟩
    · refine ⟨.inr (.inr ⟨q, hq⟩), fun _ => ⟨w ++ [c], by simp [MS.add, hw]⟩, fun w' e' => ?_⟩
      simp only [MS.add, hw, Option.map, Option.some.injEq] at e'
      subst e'
      simp only [List.length_append, List.length_cons, List.length_nil]
      omega
theorem MS.place_step (r : RS) (m : MS) (c : Nat) : (m.step r c).1.place = m.place + 1 := by
  refine MS.step_cases r m c (fun x => x.1.place = m.place + 1) (fun m1 h _ => ?_) (fun m1 h _ _ => ?_) (fun _ _ _ => rfl) fun _ _ _ => congrArg (· + 1) (m.place_quoted r c)
  · rcases h with h | h <;> subst h <;> rfl
  · show (m1.plain r c).1.place + 1 = _
    rw [MS.place_plain]
    rcases h with h | h <;> subst h <;> rfl
theorem MS.rules_step (r : RS) (m : MS) (c : Nat) : (m.step r c).1.rules = m.rules := by
  refine MS.step_cases r m c (fun x => x.1.rules = m.rules) (fun m1 h _ => ?_) (fun m1 h _ _ => ?_) (fun _ _ _ => rfl) fun _ _ _ => m.rules_quoted r c
  · rcases h with h | h <;> subst h <;> rfl
  · show (m1.plain r c).1.rules = _
    rw [MS.rules_plain]
    rcases h with h | h <;> subst h <;> rfl
theorem MS.out_step (r : RS) (m : MS) (c : Nat) : (m.step r c).2.length ≤ 1 := by
  have o : ∀ m1 : MS, m1.out.length ≤ 1 := fun m1 => by unfold MS.out; split <;> simp
  refine MS.step_cases r m c (fun x => x.2.length ≤ 1) (fun m1 h _ => Nat.zero_le _) (fun m1 h _ _ => ?_) (fun _ _ _ => Nat.zero_le _) fun _ _ _ => Nat.zero_le _
  show (m1.plain r c).2.length ≤ 1
  unfold MS.plain
  repeat' split
  all_goals first | exact o m1 | exact Nat.zero_le _
def MS.run (r : RS) (m : MS) : Tx → MS × List W3
  | [] => (m, [])
  | c :: t => (((m.step r c).1.run r t).1, (m.step r c).2 ++ ((m.step r c).1.run r t).2)
theorem MS.run_app (r : RS) : ∀ (t u : Tx) (m : MS), m.run r (t ++ u) = (((m.run r t).1.run r u).1, (m.run r t).2 ++ ((m.run r t).1.run r u).2)
  | [], u, m => by simp [MS.run]
  | c :: t, u, m => by
    have ih := MS.run_app r t u (m.step r c).1
    simp only [List.cons_append, MS.run, ih, List.append_assoc]
theorem MS.run_one (r : RS) (t : Tx) (c : Nat) (m : MS) : m.run r (t ++ [c]) = (((m.run r t).1.step r c).1, (m.run r t).2 ++ ((m.run r t).1.step r c).2) := by
  rw [MS.run_app]
  simp [MS.run]
theorem MS.Ok.run (r : RS) : ∀ (t : Tx) {m : MS}, m.Ok → (m.run r t).1.Ok
  | [], _, ok => ok
  | c :: t, m, ok => MS.Ok.run r t (ok.step r c)
theorem MS.place_run (r : RS) : ∀ (t : Tx) (m : MS), (m.run r t).1.place = m.place + t.length
  | [], _ => rfl
  | c :: t, m => by
    show ((m.step r c).1.run r t).1.place = _
    rw [MS.place_run r t, MS.place_step, List.length_cons]; omega
theorem MS.rules_run (r : RS) : ∀ (t : Tx) (m : MS), (m.run r t).1.rules = m.rules
  | [], _ => rfl
  | c :: t, m => by
    show ((m.step r c).1.run r t).1.rules = _
    rw [MS.rules_run r t, MS.rules_step]
theorem MS.out_run (r : RS) : ∀ (t : Tx) (m : MS), (m.run r t).2.length ≤ t.length
  | [], _ => Nat.le_refl _
  | c :: t, m => by
    show ((m.step r c).2 ++ ((m.step r c).1.run r t).2).length ≤ _
    rw [List.length_append, List.length_cons]
    have h1 := MS.out_step r m c
    have h2 := MS.out_run r t (m.step r c).1
    omega
theorem take_more {α : Type} : ∀ {l : List α} {i : Nat} {x : α}, l[i]? = some x → l.take (i + 1) = l.take i ++ [x]
  | [], i, x, h => by simp at h
  | a :: l, 0, x, h => by
    have e : a = x := Option.some.inj h
    subst e
    rfl
  | a :: l, i + 1, x, h => by
    have ih := take_more (l := l) (i := i) (x := x) h
    simp only [List.take_succ_cons, List.cons_append, List.cons.injEq, true_and]
    exact ih
/-- all words with their places, or the fault's place -/
def readAll (r : RS) (t : Tx) (rp : Addr) : Except Nat (List W3) :=
  match ((MS.zero rp).run r t).1.fault with
  | some n => .error n
  | none => .ok (((MS.zero rp).run r t).2 ++ ((MS.zero rp).run r t).1.out)
section
variable {P : Program} {w : World} {K : PySem.W.Frag} {mg : Str → Option Value} {base : Heap} {a : Ad}
/-- what read_all tells, at a new tuple -/
def ToldAll (H H' : Hp) (tp : Addr) (x : Except Nat (List W3)) : Prop :=
  match x with
  | .error n => H' tp = some (.tup [.non, .int n])
  | .ok ds => ∃ l xs, H l = none ∧ H' tp = some (.tup [.ref l, .non]) ∧ H' l = some (.lst xs) ∧ Fnds H' xs ds
def sp_read_all (a : Ad) : Sp := fun vs H Q _ => ∃ rp dr r t, vs = [.ref rp, .str (S t)] ∧ H rp = some (.ins a.c_Rules dr (RS.f r)) ∧ r.hard.length + r.soft.length ≤ 100 ∧ t.length ≤ 50000 ∧
  ∀ tp H', H tp = none → Same H H' → ToldAll H H' tp (readAll r t rp) → Q (.ref tp) H'
theorem ok_read_all (T : Txt K mg a) : FnOk P w K mg base CX0 4 a.f_read_all a.d_read_all P_read_all (sp_read_all a) := by
  refine T.F_read_all.ok sc_read_all (fun vs H Q E h => ?_) (fun cdv A outer s H vs Q E hr h => ?_)
  · obtain ⟨rp, dr, r, t, rfl, _⟩ := h
    rfl
  · obtain ⟨rp, dr, r, t, rfl, hR, hq, ht, k⟩ := h
    have G_Machine_init := ok_Machine_init (P := P) (w := w) (base := base) T
    have B_Machine_init := bi_Machine_init T
    have G_Machine_step := ok_Machine_step (P := P) (w := w) (base := base) T
    have B_Machine_step := bi_Machine_step T
    have G_Machine_fault := ok_Machine_fault (P := P) (w := w) (base := base) T
    have B_Machine_fault := bi_Machine_fault T
    have G_Machine_ended := ok_Machine_ended (P := P) (w := w) (base := base) T
    have B_Machine_ended := bi_Machine_ended T
    refine ⟨_,
(pss_cons (ps_par (i := 2) (j := 3) (by rfl) sc_read_all.nd rfl rfl (by decide) rfl rfl (pa_cons (pe_make T.c_Machine.mc G_Machine_init (hr.mono (by decide)) rfl T.c_Machine.g B_Machine_init .nil pass0 (pa_cons (pv 0) pa_nil)) (pa_cons (pe_lst pa_nil) pa_nil)) (by rfl))
    (pss_cons (ps_for PassesOwn.never rfl (pi_str (pv 1)) (pg_name (i := 4) sc_read_all.nd rfl (Or.inl rfl))
    (pss_one (ps_expr (pe_bm PySem.F.plainAttrs_list PySem.F.slot_list_extend PySem.F.type_list_extend mt_extend (pv 3) (pa_cons (pe_meth (pv 2) T.c_Machine.cl T.m_Machine_step G_Machine_step (hr.mono (by decide)) B_Machine_step .nil pass0 (pa_cons (pv 4) pa_nil)) pa_nil)))))
    (pss_cons (ps_if (pt_cmpR op_notN (pe_meth0 (pv 2) T.c_Machine.cl T.m_Machine_fault G_Machine_fault (hr.mono (by decide)) B_Machine_fault .nil pass0) pe_non (nomark _)) (pss_one (ps_ret (pe_tup (pa_cons pe_non (pa_cons (pe_meth0 (pv 2) T.c_Machine.cl T.m_Machine_fault G_Machine_fault (hr.mono (by decide)) B_Machine_fault .nil pass0) pa_nil))))) pss_nil)
    (pss_one (ps_ret (pe_tup (pa_cons (pe_op op_cat (pv 3) (pe_meth0 (pv 2) T.c_Machine.cl T.m_Machine_ended G_Machine_ended (hr.mono (by decide)) B_Machine_ended .nil pass0)) (pa_cons pe_non pa_nil))))))))
      , ?_⟩
    rw [show start N_read_all [V.ref rp, V.str (S t)] = [some (.ref rp), some (.str (S t)), none, none, none] from rfl]
    have hc := T.c_Machine.cl
    walk_at "rd"
    intro p dx hp hdx ne
    refine ⟨p, dx, rp, rfl, upd_same, fun H1 h1 h2 => ⟨rfl, fun f hf => ?_⟩⟩
    have S1 : Same H H1 := Same.made hp hdx h2
    have nf : H f = none := S1.free hf
    have npf : p ≠ f := ne_of_none h1 hf
    refine ⟨_, rfl, S t, rfl, for_it (n := t.length) (G := fun _ => True) (Y := fun i H v H' => H' = H ∧ ∃ c, t[i]? = some c ∧ v = .str (S [c])) ?_ (fun i σ H2 => ∃ v xs, σ = [some (.ref rp), some (.str (S t)), some (.ref p), some (.ref f), v] ∧
      H2 p = some (.ins a.c_Machine dx (((MS.zero rp).run r (t.take i)).1).f) ∧ H2 f = some (.lst xs) ∧ Fnds H2 xs ((MS.zero rp).run r (t.take i)).2 ∧ Same H H2)
      ?_ (fun _ _ _ _ _ => trivial) ?_ ?_⟩
    · have w := walk_str (z := S t)
      rw [S_size] at w
      exact w.mono (fun _ _ => trivial) fun i H x H' hi _ ⟨e, c, h1, h2⟩ => ⟨e, c, by simpa [S] using h1, h2⟩
    · refine ⟨none, [], rfl, ?_, upd_same, .nil, (S1.mut nf)⟩
      rw [upd_ne npf]
      exact h1
    · rintro i x σ H2 H3 hi ⟨v, xs, rfl, g1, g2, g3, g4⟩ ⟨rfl, c, hc1, rfl⟩
      walk_at "rdh"
      have pl : ((MS.zero rp).run r (t.take i)).1.place = i := by
        rw [MS.place_run, List.length_take]
        show 0 + _ = i
        omega
      have ru : ((MS.zero rp).run r (t.take i)).1.rules = rp := MS.rules_run r _ _
      have ok := (MS.Ok.zero rp).run r (t.take i)
      have e1 := take_more hc1
      have pf : f ≠ p := Ne.symm npf
      have el : xs.length ≤ i := by
        have h1 := g3.length
        have h2 := MS.out_run r (t.take i) (MS.zero rp)
        rw [List.length_take] at h2
        omega
      refine ⟨.inl ⟨rfl, _, .inl (.inl g2)⟩, p, dx, _, c, dr, r, rfl, g1, (by rw [ru]; exact g4 _ _ hR), hq, ok, (by rw [pl]; omega), fun l H' ys q1 q2 q3 q4 q5 => ?_⟩
      have nlf : l ≠ f := fun z => by rw [z, g2] at q1; cases q1
      refine ⟨l, rfl, xs, q5 _ _ g2 pf, ys, q2, ?_, ?_, ?_, ?_⟩
      · have h1 := q3.length
        have h2 := MS.out_step r ((MS.zero rp).run r (t.take i)).1 c
        exact Nat.le_trans (show xs.length + ys.length ≤ 100000 by omega) (by decide)
      · rw [e1, MS.run_one]
        exact q4
      · rw [e1, MS.run_one]
        have k2 : Tk H' (upd H' f (.lst (xs ++ ys))) := kp_upd.tk (q5 _ _ g2 pf) fun _ z => by cases z
        exact Paired.app ((g3.mono (q5.tk g1 fun _ z => by cases z)).mono k2) (q3.mono k2)
      · refine Same.mut (fun b o e => q5 b o (g4 b o e) fun z => ?_) nf
        rw [z, hp] at e; cases e
    · rintro σ H2 ⟨v, xs, rfl, g1, g2, g3, g4⟩
      rw [List.take_length] at g1 g3
      walk_at "rdh"
      refine ⟨p, dx, _, rfl, g1, fun H3 s3 => ?_⟩
      have nof : f ≠ p := Ne.symm npf
      cases ef : ((MS.zero rp).run r t).1.fault with
      | some n =>
        simp only [ef]
        refine ite2 (fun _ => ?_) (fun c => absurd (by intro z; cases z) c)
        refine ⟨dx, _, s3 _ _ g1, lkn_fault _, p, dx, _, rfl, s3 _ _ g1, fun H4 s4 => ?_⟩
        simp only [ef]
        intro tp htp
        refine k tp _ (((g4.trans s3).trans s4).free htp) (((g4.trans s3).trans s4).trans (same_new htp)) ?_
        simp only [readAll, ef, ToldAll]
        exact upd_same
      | none =>
        simp only [ef]
        refine ite2 (fun c => absurd trivial c) (fun _ => ?_)
        refine ⟨dx, _, s3 _ _ g1, lkn_ended _, p, dx, _, rfl, s3 _ _ g1, fun l H4 ys q1 q2 q3 q4 q5 => ?_⟩
        have f4 := q5 _ _ (s3 _ _ g2) nof
        have S4 : Same H H4 := fun b o e => q5 b o (s3 _ _ (g4 b o e)) fun z => by rw [z, hp] at e; cases e
        refine ⟨l, rfl, xs, f4, ys, q2, ?_, fun l2 h2' tp htp => ?_⟩
        · have h1 := q3.length
          have h2 := g3.length
          have h3 := MS.out_run r t (MS.zero rp)
          have h4 : ((MS.zero rp).run r t).1.out.length ≤ 1 := by unfold MS.out; split <;> simp
          exact Nat.le_trans (show xs.length + ys.length ≤ 100000 by omega) (by decide)
        have htp' := none_upd htp
        have n1 := ne_upd htp
        have s5 := same_new (o := HO.lst (xs ++ ys)) h2'
        have s6 := same_new (o := HO.tup [V.ref l2, V.non]) htp
        refine k tp _ (S4.free htp') ((S4.trans s5).trans s6) ?_
        simp only [readAll, ef, ToldAll]
        refine ⟨l2, xs ++ ys, S4.free h2', upd_same, ?_, ?_⟩
        · rw [upd_ne (Ne.symm n1), upd_same]
        · have tk : Tk H4 _ := (s5.trans s6).tk
          exact Paired.app (((g3.mono s3.tk).mono (q5.tk (s3 _ _ g1) fun _ z => by cases z)).mono tk) (q3.mono tk)
end
end Qw

set_option Elab.async false
set_option linter.all false
set_option maxRecDepth 100000
set_option maxHeartbeats 4000000
/-! promises of defs that know that no list is being shown around them; str of data -/
namespace Qw
open PySem L2 PySem.Spec PyProof.Rows

def Free (A : Around) : Prop := A.guards = some []
theorem Free.deeper {A : Around} (h : Free A) (e : Env) : Free (A.deeper e) := h
theorem free_caller : Free callerA := rfl

structure FnG (P : Program) (w : World) (K : PySem.W.Frag) (mg : Str → Option Value) (base : Heap) (k : Nat) (f : Addr) (fd : FuncData) (ps : List Str) (sp : Sp) : Prop where
  lenG : ∀ vs H Q E, sp vs H Q E → vs.length = ps.length
  runG : ∀ (A : Around) (out : List Env) (s : Shared) (H : Hp) (as : Args) (us : List Value) (vs : List V) (Q : VK) (E : XK),
    Free A → Room k A → Env0 P w K mg base A out s H → BindsTo s fd as (ps.zip us) → Vals vs us → sp vs H Q E → codeAny (model P w) A (.call (.ref f) as) (CR CX0 out P w H s Q E) s
section
variable {P : Program} {w : World} {K : PySem.W.Frag} {mg : Str → Option Value} {base : Heap}

theorem fnG_of {k : Nat} {x qual : Str} {st : Stmt} {f : Addr} {fd : FuncData} {N ps : List Str} {sp : Sp} (F : L2.Fun K x qual st f fd) (S : FnScope N ps (defScope st))
    (ln : ∀ vs H Q E, sp vs H Q E → vs.length = ps.length)
    (hb : ∀ (cd : Value) (A : Around) (out : List Env) (s : Shared) (H : Hp) (vs : List V) (Q : VK) (E : XK),
      Free (A.deeper (envOfC qual (defScope st) s.heap.objs.size f cd)) → Room k (A.deeper (envOfC qual (defScope st) s.heap.objs.size f cd)) → sp vs H Q E →
      ∃ t, PSs (cxOf CX0 P w K mg base N qual (defScope st) f cd A out s H E).nox (defBody st) t ∧ t { nx := fun _ H' => Q .non H', rt := Q } (start N vs) H) :
    FnG P w K mg base (k + 1) f fd ps sp := by
  obtain ⟨oc, od, kV, doc, pm, an, cd, ct, osl, rfl, lk, hc⟩ := F.ex
  refine ⟨ln, fun A out s H as us vs Q E hf hr e0 b r q => ?_⟩
  have KX : K.In s.heap := e0.mod.kin.keeps fun _ _ e => (e0.bs _ _ e).1
  have lim : s.heap.NoLimit := e0.mod.nolimit.keeps fun _ _ e => (e0.bs _ _ e).1
  have kinds : ∀ y ∈ ps.zip us, (defScope st).names.lookup y.1 = some .local ∨
      ((defScope st).names.lookup y.1 = some .cell ∧ ((cellsFrom (s.heap.objs.size + 1) (defScope st).names []).lookup y.1).isSome = true) := by
    rintro ⟨n, v⟩ hy
    exact (S.par n (List.of_mem_zip hy).1).imp id fun z => ⟨z, PySem.W.cellsFrom_some _ _ _ (.inl z)⟩
  refine codeAny_call_function hr.depth (KX _ _ lk) rfl S.co
    S.gen rfl (PySem.W.codeRec_of KX hc) (b _ _ _ _ ?_)
  refine wpAny_newFunctionEnv_cells S.kind kinds fun env he s1 x => ?_
  cases he
  refine ⟨lim.keeps x.toInCall.keep, codeAny_func ?_⟩
  obtain ⟨t, ht, hq⟩ := hb cd A out s H vs Q E (hf.deeper _) (hr.deeper _) q
  have J := inv_start (CX := CX0) (P := P) (w := w) (K := K) (mg := mg) (base := base) (N := N) (cd := cd) (E := E) S hr.hd e0 (ln _ _ _ _ q) r x
  refine wpAny_mono (ht.nox.run [] s1 (start N vs) H _ J hq) (fun fl s' hs => ?_) fun _ _ hs => hs
  cases fl with
  | brk => exact hs.elim fun _ z => z.elim fun _ z => z.2.elim
  | cont => exact hs.elim fun _ z => z.elim fun _ z => z.2.elim
  | ret u =>
    obtain ⟨v, σ', H', I, rv, h⟩ := hs
    exact ⟨v, H', I.os, I.bare, I.base, I.hok, rv, h⟩
  | next =>
    obtain ⟨σ', H', I, h⟩ := hs
    exact ⟨V.non, H', I.os, I.bare, I.base, I.hok, rfl, h⟩
end

section
variable {X : Cx} {k : Nat} {f : Addr} {fd : FuncData} {ps : List Str} {sp : Sp} {dvs : List V} {ds : List Value} {E : XK} {x : Str} {p pos : Pos} {e : Expr} {es : List Expr} {t : TA}
theorem run_fnG {pins : List (Addr × Obj)} {σ : L2.St} {H : Hp} {s : Shared} {Q : VK} {us : List Value} {vs : List V} (F : FnG X.prog X.w X.K X.mg X.base k f fd ps sp) (hf : Free X.A) (hr : Room k X.A)
    (hb : Binds X.K fd ps []) (I : Inv X pins σ H s) (r : Vals vs us) (h : sp vs H Q E) : wpAny (model X.prog X.w) X.A (call (.ref f) us) (EP X pins σ Q) X.xe s := by
  have hl : (us ++ []).length = ps.length := by
    rw [List.append_nil, ← r.length]
    exact F.lenG _ _ _ _ h
  have bd := hb s us I.kIn hl
  rw [List.append_nil] at bd
  refine wpAny_call (codeAny_mono (F.runG X.A X.stack s H ⟨us, []⟩ us vs Q E hf hr I.env0 bd r h) fun y s' q => ?_)
  match y, q with
  | .error _, q => exact q.elim
  | .ok (.ret u), q => exact I.after q
theorem pe_callG (F : FnG X.prog X.w X.K X.mg X.base k f fd ps sp) (hf : Free X.A) (hr : Room k X.A) (hg : Gl X x) (hm : X.mg x = some (.ref f)) (hk : PySem.W.keepIn X.K (.ref f) = true) (hb : Binds X.K fd ps [])
    (ha : PA X (e :: es) t) (hdb : (x == ("__debug__" : Str)) = false := by decide) (he : starEach (e :: es) X.env = (false, eval e X.env) :: starEach es X.env := by rfl)
    (hpl : (backTo pos (starEach es X.env)).any (·.1) = false := by rfl) : PE X (.Call (.Name x p) (e :: es) [] pos) (tCall sp [] E0 t) := by
  refine ⟨fun pins s σ H Q I h => wpAny_Call_Name_kw (ld_glob I hg hm ?_ hdb)⟩
  refine PySem.W.callWith_K (h₀ := X.base) I.ok.mod.kin hk ?_ he hpl
  refine thn (ha.run pos pins s σ H _ I h) fun us s1 ⟨vs, H1, I1, r, q⟩ => ⟨I1.kIn, ?_⟩
  have q : sp (vs ++ []) H1 Q E0 := q
  rw [List.append_nil] at q
  exact run_fnG F hf hr hb I1 r q
/-- str(x) of data that holds no dict -/
theorem call_str_data (hf : Free X.A) (hu : X.A.units + 64 < cLine) : CallR X (.type "str") (fun xs H Q => ∃ a d, xs = [.ref a] ∧ Dp X.K H (.ref a) d ∧ d.showable = true ∧ d.hasDict = false ∧ d.depth ≤ 32 ∧ d.shown.length ≤ sizeLine ∧
    Q (.str d.shown) H) := by
  intro pins s σ H xs us Q I r h
  obtain ⟨a, d, rfl, hd, h1, h2, h3, h4, q⟩ := h
  obtain ⟨u, rfl, ru⟩ := vals1 r
  obtain ⟨as, rd⟩ := Dp.reads I d _ u hd ru
  cases ru
  refine str_of_reads rd h1 (PyData.noDict_hsm h2) hf (by omega) (fun _ _ e => e) (fun h' u tk hk => ?_) h4
  exact ⟨.str d.shown, H, I.kept (t' := tk) hk, ⟨u, rfl⟩, q⟩
end

/-! ### the end -/
theorem law_callG {P : Program} {w : World} {K : PySem.W.Frag} {mg mb : Str → Option Value} {k : Nat} {fa a : Addr} {fd : FuncData} {x : Str} {sp : Sp} {s₁ : Shared} {vs : List Value} {ns : List Int}
    (KX : K.In s₁.heap) (hns : s₁.heap.Ns mainGlobals mg) (hb : s₁.heap.Ns builtinsNs mb) (hbb : ∀ x : Str, x ≠ "__name__" → mb x = bootBuiltins x)
    (hlim : s₁.heap.NoLimit) (hg : s₁.gens = #[]) (ha : s₁.heap.get? a = some { cls := .type "list", data := .seq vs.toArray }) (hi : IntsAre vs ns)
    (hl : ns.length ≤ sizeLine) (hr : Room k callerA) (F : ∀ base : Heap, K.In base → base.Ns mainGlobals mg → FnG P w K mg base k fa fd [x] sp)
    (hbind : ∀ (s : Shared) (u : Value), BindsTo s fd ⟨[u], []⟩ [(x, u)])
    (hsp : ∀ H : Hp, Only H → SqL K H a (ns.map V.int) → sp [.ref a] H (fun v _ => v = .bl true) E0) :
    codeAny (model P w) callerA (.call (.ref fa) ⟨[.ref a], []⟩)
      (fun r s' => r = .ok (.ret (.bool true)) ∧ OldK s₁.heap s'.heap ∧ s'.os = s₁.os ∧ AllBare s'.gens) s₁ := by
  have rv := vals_ints hi
  have core : ∀ H : Hp, Only H → SqL K H a (ns.map V.int) → HOk P w H s₁.heap → (∀ b, H b ≠ none → b = a) → (H a ≠ none → K.lookup a = none) →
      codeAny (model P w) callerA (.call (.ref fa) ⟨[.ref a], []⟩)
        (fun r s' => r = .ok (.ret (.bool true)) ∧ OldK s₁.heap s'.heap ∧ s'.os = s₁.os ∧ AllBare s'.gens) s₁ := by
    intro H hO hS hok hA hK
    have there : ∀ {b : Addr}, H b ≠ none → s₁.heap.get? b = some { cls := .type "list", data := .seq vs.toArray } ∧ K.lookup b = none := fun {b} z => by
      cases hA b z
      exact ⟨ha, hK z⟩
    have hid : ∀ {b : Addr} {o : Obj}, s₁.heap.get? b = some o → H b = none → (hidT s₁.heap H).get? b = some o := fun e n => hidT_get e n
    have ns' : ∀ {b : Addr} {m : Str → Option Value}, s₁.heap.Ns b m → (hidT s₁.heap H).Ns b m := by
      rintro b m ⟨o, es, ep, e, d, r⟩
      refine ⟨o, es, ep, hid e (Classical.byContradiction fun z => ?_), d, r⟩
      rw [(there z).1] at e
      cases e
      exact nomatch (show Data.seq vs.toArray _ = Data.dict es ep from d)
    have hKb : K.In (hidT s₁.heap H) := fun b o e => by
      refine hid (KX b o e) (Classical.byContradiction fun z => ?_)
      rw [(there z).2] at e
      cases e
    have hM : Mod K mg (hidT s₁.heap H) := by
      obtain ⟨mc, l1, l2⟩ := hlim
      exact ⟨hKb, ns' hns, ⟨mb, ns' hb, hbb⟩, ⟨mc, ns' l1, l2⟩⟩
    have e0 : Env0 P w K mg (hidT s₁.heap H) callerA [] s₁ H :=
      ⟨rfl, hM, fun _ _ e => of_hidT e, Nat.le_of_eq (hidT_size _ _), trivial, fun b z => (by cases z), hok, .of_eq hg⟩
    have run := (F _ hKb (ns' hns)).runG callerA [] s₁ H ⟨[.ref a], []⟩ [.ref a] [.ref a] _ _ free_caller hr e0 (hbind s₁ (.ref a)) (.cons rfl .nil) (hsp H hO hS)
    refine codeAny_mono run fun r s' h => ?_
    match r, h with
    | .error _, h => exact h.elim
    | .ok (.ret u), h =>
      obtain ⟨v, H', os, bare, un, hok', r', q⟩ := h
      cases (show v = .bl true from q)
      cases (show u = Value.bool true from r')
      refine ⟨rfl, OldK.of_keep fun b o e => ?_, os, bare⟩
      rcases hO b with z | ⟨ob, xs, z⟩
      · exact un.keep b o e z (by intro y; cases y) (by simp)
      · have e1 := (hok b _ z).1
        rw [e] at e1
        cases e1
        exact (hok' b _ (un.frzs b _ _ z)).1
  have lenV := hi.length
  rcases hk : K.lookup a with _ | o
  · let o : Obj := { cls := .type "list", data := .seq vs.toArray }
    have own : ∀ {b : Addr} {u : HO}, (if b = a then some (HO.frz o (.lst (ns.map V.int))) else none) = some u → b = a ∧ u = HO.frz o (.lst (ns.map V.int)) := fun {b u} z => by
      by_cases e : b = a
      · rw [if_pos e] at z
        exact ⟨e, (Option.some.inj z).symm⟩
      · rw [if_neg e] at z
        cases z
    refine core (fun b => if b = a then some (.frz o (.lst (ns.map V.int))) else none) (fun b => ?_) (.inl (.inr ⟨o, if_pos rfl⟩)) (fun b u z => ?_) (fun b z => ?_) fun _ => hk
    · by_cases e : b = a
      · exact .inr ⟨_, _, if_pos e⟩
      · exact .inl (if_neg e)
    · obtain ⟨rfl, rfl⟩ := own z
      exact ⟨ha, by rw [List.length_map]; exact hl, vs, _, rv, ha⟩
    · exact Classical.byContradiction fun e => z (if_neg e)
  · have e := KX a o hk
    rw [ha] at e
    cases e
    refine core (fun _ => none) (fun _ => .inl rfl) ?_ (fun b u z => nomatch (show (none : Option HO) = some u from z)) (fun b z => absurd rfl z) fun z => absurd rfl z
    exact .inr ⟨_, vs.toArray, _, hk, rfl, rfl, rfl, by rw [List.size_toArray, lenV]; exact hl, by simpa using rv⟩
/-- a law: F gives the written part, the function object, the promise over every base -/
theorem walk_ofG {l : PySem.W.OpenLaw} {n k : Nat} {q : Program} {loose : List Str} {XP : (Str → Option Value) → Heap → Prop} {YP : World → Heap → Prop} {d : DefRec} {x : Str}
    (hn : l.most = some n) (hn2 : n ≤ sizeLine) (hdf : d.params.defaults = []) (hr : Room k callerA)
    (F : ∀ (w : World) (mg : Str → Option Value) (fa : Addr) (h : Heap), YP w h → h.Ns mainGlobals mg → mg d.name = some (.ref fa) →
      ∃ (K : PySem.W.Frag) (fd : FuncData) (sp : Sp), K.In h ∧ (∀ (s : Shared) (u : Value), BindsTo s fd ⟨[u], []⟩ [(x, u)]) ∧
        (∀ (H : Hp) (a : Addr) (ns : List Int), ns.length ≤ n → (∀ z ∈ ns, Builtin.Int.intBits z ≤ 1048576) → Only H → SqL K H a (ns.map V.int) → sp [.ref a] H (fun v _ => v = .bl true) E0) ∧
        ∀ base : Heap, K.In base → base.Ns mainGlobals mg → FnG l.prog w K mg base k fa fd [x] sp) : PySem.W.WalkO q loose XP YP l.row.toRowW d [] (fun f vs => PySem.call f vs) := by
  refine Att.attach_callB hn hdf fun w _ s₁ mg mb fa o pm cd doc a vs ns G Y ho hd hcd hmg hob hin hlen hbits hg => ?_
  obtain ⟨K, fd, sp, KX, hb, hsp, hF⟩ := F w mg fa _ Y G.T.g hmg
  exact law_callG KX G.T.g G.T.b G.T.builtins G.T.nolimit hg hob hin (Nat.le_trans hlen hn2) hr hF hb fun H hO hS => hsp H a ns hlen hbits hO hS
end Qw

set_option Elab.async false
set_option linter.all false
set_option maxRecDepth 100000
set_option maxHeartbeats 4000000
/-! data of none, short ints, texts, lists and tuples: shown, compared -/
namespace Qw
open PySem L2
mutual
def tame : PyData → Bool
  | .none => true
  | .int i => decide (i.natAbs < 1000000000)
  | .str x => PyData.strOk x
  | .list xs => tameAll xs
  | .tuple xs => tameAll xs
  | .bool _ => false
  | .dict _ => false
def tameAll : List PyData → Bool
  | [] => true
  | x :: xs => tame x && tameAll xs
end
theorem tameAll_iff : ∀ {xs : List PyData}, tameAll xs = true ↔ ∀ x ∈ xs, tame x = true
  | [] => by simp [tameAll]
  | x :: xs => by simp [tameAll, tameAll_iff (xs := xs)]
theorem short13 {i : Int} (h : i.natAbs < 1000000000) : PyData.intsShort 13 (.int i) = true := by
  have := PyData.intsShortAll_ints [i] (fun n hn => by cases List.mem_singleton.mp hn; exact Nat.lt_trans h (by decide))
  simpa [PyData.intsShortAll] using this
mutual
theorem tame_has : ∀ d : PyData, tame d = true → PyData.canLay0 d = true ∧ PyData.showable d = true ∧ PyData.hasDict d = false ∧ PyData.intsShort 13 d = true
  | .none, _ => ⟨by simp [PyData.canLay0], by simp [PyData.showable], by simp [PyData.hasDict], by simp [PyData.intsShort]⟩
  | .int i, h => by
    have h' : i.natAbs < 1000000000 := by simpa [tame] using h
    refine ⟨by simp [PyData.canLay0], ?_, by simp [PyData.hasDict], short13 h'⟩
    simp only [PyData.showable, decide_eq_true_eq]
    by_cases z : i.natAbs = 0
    · rw [z]; decide
    · have : i.natAbs.log2 < 30 := (Nat.log2_lt z).mpr (by omega)
      omega
  | .str x, h => ⟨by simpa [tame, PyData.canLay0] using h, by simp [PyData.showable], by simp [PyData.hasDict], by simp [PyData.intsShort]⟩
  | .list xs, h => by
    have := tameAll_has xs (by simpa [tame] using h)
    exact ⟨by simp only [PyData.canLay0]; exact this.1, by simp only [PyData.showable]; exact this.2.1, by simp only [PyData.hasDict]; exact this.2.2.1, by simp only [PyData.intsShort]; exact this.2.2.2⟩
  | .tuple xs, h => by
    have := tameAll_has xs (by simpa [tame] using h)
    exact ⟨by simp only [PyData.canLay0]; exact this.1, by simp only [PyData.showable]; exact this.2.1, by simp only [PyData.hasDict]; exact this.2.2.1, by simp only [PyData.intsShort]; exact this.2.2.2⟩
  | .bool _, h => by simp [tame] at h
  | .dict _, h => by simp [tame] at h
theorem tameAll_has : ∀ xs : List PyData, tameAll xs = true → PyData.canLayAll0 xs = true ∧ PyData.showableAll xs = true ∧ PyData.hasDictAll xs = false ∧ PyData.intsShortAll 13 xs = true
  | [], _ => ⟨by simp [PyData.canLayAll0], by simp [PyData.showableAll], by simp [PyData.hasDictAll], by simp [PyData.intsShortAll]⟩
  | x :: xs, h => by
    have h' : tame x = true ∧ tameAll xs = true := by simpa [tameAll] using h
    have a := tame_has x h'.1
    have b := tameAll_has xs h'.2
    exact ⟨by simp [PyData.canLayAll0, a, b], by simp [PyData.showableAll, a, b], by simp [PyData.hasDictAll, a, b], by simp [PyData.intsShortAll, a, b]⟩
end
mutual
theorem eqv_iff : ∀ d e : PyData, tame d = true → tame e = true → (PyData.eqv d e = true ↔ d = e)
  | .list xs, .list ys, h, k => by
    simp only [PyData.eqv, PyData.list.injEq]
    exact eqvAll_iff xs ys (by simpa [tame] using h) (by simpa [tame] using k)
  | .tuple xs, .tuple ys, h, k => by
    simp only [PyData.eqv, PyData.tuple.injEq]
    exact eqvAll_iff xs ys (by simpa [tame] using h) (by simpa [tame] using k)
  | .none, e, _, k => by cases e <;> simp [PyData.eqv, tame] at k ⊢
  | .int _, e, _, k => by cases e <;> simp [PyData.eqv, tame] at k ⊢
  | .str _, e, _, k => by cases e <;> simp [PyData.eqv, tame] at k ⊢
  | .bool _, _, h, _ => by simp [tame] at h
  | .dict _, _, h, _ => by simp [tame] at h
  | .list _, .none, _, _ => by simp [PyData.eqv]
  | .list _, .int _, _, _ => by simp [PyData.eqv]
  | .list _, .str _, _, _ => by simp [PyData.eqv]
  | .list _, .tuple _, _, _ => by simp [PyData.eqv]
  | .list _, .bool _, _, k => by simp [tame] at k
  | .list _, .dict _, _, k => by simp [tame] at k
  | .tuple _, .none, _, _ => by simp [PyData.eqv]
  | .tuple _, .int _, _, _ => by simp [PyData.eqv]
  | .tuple _, .str _, _, _ => by simp [PyData.eqv]
  | .tuple _, .list _, _, _ => by simp [PyData.eqv]
  | .tuple _, .bool _, _, k => by simp [tame] at k
  | .tuple _, .dict _, _, k => by simp [tame] at k
theorem eqvAll_iff : ∀ xs ys : List PyData, tameAll xs = true → tameAll ys = true → (PyData.eqvAll xs ys = true ↔ xs = ys)
  | [], [], _, _ => by simp [PyData.eqvAll]
  | [], _ :: _, _, _ => by simp [PyData.eqvAll]
  | _ :: _, [], _, _ => by simp [PyData.eqvAll]
  | x :: xs, y :: ys, h, k => by
    have h' : tame x = true ∧ tameAll xs = true := by simpa [tameAll] using h
    have k' : tame y = true ∧ tameAll ys = true := by simpa [tameAll] using k
    simp only [PyData.eqvAll, Bool.and_eq_true, List.cons.injEq]
    rw [eqv_iff x y h'.1 k'.1, eqvAll_iff xs ys h'.2 k'.2]
end
theorem eqv_dec {d e : PyData} {p : Prop} [Decidable p] (h : tame d = true) (k : tame e = true) (i : d = e ↔ p) : PyData.eqv d e = decide p := by
  rw [Bool.eq_iff_iff, eqv_iff d e h k, i, decide_eq_true_eq]
theorem shaped_of {d : PyData} (h : tame d = true) (hd : d.depth ≤ 32) : SeqAt.shaped d = true := by
  show (PyData.canLay0 d && decide (d.depth ≤ 64)) = true
  rw [(tame_has d h).1, Bool.true_and, decide_eq_true_eq]
  omega
theorem shown_of {d : PyData} (h : tame d = true) (hd : d.depth ≤ 32) (hw : d.weight ≤ 1048576) : d.shown.length ≤ sizeLine := by
  refine PyData.shown_fits_of_layable0 (B := 13) (by decide) (by decide) ?_ (tame_has d h).2.2.2
  show (PyData.canLay0 d && decide (PyData.depth d ≤ 64) && decide (PyData.weight d ≤ 2 ^ 20)) = true
  rw [(tame_has d h).1, Bool.true_and, Bool.and_eq_true, decide_eq_true_eq, decide_eq_true_eq]
  exact ⟨by omega, hw⟩
/-! ### words, places -/
def ok8 (t : Tx) : Prop := ∀ c ∈ t, c < 1000
theorem strOk_S {t : Tx} (h : ok8 t) : PyData.strOk (S t) = true := by
  show (S t).cps.all (· < 0x110000) = true
  rw [show (S t).cps = t.toArray from rfl]
  simp only [List.all_toArray, List.all_eq_true, decide_eq_true_eq]
  exact fun c hc => Nat.lt_trans (h c hc) (by decide)
def wsD (ws : List Tx) : PyData := .list (ws.map fun t => .str (S t))
def plD (p : Int × Int) : PyData := .tuple [.int p.1, .int p.2]
def psD (ps : List (Int × Int)) : PyData := .list (ps.map plD)
theorem S_inj' {x y : Tx} : PyData.str (S x) = PyData.str (S y) ↔ x = y := by simp [S_inj]
theorem map_inj {α β : Type} {f : α → β} (h : ∀ {x y}, f x = f y ↔ x = y) {l m : List α} : l.map f = m.map f ↔ l = m :=
  ⟨fun e => List.map_inj_right (fun x y => h.mp) |>.mp e, fun e => by rw [e]⟩
theorem wsD_inj {x y : List Tx} : wsD x = wsD y ↔ x = y := by
  simp only [wsD, PyData.list.injEq]
  exact map_inj S_inj'
theorem plD_inj {x y : Int × Int} : plD x = plD y ↔ x = y := by
  obtain ⟨a, b⟩ := x; obtain ⟨c, d⟩ := y
  simp [plD]
theorem psD_inj {x y : List (Int × Int)} : psD x = psD y ↔ x = y := by
  simp only [psD, PyData.list.injEq]
  exact map_inj plD_inj
def okI (i : Int) : Prop := i.natAbs < 1000000
theorem wsD_tame {ws : List Tx} (h : ∀ t ∈ ws, ok8 t) : tame (wsD ws) = true := by
  simp only [wsD, tame, tameAll_iff, List.mem_map]
  rintro _ ⟨t, ht, rfl⟩
  simp only [tame]
  exact strOk_S (h t ht)
theorem psD_tame {ps : List (Int × Int)} (h : ∀ p ∈ ps, okI p.1 ∧ okI p.2) : tame (psD ps) = true := by
  simp only [psD, tame, tameAll_iff, List.mem_map]
  rintro _ ⟨p, hp, rfl⟩
  have := h p hp
  simp only [okI] at this
  simp only [plD, tame, tameAll, Bool.and_true, Bool.and_eq_true, decide_eq_true_eq]
  omega
theorem depthAll_le {n : Nat} : ∀ {xs : List PyData}, (∀ x ∈ xs, x.depth ≤ n) → PyData.depthAll xs ≤ n
  | [], _ => by simp [PyData.depthAll]
  | x :: xs, h => by
    simp only [PyData.depthAll]
    exact Nat.max_le.mpr ⟨h x (.head _), depthAll_le fun y hy => h y (.tail _ hy)⟩
theorem wsD_depth (ws : List Tx) : (wsD ws).depth ≤ 1 := by
  simp only [wsD, PyData.depth]
  refine Nat.succ_le_succ (depthAll_le fun x hx => ?_)
  obtain ⟨t, _, rfl⟩ := List.mem_map.mp hx
  simp [PyData.depth]
theorem psD_depth (ps : List (Int × Int)) : (psD ps).depth ≤ 2 := by
  simp only [psD, PyData.depth]
  refine Nat.succ_le_succ (depthAll_le fun x hx => ?_)
  obtain ⟨t, _, rfl⟩ := List.mem_map.mp hx
  simp [plD, PyData.depth, PyData.depthAll]
theorem weightAll_le {n : Nat} : ∀ {xs : List PyData}, (∀ x ∈ xs, x.weight ≤ n) → PyData.weightAll xs ≤ (n + 1) * xs.length
  | [], _ => by simp [PyData.weightAll]
  | x :: xs, h => by
    simp only [PyData.weightAll, List.length_cons, Nat.mul_succ]
    have h1 := h x (.head _)
    have h2 := weightAll_le (xs := xs) fun y hy => h y (.tail _ hy)
    omega
theorem wsD_weight {ws : List Tx} {n : Nat} (h : ∀ t ∈ ws, t.length ≤ n) : (wsD ws).weight ≤ (n + 1) * ws.length := by
  simp only [wsD, PyData.weight]
  have := weightAll_le (n := n) (xs := ws.map fun t => PyData.str (S t)) fun x hx => by
    obtain ⟨t, ht, rfl⟩ := List.mem_map.mp hx
    simp only [PyData.weight, S_size]
    exact h t ht
  rwa [List.length_map] at this
theorem int_weight {i : Int} (h : okI i) : (PyData.int i).weight ≤ 30 := by
  simp only [PyData.weight]
  split
  · omega
  · rename_i z
    have z' : i.natAbs ≠ 0 := by simpa using z
    have : i.natAbs.log2 < 20 := (Nat.log2_lt z').mpr (Nat.lt_trans h (by decide))
    omega
theorem psD_weight {ps : List (Int × Int)} (h : ∀ p ∈ ps, okI p.1 ∧ okI p.2) : (psD ps).weight ≤ 63 * ps.length := by
  simp only [psD, PyData.weight]
  have := weightAll_le (n := 62) (xs := ps.map plD) fun x hx => by
    obtain ⟨p, hp, rfl⟩ := List.mem_map.mp hx
    have h1 := int_weight (h p hp).1
    have h2 := int_weight (h p hp).2
    simp only [plD]
    rw [PyData.weight]
    simp only [PyData.weightAll]
    omega
  rwa [List.length_map] at this
/-! ### where they lie -/
def Pls (H : Hp) (x : V) (d : Int × Int) : Prop := ∃ t, x = .ref t ∧ H t = some (.tup [.int d.1, .int d.2])
theorem Pls.mono {H H' : Hp} {x : V} {d : Int × Int} (h : Pls H x d) (t : ∀ b xs, H b = some (.tup xs) → H' b = some (.tup xs)) : Pls H' x d := by
  obtain ⟨b, e, h1⟩ := h
  exact ⟨b, e, t _ _ h1⟩
theorem dpAll_map {α : Type} {K : PySem.W.Frag} {H : Hp} {f : α → V} {g : α → PyData} : ∀ (l : List α), (∀ x ∈ l, Dp K H (f x) (g x)) → DpAll K H (l.map f) (l.map g)
  | [], _ => .nil
  | x :: l, h => .cons (h x (.head _)) (dpAll_map l fun y hy => h y (.tail _ hy))
theorem dpAll_paired {α : Type} {K : PySem.W.Frag} {H : Hp} {F : V → α → Prop} {g : α → PyData} (h : ∀ x y, F x y → Dp K H x (g y)) : ∀ {xs : List V} {l : List α}, Paired F xs l → DpAll K H xs (l.map g)
  | _, _, .nil => .nil
  | _, _, .cons r t => .cons (h _ _ r) (dpAll_paired h t)
theorem dp_ws {K : PySem.W.Frag} {H : Hp} {p : Addr} {ws : List Tx} (h : SqL K H p (ws.map fun t => V.str (S t))) : Dp K H (.ref p) (wsD ws) := .lst h (dpAll_map ws fun _ _ => .str _)
theorem dp_pl {K : PySem.W.Frag} {H : Hp} {x : V} {d : Int × Int} (h : Pls H x d) : Dp K H x (plD d) := by
  obtain ⟨t, rfl, h⟩ := h
  exact .tup (.inl (.inl h)) (.cons (.int _) (.cons (.int _) .nil))
theorem dp_ps {K : PySem.W.Frag} {H : Hp} {p : Addr} {xs : List V} {ps : List (Int × Int)} (h : SqL K H p xs) (q : Paired (Pls H) xs ps) : Dp K H (.ref p) (psD ps) := .lst h (dpAll_paired (g := plD) (fun _ _ z => dp_pl z) q)
/-! ### what a reading tells -/
abbrev Told := Except Int (List Tx × List (Int × Int))
instance : DecidableEq Told := fun x y => match x, y with
  | .error i, .error j => decidable_of_iff (i = j) (by simp)
  | .ok p, .ok q => decidable_of_iff (p = q) (by simp)
  | .error _, .ok _ => isFalse (by simp)
  | .ok _, .error _ => isFalse (by simp)
def tD : Told → PyData
  | .error n => .int n
  | .ok (ws, ps) => .tuple [wsD ws, psD ps]
structure TOk (n : Nat) (x : Told) : Prop where
  er : ∀ i, x = .error i → okI i
  ws : ∀ l ps, x = .ok (l, ps) → (∀ t ∈ l, ok8 t ∧ t.length ≤ n) ∧ l.length ≤ n
  ps : ∀ l ps, x = .ok (l, ps) → (∀ p ∈ ps, okI p.1 ∧ okI p.2) ∧ ps.length ≤ n
theorem tD_inj {x y : Told} : tD x = tD y ↔ x = y := by
  cases x with
  | error i => cases y with
    | error j => simp [tD]
    | ok q => simp [tD]
  | ok p => cases y with
    | error j => simp [tD]
    | ok q =>
      obtain ⟨a, b⟩ := p; obtain ⟨c, d⟩ := q
      simp only [tD, PyData.tuple.injEq, List.cons.injEq, and_true, wsD_inj, psD_inj, Except.ok.injEq, Prod.mk.injEq]
theorem tD_tame {n : Nat} {x : Told} (h : TOk n x) : tame (tD x) = true := by
  cases x with
  | error i =>
    have := h.er i rfl
    simp only [okI] at this
    simp only [tD, tame, decide_eq_true_eq]
    omega
  | ok p =>
    obtain ⟨l, ps⟩ := p
    simp only [tD, tame, tameAll, Bool.and_true, Bool.and_eq_true]
    exact ⟨wsD_tame fun t ht => ((h.ws l ps rfl).1 t ht).1, psD_tame (h.ps l ps rfl).1⟩
theorem tD_depth (x : Told) : (tD x).depth ≤ 3 := by
  cases x with
  | error i => simp [tD, PyData.depth]
  | ok p =>
    obtain ⟨l, ps⟩ := p
    simp only [tD, PyData.depth, PyData.depthAll]
    have h1 := wsD_depth l
    have h2 := psD_depth ps
    omega
theorem tD_weight {n : Nat} (hn : n ≤ 900) {x : Told} (h : TOk n x) : (tD x).weight ≤ 1000000 := by
  cases x with
  | error i =>
    have := int_weight (h.er i rfl)
    simp only [tD]
    omega
  | ok p =>
    obtain ⟨l, ps⟩ := p
    have h1 := wsD_weight (n := n) fun t ht => ((h.ws l ps rfl).1 t ht).2
    have h2 := psD_weight (h.ps l ps rfl).1
    have h3 := (h.ws l ps rfl).2
    have h4 := (h.ps l ps rfl).2
    have h5 : (n + 1) * l.length ≤ 901 * 900 := Nat.mul_le_mul (by omega) (by omega)
    simp only [tD]
    rw [PyData.weight]
    simp only [PyData.weightAll]
    omega
end Qw

set_option Elab.async false
set_option linter.all false
set_option maxRecDepth 100000
set_option maxHeartbeats 4000000
namespace Qw
open PySem L2
def sgn (c : Nat) : Bool := decide (32 ≤ c ∧ c ≤ 126) || decide (c = 10)
def RS.every (r : RS) : Tx := r.breaks ++ (r.hard ++ (r.soft ++ (r.bend ++ r.note)))
structure RS.Ok (r : RS) : Prop where
  l1 : r.breaks.length ≤ 4
  l2 : r.hard.length ≤ 2
  l3 : r.soft.length ≤ 2
  l4 : r.bend.length ≤ 1
  l5 : r.note.length ≤ 1
  ne : r.breaks ≠ []
  sg : r.every.all sgn = true
  nd : r.every.Nodup
/-! ### bounds of what is read -/
/-- where a machine is behind a text u -/
structure MS.Bd (m : MS) (u : Tx) : Prop where
  wd : ∀ w, m.word = some w → (∀ c ∈ w, c ∈ u)
  be : m.begun ≤ m.place
  op : m.opened ≤ m.place
def W3.Bd (d : W3) (u : Tx) (n : Nat) : Prop := (∀ c ∈ d.1, c ∈ u) ∧ d.1.length ≤ n ∧ d.2.1 ≤ n ∧ d.2.2 ≤ n
theorem MS.Bd.begin {m : MS} {u : Tx} (b : m.Bd u) : m.begin.Bd u := by
  unfold MS.begin
  split
  · exact ⟨fun w e => by cases e; simp, Nat.le_refl _, b.op⟩
  · exact b
theorem MS.Bd.add {m : MS} {u : Tx} {c : Nat} (b : m.Bd u) (hc : c ∈ u) : (m.add c).Bd u := by
  refine ⟨fun w e => ?_, b.be, b.op⟩
  unfold MS.add at e
  cases h : m.word with
  | none => rw [h] at e; cases e
  | some z =>
    rw [h] at e
    cases (Option.some.inj e : z ++ [c] = w)
    intro x hx
    rcases List.mem_append.mp hx with q | q
    · exact b.wd z h x q
    · rw [List.mem_singleton.mp q]; exact hc
theorem MS.Bd.mono {m : MS} {u v : Tx} (b : m.Bd u) (h : ∀ c ∈ u, c ∈ v) : m.Bd v := ⟨fun w e c hc => h c (b.wd w e c hc), b.be, b.op⟩
theorem MS.Bd.up {m : MS} {u : Tx} (b : m.Bd u) : ({ m with place := m.place + 1 } : MS).Bd u := ⟨b.wd, Nat.le_succ_of_le b.be, Nat.le_succ_of_le b.op⟩
theorem MS.Bd.out {m : MS} {u : Tx} (b : m.Bd u) (ok : m.Ok) : ∀ d ∈ m.out, d.Bd u m.place := by
  intro d hd
  unfold MS.out at hd
  cases h : m.word with
  | none => rw [h] at hd; cases hd
  | some w =>
    rw [h] at hd
    cases List.mem_singleton.mp hd
    exact ⟨b.wd w h, ok.ln w h, b.be, Nat.le_refl _⟩
theorem MS.Bd.step {m : MS} {u : Tx} (b : m.Bd u) (ok : m.Ok) (r : RS) (c : Nat) : (m.step r c).1.Bd (u ++ [c]) ∧ ∀ d ∈ (m.step r c).2, d.Bd (u ++ [c]) m.place := by
  have hc : c ∈ u ++ [c] := by simp
  have b' : m.Bd (u ++ [c]) := b.mono fun x hx => by simp [hx]
  refine MS.step_cases r m c (fun x => x.1.Bd (u ++ [c]) ∧ ∀ d ∈ x.2, d.Bd (u ++ [c]) m.place) (fun m1 h _ => ?_) (fun m1 h _ _ => ?_) (fun _ _ _ => ⟨b'.up, fun _ z => (nomatch z)⟩) fun _ _ _ => ⟨?_, fun _ z => (nomatch z)⟩
  · have b1 : m1.Bd (u ++ [c]) := by rcases h with h | h <;> subst h <;> exact ⟨b'.wd, b'.be, b'.op⟩
    refine ⟨?_, fun _ z => (nomatch z)⟩
    have b2 : ({ m1 with bent := false } : MS).Bd (u ++ [c]) := ⟨b1.wd, b1.be, b1.op⟩
    exact (b2.add hc).up
  · have b1 : m1.Bd (u ++ [c]) := by rcases h with h | h <;> subst h <;> exact ⟨b'.wd, b'.be, b'.op⟩
    have e1 : m1.out = m.out := by rcases h with h | h <;> subst h <;> rfl
    have ot : ∀ d ∈ m1.out, d.Bd (u ++ [c]) m.place := fun d hd => by
      rw [e1] at hd
      exact b'.out ok d hd
    suffices q : (m1.plain r c).1.Bd (u ++ [c]) ∧ ∀ d ∈ (m1.plain r c).2, d.Bd (u ++ [c]) m.place from ⟨q.1.up, q.2⟩
    have bb := b1.begin
    unfold MS.plain
    split
    · exact ⟨⟨fun w e => (nomatch e), b1.be, b1.op⟩, ot⟩
    split
    · exact ⟨⟨fun w e => (nomatch e), b1.be, b1.op⟩, ot⟩
    split
    · exact ⟨⟨bb.wd, bb.be, Nat.le_refl _⟩, fun _ z => (nomatch z)⟩
    split
    · exact ⟨⟨bb.wd, bb.be, Nat.le_refl _⟩, fun _ z => (nomatch z)⟩
    · exact ⟨bb.add hc, fun _ z => (nomatch z)⟩
  · suffices q : (m.quoted r c).Bd (u ++ [c]) from q.up
    unfold MS.quoted
    split
    · exact ⟨b'.wd, b'.be, b'.op⟩
    split
    · exact ⟨b'.wd, b'.be, b'.op⟩
    · exact b'.add hc
theorem MS.Bd.run (r : RS) : ∀ (t : Tx) {m : MS} {u : Tx}, m.Bd u → m.Ok → (m.run r t).1.Bd (u ++ t) ∧ ∀ d ∈ (m.run r t).2, d.Bd (u ++ t) (m.place + t.length)
  | [], m, u, b, _ => ⟨by rw [List.append_nil]; exact b, fun _ z => (nomatch z)⟩
  | c :: t, m, u, b, ok => by
    have h1 := b.step ok r c
    have h2 := MS.Bd.run r t h1.1 (ok.step r c)
    rw [MS.place_step] at h2
    have e : u ++ c :: t = u ++ [c] ++ t := by simp
    rw [e, List.length_cons]
    refine ⟨h2.1, fun d hd => ?_⟩
    rcases List.mem_append.mp hd with q | q
    · obtain ⟨a1, a2, a3, a4⟩ := h1.2 d q
      exact ⟨fun x hx => List.mem_append_left _ (a1 x hx), by omega, by omega, by omega⟩
    · obtain ⟨a1, a2, a3, a4⟩ := h2.2 d q
      exact ⟨a1, by omega, by omega, by omega⟩
theorem readAll_bd (r : RS) (t : Tx) (rp : Addr) : match readAll r t rp with
    | .error n => n ≤ t.length
    | .ok ds => ds.length ≤ t.length + 1 ∧ ∀ d ∈ ds, d.Bd t t.length := by
  have z : (MS.zero rp).Bd [] := ⟨fun w e => (by cases e), Nat.le_refl _, Nat.le_refl _⟩
  have h := MS.Bd.run r t z (MS.Ok.zero rp)
  have pl := MS.place_run r t (MS.zero rp)
  have pz : (MS.zero rp).place = 0 := rfl
  have ok := (MS.Ok.zero rp).run r t
  rw [pz, Nat.zero_add] at pl
  rw [List.nil_append, pz, Nat.zero_add] at h
  unfold readAll
  split
  · rename_i n e
    split at e
    · rename_i n' e'
      cases e
      unfold MS.fault at e'
      split at e'
      · cases e'
        rw [← pl]; exact h.1.op
      · cases e'
    · cases e
  · rename_i ds e
    split at e
    · cases e
    · cases e
      refine ⟨?_, fun d hd => ?_⟩
      · rw [List.length_append]
        have h1 := MS.out_run r t (MS.zero rp)
        have h2 : ((MS.zero rp).run r t).1.out.length ≤ 1 := by unfold MS.out; split <;> simp
        omega
      · rcases List.mem_append.mp hd with q | q
        · exact h.2 d q
        · have := h.1.out ok d q
          rwa [pl] at this
/-- what an answer tells of a text -/
def told3 (x : Except Nat (List W3)) : Told := match x with
  | .error n => .error n
  | .ok ds => .ok (ds.map (·.1), ds.map fun d => ((d.2.1 : Int), (d.2.2 : Int)))
theorem TOk.mono {m n : Nat} {x : Told} (h : TOk m x) (le : m ≤ n) : TOk n x :=
  ⟨h.er, fun l ps e => ⟨fun t ht => ⟨((h.ws l ps e).1 t ht).1, Nat.le_trans ((h.ws l ps e).1 t ht).2 le⟩, Nat.le_trans (h.ws l ps e).2 le⟩, fun l ps e => ⟨(h.ps l ps e).1, Nat.le_trans (h.ps l ps e).2 le⟩⟩
theorem told3_ok1 {r : RS} {t : Tx} {rp : Addr} (h8 : ok8 t) (hn : t.length ≤ 10000) : TOk (t.length + 1) (told3 (readAll r t rp)) := by
  have h := readAll_bd r t rp
  cases e : readAll r t rp with
  | error n =>
    rw [e] at h
    refine ⟨fun i q => ?_, fun _ _ q => (nomatch q), fun _ _ q => (nomatch q)⟩
    cases q
    have h : n ≤ t.length := h
    simp only [okI]
    omega
  | ok ds =>
    rw [e] at h
    refine ⟨fun i q => (nomatch q), fun l ps q => ?_, fun l ps q => ?_⟩
    · cases q
      refine ⟨fun w hw => ?_, by rw [List.length_map]; have := h.1; omega⟩
      obtain ⟨d, hd, rfl⟩ := List.mem_map.mp hw
      have hb := h.2 d hd
      exact ⟨fun c hc => h8 c (hb.1 c hc), by have := hb.2.1; omega⟩
    · cases q
      refine ⟨fun w hw => ?_, by rw [List.length_map]; have := h.1; omega⟩
      obtain ⟨d, hd, rfl⟩ := List.mem_map.mp hw
      have hb := h.2 d hd
      have h1 := hb.2.2.1
      have h2 := hb.2.2.2
      simp only [okI]
      omega
theorem told3_ok {r : RS} {t : Tx} {rp : Addr} (h8 : ok8 t) (hn : t.length ≤ 800) : TOk 900 (told3 (readAll r t rp)) := (told3_ok1 h8 (by omega)).mono (by omega)
theorem ok8_of {t : Tx} (h : t.all sgn = true) : ok8 t := fun c hc => by
  have := List.all_eq_true.mp h c hc
  simp only [sgn, Bool.or_eq_true, decide_eq_true_eq] at this
  omega
end Qw

set_option Elab.async false
set_option linter.all false
set_option maxRecDepth 100000
set_option maxHeartbeats 4000000
namespace Qw
open PySem L2
/-! ### the law's own reading, in plain Lean -/
theorem drop_at {t : Tx} {i c : Nat} (h : t[i]? = some c) : t.drop i = c :: t.drop (i + 1) := by
  obtain ⟨hi, e⟩ := List.getElem?_eq_some_iff.mp h
  rw [List.drop_eq_getElem_cons hi, e]
theorem drop_end {t : Tx} {i : Nat} (h : t[i]? = none) : t.drop i = [] := List.drop_eq_nil_of_le (List.getElem?_eq_none_iff.mp h)
def lq (r : RS) (q b : Nat) : Tx → Nat → Tx → Except Nat (Tx × Nat)
  | [], _, _ => .error b
  | [c], k, f => if c = q then .ok (f, k + 1) else .error b
  | c :: d :: rest, k, f => if c = q then .ok (f, k + 1)
      else if q ∈ r.soft ∧ r.bend = [c] then lq r q b rest (k + 2) (f ++ [d]) else lq r q b (d :: rest) (k + 1) (f ++ [c])
theorem lq_one {r : RS} {q b c : Nat} {rest : Tx} {k : Nat} {f : Tx} (h : c = q) : lq r q b (c :: rest) k f = .ok (f, k + 1) := by
  cases rest <;> simp [lq, h]
theorem lq_plain {r : RS} {q b c : Nat} {rest : Tx} {k : Nat} {f : Tx} (h : c ≠ q) (h2 : ¬ (q ∈ r.soft ∧ r.bend = [c])) : lq r q b (c :: rest) k f = lq r q b rest (k + 1) (f ++ [c]) := by
  cases rest with
  | nil => simp [lq, h]
  | cons d l => simp only [lq, if_neg h, if_neg h2]
theorem lq_bend {r : RS} {q b c d : Nat} {rest : Tx} {k : Nat} {f : Tx} (h : c ≠ q) (h2 : q ∈ r.soft ∧ r.bend = [c]) : lq r q b (c :: d :: rest) k f = lq r q b rest (k + 2) (f ++ [d]) := by
  simp only [lq, if_neg h, if_pos h2]
theorem lq_last {r : RS} {q b c : Nat} {k : Nat} {f : Tx} (h : c ≠ q) : lq r q b [c] k f = .error b := by
  simp [lq, h]
theorem lq_bd (r : RS) (q b : Nat) : ∀ (t : Tx) (k : Nat) (f : Tx), match lq r q b t k f with
    | .error n => n = b
    | .ok (g, e) => k + 1 ≤ e ∧ e ≤ k + t.length ∧ g.length + k + 1 ≤ f.length + e
  | [], k, f => by simp [lq]
  | [c], k, f => by
    by_cases h : c = q
    · simp [lq, h]; omega
    · simp [lq, h]
  | c :: d :: rest, k, f => by
    have h1 := lq_bd r q b rest (k + 2) (f ++ [d])
    have h2 := lq_bd r q b (d :: rest) (k + 1) (f ++ [c])
    unfold lq
    by_cases c1 : c = q
    · simp only [if_pos c1, List.length_cons]; omega
    · by_cases c2 : q ∈ r.soft ∧ r.bend = [c]
      · simp only [if_neg c1, if_pos c2]
        cases e : lq r q b rest (k + 2) (f ++ [d]) with
        | error n => rw [e] at h1; exact h1
        | ok p =>
          obtain ⟨g, e'⟩ := p
          rw [e] at h1
          simp only [List.length_append, List.length_cons, List.length_nil] at h1 ⊢
          omega
      · simp only [if_neg c1, if_neg c2]
        cases e : lq r q b (d :: rest) (k + 1) (f ++ [c]) with
        | error n => rw [e] at h2; exact h2
        | ok p =>
          obtain ⟨g, e'⟩ := p
          rw [e] at h2
          simp only [List.length_append, List.length_cons, List.length_nil] at h2 ⊢
          omega
def lw (r : RS) (t : Tx) : Nat → Nat → Tx → Except Nat (Tx × Nat)
  | 0, k, f => .ok (f, k)
  | n + 1, k, f => match t[k]? with
    | none => .ok (f, k)
    | some c => if c ∈ r.breaks ++ r.note then .ok (f, k)
      else if c ∈ r.hard ++ r.soft then (match lq r c k (t.drop (k + 1)) (k + 1) [] with
        | .error b => .error b
        | .ok (g, e) => lw r t n e (f ++ g))
      else if r.bend = [c] then (match t[k + 1]? with
        | none => .error k
        | some d => lw r t n (k + 2) (f ++ [d]))
      else lw r t n (k + 1) (f ++ [c])
theorem lw_bd (r : RS) (t : Tx) : ∀ (n k : Nat) (f : Tx), k ≤ t.length → match lw r t n k f with
    | .error b => b ≤ t.length
    | .ok (g, e) => k ≤ e ∧ e ≤ t.length ∧ g.length + k ≤ f.length + e
  | 0, k, f, hk => by simp only [lw]; omega
  | n + 1, k, f, hk => by
    unfold lw
    cases h : t[k]? with
    | none => simp only []; omega
    | some c =>
      have hk' : k < t.length := (List.getElem?_eq_some_iff.mp h).1
      simp only []
      by_cases c1 : c ∈ r.breaks ++ r.note
      · simp only [if_pos c1]; omega
      by_cases c2 : c ∈ r.hard ++ r.soft
      · simp only [if_neg c1, if_pos c2]
        have b1 := lq_bd r c k (t.drop (k + 1)) (k + 1) []
        cases e : lq r c k (t.drop (k + 1)) (k + 1) [] with
        | error b => rw [e] at b1; simp only at b1 ⊢; omega
        | ok p =>
          obtain ⟨g, e'⟩ := p
          rw [e] at b1
          rw [List.length_drop] at b1
          simp only [List.length_nil] at b1
          have ih := lw_bd r t n e' (f ++ g) (by omega)
          cases e2 : lw r t n e' (f ++ g) with
          | error b => rw [e2] at ih; simp only [e2]; exact ih
          | ok p =>
            obtain ⟨g2, e3⟩ := p
            rw [e2] at ih
            simp only [List.length_append, e2] at ih ⊢
            omega
      by_cases c3 : r.bend = [c]
      · simp only [if_neg c1, if_neg c2, if_pos c3]
        cases h2 : t[k + 1]? with
        | none => simp only []; omega
        | some d =>
          have hk2 : k + 1 < t.length := (List.getElem?_eq_some_iff.mp h2).1
          have ih := lw_bd r t n (k + 2) (f ++ [d]) (by omega)
          simp only []
          cases e2 : lw r t n (k + 2) (f ++ [d]) with
          | error b => rw [e2] at ih; exact ih
          | ok p =>
            obtain ⟨g2, e3⟩ := p
            rw [e2] at ih
            simp only [List.length_append, List.length_cons, List.length_nil] at ih ⊢
            omega
      · simp only [if_neg c1, if_neg c2, if_neg c3]
        have ih := lw_bd r t n (k + 1) (f ++ [c]) (by omega)
        cases e2 : lw r t n (k + 1) (f ++ [c]) with
        | error b => rw [e2] at ih; exact ih
        | ok p =>
          obtain ⟨g2, e3⟩ := p
          rw [e2] at ih
          simp only [List.length_append, List.length_cons, List.length_nil] at ih ⊢
          omega
theorem lw_pos {r : RS} {t : Tx} {n k c : Nat} {f g : Tx} {e : Nat} (hc : t[k]? = some c) (h : c ∉ r.breaks ++ r.note) (q : lw r t (n + 1) k f = .ok (g, e)) : k + 1 ≤ e := by
  have hk : k < t.length := (List.getElem?_eq_some_iff.mp hc).1
  simp only [lw, hc, if_neg h] at q
  split at q
  · have b1 := lq_bd r c k (t.drop (k + 1)) (k + 1) []
    split at q
    · cases q
    · rename_i g2 e2 e3
      rw [e3, List.length_drop] at b1
      have b2 := lw_bd r t n e2 (f ++ g2) (by omega)
      rw [q] at b2
      omega
  · split at q
    · split at q
      · cases q
      · rename_i d h2
        have hk2 : k + 1 < t.length := (List.getElem?_eq_some_iff.mp h2).1
        have b2 := lw_bd r t n (k + 2) (f ++ [d]) (by omega)
        rw [q] at b2
        omega
    · have b2 := lw_bd r t n (k + 1) (f ++ [c]) (by omega)
      rw [q] at b2
      omega
/-- signs up to the line's end -/
def nlk : Tx → Nat
  | [] => 0
  | c :: r => if c = LE then 0 else nlk r + 1
def nlAt (t : Tx) (i : Nat) : Nat := i + nlk (t.drop i)
theorem nlk_spec : ∀ t : Tx, nlk t ≤ t.length ∧ (∀ v, v < nlk t → t[v]? ≠ some LE) ∧ (nlk t < t.length → t[nlk t]? = some LE)
  | [] => by simp [nlk]
  | c :: r => by
    have ih := nlk_spec r
    by_cases h : c = LE
    · simp [nlk, h]
    · simp only [nlk, if_neg h, List.length_cons]
      refine ⟨by omega, fun v hv => ?_, fun hl => ?_⟩
      · cases v with
        | zero => simpa using h
        | succ v => simpa using ih.2.1 v (by omega)
      · simpa using ih.2.2 (by omega)
theorem nlAt_spec {t : Tx} {i : Nat} (h : i ≤ t.length) : i ≤ nlAt t i ∧ nlAt t i ≤ t.length ∧ (∀ v, i ≤ v → v < nlAt t i → t[v]? ≠ some LE) ∧ (nlAt t i < t.length → t[nlAt t i]? = some LE) := by
  have s := nlk_spec (t.drop i)
  rw [List.length_drop] at s
  unfold nlAt
  refine ⟨by omega, by omega, fun v h1 h2 => ?_, fun hl => ?_⟩
  · have := s.2.1 (v - i) (by omega)
    rwa [List.getElem?_drop, show i + (v - i) = v by omega] at this
  · have := s.2.2 (by omega)
    rwa [List.getElem?_drop] at this
theorem find_nl {t : Tx} {i : Nat} (h : i ≤ t.length) : (Txt.find3 (S t) (S [LE]) (i : Int) = -1 ∧ nlAt t i = t.length) ∨ (Txt.find3 (S t) (S [LE]) (i : Int) = (nlAt t i : Int) ∧ nlAt t i < t.length) := by
  have s := nlAt_spec h
  have fi : fromIndex (S t).length (i : Int) = i := by
    unfold fromIndex
    rw [if_neg (by omega)]
    omega
  have gd : ∀ v, v < t.length → ((S t).cps.getD v 0 = LE ↔ t[v]? = some LE) := fun v hv => by
    rw [List.getElem?_eq_getElem hv, Option.some.injEq]
    simp [S, Array.getD, hv]
  have fs := StrLaws.find3_spec (S t) LE (i : Int)
  rw [fi, S_len] at fs
  rcases fs with ⟨e, hn⟩ | ⟨k, e, h1, h2, h3, h4⟩
  · refine .inl ⟨e, ?_⟩
    rcases Nat.lt_or_ge (nlAt t i) t.length with l | l
    · exact absurd ((gd _ l).mpr (s.2.2.2 l)) (hn _ s.1 l)
    · omega
  · have ek : k = nlAt t i := by
      rcases Nat.lt_trichotomy k (nlAt t i) with l | l | l
      · exact absurd ((gd _ h2).mp h3) (s.2.2.1 k h1 l)
      · exact l
      · exact absurd ((gd _ (by omega)).mpr (s.2.2.2 (by omega))) (h4 _ s.1 l)
    exact .inr ⟨by rw [← ek]; exact e, by omega⟩
def lr (r : RS) (t : Tx) : Nat → Nat → List W3 → Except Nat (List W3)
  | 0, _, acc => .ok acc
  | n + 1, k, acc => match t[k]? with
    | none => .ok acc
    | some c0 => match t[if r.note = [c0] then nlAt t (k + 1) else k]? with
      | none => .ok acc
      | some c => if c ∈ r.breaks then lr r t n ((if r.note = [c0] then nlAt t (k + 1) else k) + 1) acc
        else if c ∈ r.note then lr r t n (if r.note = [c0] then nlAt t (k + 1) else k) acc
        else match lw r t t.length (if r.note = [c0] then nlAt t (k + 1) else k) [] with
          | .error b => .error b
          | .ok (w, e) => lr r t n e (acc ++ [(w, (if r.note = [c0] then nlAt t (k + 1) else k), e)])
end Qw

set_option Elab.async false
set_option linter.all false
set_option maxRecDepth 100000
set_option maxHeartbeats 4000000
namespace Qw
open PySem L2
/-! ### the machine reads as the law's own reading does -/
def fin (r : RS) (m : MS) (rest : Tx) (acc : List W3) : Except Nat (List W3) := match (m.run r rest).1.fault with
  | some n => .error n
  | none => .ok (acc ++ ((m.run r rest).2 ++ (m.run r rest).1.out))
theorem fin_step (r : RS) (m : MS) (c : Nat) (rest : Tx) (acc : List W3) : fin r m (c :: rest) acc = fin r (m.step r c).1 rest (acc ++ (m.step r c).2) := by
  unfold fin
  rw [MS.run]
  dsimp only
  split
  · rfl
  · simp only [List.append_assoc]
theorem one_NT (q : Nat) : ¬ ([q] = NT) := by intro h; cases h
theorem nil_NT : ¬ (([] : Tx) = NT) := by intro h; cases h
theorem NT_nil : ¬ (NT = ([] : Tx)) := by intro h; cases h
/-- a sign in a quoted stretch -/
theorem step_quoted {r : RS} {m : MS} {q c : Nat} (hs : m.state = [q]) (hb : m.bent = false) : m.step r c = ({ (m.quoted r c) with place := m.place + 1 }, []) := by
  unfold MS.step
  rw [if_neg (fun h => one_NT q (hs ▸ h.1))]
  simp only [hb, Bool.false_eq_true, if_false, hs, List.cons_ne_nil, one_NT]
  rw [MS.place_quoted]
theorem step_bent {r : RS} {m : MS} {c : Nat} (hs : m.state ≠ NT) (hb : m.bent = true) : m.step r c = ({ (({ m with bent := false } : MS).add c) with place := m.place + 1 }, []) := by
  unfold MS.step
  rw [if_neg (fun h => hs h.1)]
  simp only [hb, if_true]
  rfl
theorem step_plain {r : RS} {m : MS} {c : Nat} (hs : m.state = []) (hb : m.bent = false) : m.step r c = ({ (m.plain r c).1 with place := m.place + 1 }, (m.plain r c).2) := by
  unfold MS.step
  rw [if_neg (fun h => nil_NT (hs ▸ h.1))]
  simp only [hb, Bool.false_eq_true, if_false, hs, if_true]
  rw [MS.place_plain]
theorem fin_lq (r : RS) (hb1 : r.bend.length ≤ 1) (q b : Nat) : ∀ (rest : Tx) (k : Nat) (f w0 : Tx) (m : MS) (acc : List W3), m.state = [q] → m.bent = false → m.word = some (w0 ++ f) → m.place = k → m.opened = b →
    match lq r q b rest k f with
    | .error _ => fin r m rest acc = .error b
    | .ok (g, e) => fin r m rest acc = fin r { m with state := [], word := some (w0 ++ g), place := e } (rest.drop (e - k)) acc
  | [], k, f, w0, m, acc, hs, hb, hw, hp, ho => by
    have : m.fault = some b := by
      unfold MS.fault
      rw [if_pos (.inr ⟨by rw [hs]; simp, by rw [hs]; exact one_NT q⟩), ho]
    simp [lq, fin, MS.run, this]
  | c :: rest, k, f, w0, m, acc, hs, hb, hw, hp, ho => by
    have mem : c ∈ r.bend ↔ r.bend = [c] := by
      constructor
      · intro h
        match hbn : r.bend, h, hb1 with
        | [x], h, _ => rw [List.mem_singleton.mp h]
      · intro h; rw [h]; exact List.mem_singleton.mpr rfl
    rw [fin_step, step_quoted hs hb, List.append_nil]
    by_cases c1 : c = q
    · rw [lq_one c1]
      have : m.quoted r c = { m with state := [] } := by
        unfold MS.quoted
        rw [if_pos (by rw [hs, c1])]
      rw [this]
      show fin r _ rest acc = fin r _ ((c :: rest).drop (k + 1 - k)) acc
      rw [show k + 1 - k = 1 by omega]
      show fin r { m with state := [], place := m.place + 1 } rest acc = fin r { m with state := [], word := some (w0 ++ f), place := k + 1 } rest acc
      rw [hp, ← hw]
    have c1' : ¬ ([c] = m.state) := fun h => c1 (by rw [hs] at h; cases h; rfl)
    by_cases c2 : q ∈ r.soft ∧ r.bend = [c]
    · have qd : m.quoted r c = { m with bent := true } := by
        unfold MS.quoted
        rw [if_neg c1', if_pos ⟨mem.mpr c2.2, by rw [hs]; simpa using c2.1⟩]
      rw [qd]
      cases rest with
      | nil =>
        rw [lq_last c1]
        have : ({ m with bent := true, place := m.place + 1 } : MS).fault = some b := by
          unfold MS.fault
          rw [if_pos (.inl rfl)]
          exact congrArg some ho
        simp [fin, MS.run, this]
      | cons d rest =>
        rw [lq_bend c1 c2, fin_step, step_bent (m := { m with bent := true, place := m.place + 1 }) (by show m.state ≠ NT; rw [hs]; exact one_NT q) rfl, List.append_nil]
        have ih := fin_lq r hb1 q b rest (k + 2) (f ++ [d]) w0 { (({ m with bent := false, place := m.place + 1 } : MS).add d) with place := m.place + 1 + 1 } acc hs rfl (by simp [MS.add, hw]) (by show m.place + 1 + 1 = k + 2; omega) ho
        cases e : lq r q b rest (k + 2) (f ++ [d]) with
        | error x => rw [e] at ih; exact ih
        | ok z =>
          obtain ⟨g, e2⟩ := z
          rw [e] at ih
          have bd := lq_bd r q b rest (k + 2) (f ++ [d])
          rw [e] at bd
          dsimp only at ih bd ⊢
          rw [show e2 - k = (e2 - (k + 2)) + 2 by omega]
          show _ = fin r _ (rest.drop (e2 - (k + 2))) acc
          refine Eq.trans ih ?_
          rw [hb]
          rfl
    · have qd : m.quoted r c = m.add c := by
        unfold MS.quoted
        rw [if_neg c1', if_neg (fun h => c2 ⟨by rw [hs] at h; simpa using h.2, mem.mp h.1⟩)]
      rw [qd, lq_plain c1 c2]
      have ih := fin_lq r hb1 q b rest (k + 1) (f ++ [c]) w0 { (m.add c) with place := m.place + 1 } acc hs hb (by simp [MS.add, hw]) (by show m.place + 1 = k + 1; omega) ho
      cases e : lq r q b rest (k + 1) (f ++ [c]) with
      | error x => rw [e] at ih; exact ih
      | ok z =>
        obtain ⟨g, e2⟩ := z
        rw [e] at ih
        have bd := lq_bd r q b rest (k + 1) (f ++ [c])
        rw [e] at bd
        dsimp only at ih bd ⊢
        rw [show e2 - k = (e2 - (k + 1)) + 1 by omega]
        exact ih
termination_by rest => rest.length
theorem bend_mem {r : RS} (hb1 : r.bend.length ≤ 1) {c : Nat} : c ∈ r.bend ↔ r.bend = [c] := by
  constructor
  · intro h
    match hbn : r.bend, h, hb1 with
    | [x], h, _ => rw [List.mem_singleton.mp h]
  · intro h; rw [h]; exact List.mem_singleton.mpr rfl
theorem begin_some {m : MS} {w : Tx} (h : m.word = some w) : m.begin = m := by
  unfold MS.begin
  rw [h]
theorem fin_lw (r : RS) (hb1 : r.bend.length ≤ 1) (t : Tx) : ∀ (n k : Nat) (f : Tx) (m : MS) (acc : List W3), m.state = [] → m.bent = false → m.word = some f → m.place = k → k ≤ t.length → t.length ≤ n + k →
    match lw r t n k f with
    | .error b => fin r m (t.drop k) acc = .error b
    | .ok (g, e) => (t[e]? = none ∨ ∃ c, t[e]? = some c ∧ c ∈ r.breaks ++ r.note) ∧ ∃ o, fin r m (t.drop k) acc = fin r { m with word := some g, place := e, opened := o } (t.drop e) acc
  | 0, k, f, m, acc, hs, hb, hw, hp, hk, hn => by
    simp only [lw]
    refine ⟨.inl (List.getElem?_eq_none_iff.mpr (by omega)), m.opened, ?_⟩
    rw [← hw, ← hp]
  | n + 1, k, f, m, acc, hs, hb, hw, hp, hk, hn => by
    have stay : ∃ o, fin r m (t.drop k) acc = fin r { m with word := some f, place := k, opened := o } (t.drop k) acc := ⟨m.opened, by rw [← hw, ← hp]⟩
    cases hc : t[k]? with
    | none =>
      simp only [lw, hc]
      exact ⟨.inl trivial, stay⟩
    | some c =>
      have hk' : k < t.length := (List.getElem?_eq_some_iff.mp hc).1
      by_cases c1 : c ∈ r.breaks ++ r.note
      · simp only [lw, hc, if_pos c1]
        exact ⟨.inr ⟨c, rfl, c1⟩, stay⟩
      have c1' : ¬ c ∈ r.breaks ∧ ¬ c ∈ r.note := ⟨fun h => c1 (List.mem_append_left _ h), fun h => c1 (List.mem_append_right _ h)⟩
      have bg := begin_some hw
      rw [drop_at hc, fin_step, step_plain hs hb]
      by_cases c2 : c ∈ r.hard ++ r.soft
      · have pl : m.plain r c = ({ m with state := [c], opened := m.place }, []) := by
          unfold MS.plain
          rw [if_neg c1'.1, if_neg c1'.2, if_pos (show c ∈ r.quotes from c2), bg]
        rw [pl]
        simp only [lw, hc, if_neg c1, if_pos c2, List.append_nil]
        have q := fin_lq r hb1 c k (t.drop (k + 1)) (k + 1) [] f { m with state := [c], opened := m.place, place := m.place + 1 } acc rfl hb (by simp [hw]) (by show m.place + 1 = k + 1; omega) hp
        have bd := lq_bd r c k (t.drop (k + 1)) (k + 1) []
        cases e : lq r c k (t.drop (k + 1)) (k + 1) [] with
        | error b =>
          rw [e] at q bd
          dsimp only at q bd ⊢
          rw [bd]
          exact q
        | ok z =>
          obtain ⟨g, e2⟩ := z
          rw [e] at q bd
          rw [List.length_drop] at bd
          dsimp only at q bd ⊢
          rw [List.drop_drop, show k + 1 + (e2 - (k + 1)) = e2 by omega] at q
          have ih := fin_lw r hb1 t n e2 (f ++ g) { m with state := [], opened := m.place, word := some (f ++ g), place := e2 } acc rfl hb rfl rfl (by omega) (by omega)
          cases e3 : lw r t n e2 (f ++ g) with
          | error b =>
            rw [e3] at ih
            exact Eq.trans q ih
          | ok z =>
            obtain ⟨g3, e4⟩ := z
            rw [e3] at ih
            obtain ⟨i1, o, i2⟩ := ih
            refine ⟨i1, o, Eq.trans q (Eq.trans i2 ?_)⟩
            rw [← hs]
      have c2' : ¬ c ∈ r.quotes := c2
      by_cases c3 : r.bend = [c]
      · have pl : m.plain r c = ({ m with bent := true, opened := m.place }, []) := by
          unfold MS.plain
          rw [if_neg c1'.1, if_neg c1'.2, if_neg c2', if_pos ((bend_mem hb1).mpr c3), bg]
        rw [pl]
        simp only [lw, hc, if_neg c1, if_neg c2, if_pos c3, List.append_nil]
        cases hd : t[k + 1]? with
        | none =>
          have e0 : t.drop (k + 1) = [] := drop_end hd
          rw [e0]
          have : ({ m with bent := true, opened := m.place, place := m.place + 1 } : MS).fault = some k := by
            unfold MS.fault
            rw [if_pos (.inl rfl)]
            exact congrArg some hp
          simp [fin, MS.run, this]
        | some d =>
          have hk2 : k + 1 < t.length := (List.getElem?_eq_some_iff.mp hd).1
          rw [drop_at hd, fin_step, step_bent (m := { m with bent := true, opened := m.place, place := m.place + 1 }) (by show m.state ≠ NT; rw [hs]; exact nil_NT) rfl, List.append_nil]
          have ih := fin_lw r hb1 t n (k + 2) (f ++ [d]) { (({ m with bent := false, opened := m.place, place := m.place + 1 } : MS).add d) with place := m.place + 1 + 1 } acc hs rfl (by simp [MS.add, hw]) (by show m.place + 1 + 1 = k + 2; omega) (by omega) (by omega)
          dsimp only
          cases e3 : lw r t n (k + 2) (f ++ [d]) with
          | error b =>
            rw [e3] at ih
            exact ih
          | ok z =>
            obtain ⟨g3, e4⟩ := z
            rw [e3] at ih
            obtain ⟨i1, o, i2⟩ := ih
            refine ⟨i1, o, Eq.trans i2 ?_⟩
            rw [hb]
            rfl
      · have pl : m.plain r c = (m.add c, []) := by
          unfold MS.plain
          rw [if_neg c1'.1, if_neg c1'.2, if_neg c2', if_neg (fun h => c3 ((bend_mem hb1).mp h)), bg]
        rw [pl]
        simp only [lw, hc, if_neg c1, if_neg c2, if_neg c3, List.append_nil]
        have ih := fin_lw r hb1 t n (k + 1) (f ++ [c]) { (m.add c) with place := m.place + 1 } acc hs hb (by simp [MS.add, hw]) (by show m.place + 1 = k + 1; omega) (by omega) (by omega)
        cases e3 : lw r t n (k + 1) (f ++ [c]) with
        | error b =>
          rw [e3] at ih
          exact ih
        | ok z =>
          obtain ⟨g3, e4⟩ := z
          rw [e3] at ih
          obtain ⟨i1, o, i2⟩ := ih
          exact ⟨i1, o, i2⟩
theorem fin_note (r : RS) : ∀ (rest : Tx) (m : MS) (acc : List W3), m.state = NT → m.bent = false → fin r m rest acc = fin r { m with place := m.place + nlk rest } (rest.drop (nlk rest)) acc
  | [], m, acc, _, _ => rfl
  | c :: rest, m, acc, hs, hb => by
    by_cases h : c = LE
    · simp only [nlk, if_pos h]
      rfl
    · have st : m.step r c = ({ m with place := m.place + 1 }, []) := by
        unfold MS.step
        rw [if_neg (fun z => h z.2)]
        simp only [hb, Bool.false_eq_true, if_false, hs, NT_nil, if_true]
      rw [fin_step, st, List.append_nil]
      simp only [nlk, if_neg h]
      have ih := fin_note r rest { m with place := m.place + 1 } acc hs hb
      rw [ih]
      show fin r { m with place := m.place + 1 + nlk rest } _ acc = fin r { m with place := m.place + (nlk rest + 1) } _ acc
      rw [show m.place + 1 + nlk rest = m.place + (nlk rest + 1) by omega]
      rfl
theorem step_begin {r : RS} {m : MS} {c : Nat} (hs : m.state = []) (hb : m.bent = false) (h1 : ¬ c ∈ r.breaks) (h2 : ¬ c ∈ r.note) : m.step r c = m.begin.step r c := by
  have bs : m.begin.state = [] := by unfold MS.begin; split <;> exact hs
  have bb : m.begin.bent = false := by unfold MS.begin; split <;> exact hb
  have bw : ∃ w, m.begin.word = some w := by
    unfold MS.begin
    cases h : m.word with
    | none => exact ⟨[], rfl⟩
    | some w => exact ⟨w, h⟩
  obtain ⟨w, bw⟩ := bw
  have b2 : m.begin.begin = m.begin := begin_some bw
  rw [step_plain hs hb, step_plain bs bb, MS.place_begin]
  have : m.begin.plain r c = m.plain r c := by
    unfold MS.plain
    rw [if_neg h1, if_neg h2, if_neg h1, if_neg h2, b2]
  rw [this]
theorem fin_lr (r : RS) (ok : r.Ok) (t : Tx) : ∀ (n k : Nat) (acc acc0 : List W3) (m : MS), m.state = [] → m.bent = false → m.place = k → k ≤ t.length → t.length < n + k → acc = acc0 ++ m.out →
    (m.word = none ∨ t[k]? = none ∨ ∃ c, t[k]? = some c ∧ c ∈ r.breaks ++ r.note) → fin r m (t.drop k) acc0 = lr r t n k acc
  | 0, k, acc, acc0, m, _, _, _, hk, hn, _, _ => by omega
  | n + 1, k, acc, acc0, m, hs, hb, hp, hk, hn, ha, hw => by
    have hb1 := ok.l4
    have fault0 : ∀ m' : MS, m'.bent = false → (m'.state = [] ∨ m'.state = NT) → m'.fault = none := fun m' h1 h2 => by
      unfold MS.fault
      rw [if_neg]
      rintro (h | h)
      · rw [h1] at h; cases h
      · exact h2.elim h.1 h.2
    have stop : ∀ (m' : MS) acc', m'.bent = false → (m'.state = [] ∨ m'.state = NT) → fin r m' [] acc' = .ok (acc' ++ m'.out) := fun m' acc' h1 h2 => by
      simp [fin, MS.run, fault0 m' h1 h2]
    cases hc : t[k]? with
    | none =>
      simp only [lr, hc]
      rw [drop_end hc, stop m acc0 hb (.inl hs), ha]
    | some c =>
      have hk' : k < t.length := (List.getElem?_eq_some_iff.mp hc).1
      -- a sign that is not the note's
      have go : ∀ (k1 : Nat) (m : MS) (acc0 : List W3) (c' : Nat), k ≤ k1 → m.state = [] → m.bent = false → m.place = k1 → t[k1]? = some c' → acc = acc0 ++ m.out → (m.word = none ∨ c' ∈ r.breaks ++ r.note) → (c' ∈ r.note → k < k1) →
          fin r m (t.drop k1) acc0 = (if c' ∈ r.breaks then lr r t n (k1 + 1) acc else if c' ∈ r.note then lr r t n k1 acc else match lw r t t.length k1 [] with
            | .error b => .error b
            | .ok (w, e) => lr r t n e (acc ++ [(w, k1, e)])) := fun k1 m acc0 c' hkk hs hb hp hc' ha hw hnn => by
        have hk1 : k1 < t.length := (List.getElem?_eq_some_iff.mp hc').1
        by_cases d1 : c' ∈ r.breaks
        · rw [if_pos d1, drop_at hc', fin_step, step_plain hs hb]
          have pl : m.plain r c' = (m.drop, m.out) := by
            unfold MS.plain
            rw [if_pos d1]
          rw [pl]
          exact fin_lr r ok t n (k1 + 1) acc (acc0 ++ m.out) { m.drop with place := m.place + 1 } hs hb (by show m.place + 1 = _; omega) (by omega) (by omega) (by rw [ha]; simp [MS.out, MS.drop]) (.inl rfl)
        rw [if_neg d1]
        by_cases d2 : c' ∈ r.note
        · rw [if_pos d2]
          have := hnn d2
          exact fin_lr r ok t n k1 acc acc0 m hs hb hp (by omega) (by omega) ha (.inr (.inr ⟨c', hc', List.mem_append_right _ d2⟩))
        rw [if_neg d2]
        have d3 : c' ∉ r.breaks ++ r.note := fun h => (List.mem_append.mp h).elim d1 d2
        have w0 : m.word = none := hw.elim id fun h => absurd h d3
        have out0 : m.out = [] := by unfold MS.out; rw [w0]
        rw [out0, List.append_nil] at ha
        have bg : m.begin = { m with word := some [], begun := m.place } := by
          unfold MS.begin
          rw [w0]
        have e0 : fin r m (t.drop k1) acc0 = fin r m.begin (t.drop k1) acc0 := by
          rw [drop_at hc', fin_step, fin_step, step_begin hs hb d1 d2]
        rw [e0, bg]
        have q := fin_lw r hb1 t t.length k1 [] { m with word := some [], begun := m.place } acc0 hs hb rfl hp (by omega) (by omega)
        cases e : lw r t t.length k1 [] with
        | error b =>
          rw [e] at q
          exact q
        | ok z =>
          obtain ⟨g, e2⟩ := z
          rw [e] at q
          obtain ⟨q1, o, q2⟩ := q
          have bd := lw_bd r t t.length k1 [] (by omega)
          rw [e] at bd
          have ps : k1 + 1 ≤ e2 := by
            obtain ⟨n', hn'⟩ : ∃ n', t.length = n' + 1 := ⟨t.length - 1, by omega⟩
            rw [hn'] at e
            exact lw_pos hc' d3 e
          dsimp only at bd ⊢
          refine Eq.trans q2 ?_
          exact fin_lr r ok t n e2 (acc ++ [(g, k1, e2)]) acc0 { m with word := some g, begun := m.place, place := e2, opened := o } hs hb rfl (by omega) (by omega) (by rw [ha]; simp [MS.out, hp]) (.inr q1)
      by_cases hnote : r.note = [c]
      · have cn : c ∈ r.note := by rw [hnote]; exact List.mem_singleton.mpr rfl
        have cb : ¬ c ∈ r.breaks := fun h => by
          have nd := ok.nd
          simp only [RS.every] at nd
          exact (List.nodup_append.mp nd).2.2 c h c (by simp [cn]) rfl
        have pl : m.plain r c = ({ m.drop with state := NT }, m.out) := by
          unfold MS.plain
          rw [if_neg cb, if_pos cn]
        simp only [lr, hc, if_pos hnote]
        rw [drop_at hc, fin_step, step_plain hs hb, pl]
        dsimp only
        rw [← ha]
        rw [fin_note r (t.drop (k + 1)) { m.drop with state := NT, place := m.place + 1 } acc rfl hb]
        have ns := nlAt_spec (t := t) (i := k + 1) (by omega)
        have ed : (t.drop (k + 1)).drop (nlk (t.drop (k + 1))) = t.drop (nlAt t (k + 1)) := by rw [List.drop_drop]; rfl
        have ep : m.place + 1 + nlk (t.drop (k + 1)) = nlAt t (k + 1) := by rw [hp]; rfl
        rw [ed]
        show fin r { m.drop with state := NT, place := m.place + 1 + nlk (t.drop (k + 1)) } _ acc = _
        rw [ep]
        generalize nlAt t (k + 1) = k1 at *
        cases hc' : t[k1]? with
        | none =>
          dsimp only
          rw [drop_end hc']
          refine Eq.trans (stop { m.drop with state := NT, place := k1 } acc hb (.inr rfl)) ?_
          simp [MS.out, MS.drop]
        | some c' =>
          have hk1 : k1 < t.length := (List.getElem?_eq_some_iff.mp hc').1
          have cl : c' = LE := by
            have := ns.2.2.2 hk1
            rw [hc'] at this
            exact Option.some.inj this
          have e1 : fin r { m.drop with state := NT, place := k1 } (t.drop k1) acc = fin r { m.drop with state := [], place := k1 } (t.drop k1) acc := by
            rw [drop_at hc', fin_step, fin_step]
            have : ({ m.drop with state := NT, place := k1 } : MS).step r c' = ({ m.drop with state := [], place := k1 } : MS).step r c' := by
              rw [step_plain (m := { m.drop with state := [], place := k1 }) rfl hb]
              unfold MS.step
              rw [if_pos ⟨rfl, cl⟩]
              have hb' : ({ m.drop with state := NT, place := k1 } : MS).bent = false := hb
              have hb'' : m.drop.bent = false := hb
              simp only [hb'', Bool.false_eq_true, if_false, if_true]
              rw [MS.place_plain]
            rw [this]
          rw [e1]
          exact go k1 { m.drop with state := [], place := k1 } acc c' (by omega) rfl hb rfl hc' (by simp [MS.out, MS.drop]) (.inl rfl) (fun _ => by omega)
      · simp only [lr, hc, if_neg hnote]
        have cn : ¬ c ∈ r.note := fun h => hnote (by
          have l5 := ok.l5
          match hnn : r.note, h, l5 with
          | [x], h, _ => rw [List.mem_singleton.mp h])
        refine go k m acc0 c (Nat.le_refl _) hs hb hp hc ha ?_ (fun h => absurd h cn)
        rcases hw with h | h | ⟨c', h, h2⟩
        · exact .inl h
        · rw [hc] at h; cases h
        · rw [hc] at h; cases h; exact .inr h2
theorem readAll_lr {r : RS} (ok : r.Ok) (t : Tx) (rp : Addr) : readAll r t rp = lr r t (t.length + 1) 0 [] := by
  have := fin_lr r ok t (t.length + 1) 0 [] [] (MS.zero rp) rfl rfl rfl (Nat.zero_le _) (by omega) rfl (.inl rfl)
  rw [List.drop_zero] at this
  rw [← this]
  unfold readAll fin
  split <;> simp_all
end Qw

set_option Elab.async false
set_option linter.all false
set_option maxRecDepth 100000
set_option maxHeartbeats 4000000
namespace Qw
open PySem L2
section
variable {X : Cx}
/-! ### list(text) -/
def rListStr : List V → Hp → VK → Prop := fun xs H Q => ∃ l : Tx, xs = [.str (S l)] ∧ l.length ≤ 100000 ∧ ∀ p, H p = none → Q (.ref p) (upd H p (.lst (l.map fun c => .str (S [c]))))
theorem call_list_str (hc : X.calm = true) : CallR X (.type "list") rListStr := by
  rintro pins s σ H xs us Q I r ⟨l, rfl, hl, q⟩
  obtain ⟨u, rfl, t, rfl⟩ := vals1 r
  have hz : (S l).cps.size ≤ sizeLine := by rw [S_size]; exact Nat.le_trans hl (by decide)
  refine PySem.call_list_str (hn := hz) (I.ok.hd hc) (S l) t fun h' tk acc c' hk hS hi => ?_
  have hv : Vals (l.map fun c => V.str (S [c])) acc.toList := by
    refine vals_of_at ?_ fun j x u h1 h2 => ?_
    · rw [List.length_map, ← S_size l]; exact hi.1.symm
    · rw [Array.getElem?_toList] at h2
      obtain ⟨c, t', e1, e2⟩ := hi.2 j u h2
      rw [List.getElem?_map] at h1
      have e3 : l[j]? = some c := by simpa [S] using e1
      rw [e3] at h1
      cases h1
      exact ⟨t', e2⟩
  refine ⟨.ref s.heap.objs.size, _, I.laid (t' := tk) (o := .lst (l.map fun c => V.str (S [c]))) hk (Nat.le_refl _) ⟨?_, acc.toList, c', hv, by simpa using hS⟩, rfl, q _ (I.hok.fresh (Nat.le_refl _))⟩
  rw [List.length_map]; rw [S_size] at hz; exact hz
/-! ### text * number -/
def rMulS : R2 := fun x y H Q => ∃ (l : Tx) (n : Nat), x = .str (S l) ∧ y = .int n ∧ n < 1000 ∧ l.length < 1000 ∧ Q (.str (S (List.replicate n l).flatten)) H
theorem foldl_cat (l : Tx) : ∀ (n : Nat) (acc : Array Nat), (List.replicate n (S l).cps).foldl (· ++ ·) acc = acc ++ ((List.replicate n l).flatten).toArray
  | 0, acc => by simp
  | n + 1, acc => by
    rw [List.replicate_succ, List.foldl_cons, foldl_cat l n, List.replicate_succ, List.flatten_cons]
    simp [S]
theorem op_mul_str : OpR X (binaryOp .Mult) rMulS := by
  rintro pins s σ H x y v u Q I rx ry ⟨l, n, rfl, rfl, hn, hl, q⟩
  obtain ⟨t, rfl⟩ := rx
  obtain ⟨t', rfl⟩ := ry
  have hS : (S l).length = l.length := S_len l
  have big : l.length * n ≤ 1000 * 1000 := Nat.mul_le_mul (Nat.le_of_lt hl) (Nat.le_of_lt hn)
  refine P.mul_str ?_ (fun h1 _ => ?_) (fun h1 _ => ?_) ?_
  · have a1 : ¬ ((n : Int) < -(2 ^ 63)) := by omega
    have a2 : ¬ ((n : Int) ≥ 2 ^ 63) := by omega
    rw [decide_eq_false a1, decide_eq_false a2]; rfl
  · rw [hS]
    have h2 : (0 : Int) < n := by omega
    intro z
    have z' : (2 ^ 63 - 1 : Int) / n < l.length := z
    have := (Int.ediv_lt_iff_lt_mul h2).mp z'
    have e : ((l.length : Nat) : Int) * n = ((l.length * n : Nat) : Int) := by push_cast; rfl
    rw [e] at this
    omega
  · rw [hS, Int.toNat_natCast]
    exact decide_eq_false (Nat.not_lt.mpr (Nat.le_trans big (by decide)))
  · have er : ((List.replicate n (S l).cps).foldl (· ++ ·) #[]) = ((List.replicate n l).flatten).toArray := by rw [foldl_cat]; simp
    have el : ((List.replicate n l).flatten).length = n * l.length := by simp
    split
    · have : n = 0 := by omega
      subst this
      exact ⟨Nat.zero_le _, .str (S []), H, I.tok _, ⟨_, rfl⟩, q⟩
    split
    · rename_i h1 h2
      have : n = 1 ∨ l = [] := by
        rcases Bool.or_eq_true _ _ ▸ h2 with h | h
        · left
          have := beq_iff_eq.mp h
          omega
        · right
          have := beq_iff_eq.mp h
          rw [hS] at this
          exact List.length_eq_zero_iff.mp this
      refine ⟨.str (S l), H, I, ⟨_, rfl⟩, ?_⟩
      have e : (List.replicate n l).flatten = l := by
        rcases this with h | h
        · subst h; simp
        · subst h; simp
      rw [e] at q
      exact q
    · rw [Int.toNat_natCast, er]
      refine ⟨?_, .str (S _), H, I.tok _, ⟨_, rfl⟩, q⟩
      show (S _).length ≤ _
      rw [S_len, el, Nat.mul_comm]
      exact Nat.le_trans big (by decide)
/-! ### list.count(True), of truths -/
def rCntB (K : PySem.W.Frag) : V → List V → Hp → VK → Prop := fun x xs H Q => ∃ (p : Addr) (bs : List Bool) (k : Bool), x = .ref p ∧ xs = [.bl k] ∧ SqL K H p (bs.map V.bl) ∧ Q (.int (bs.count k : Nat)) H
def isB (k : Bool) : Value → Bool
  | .bool b => b == k
  | _ => false
theorem mt_lcountB : MtR X "list.count" (rCntB X.K) := by
  rintro pins s σ H x xs v us Q I rx rxs ⟨p, bs, k, rfl, rfl, hs, q⟩
  cases rx
  obtain ⟨u, rfl, ru⟩ := rxs.one
  cases ru
  obtain ⟨its, rv, ⟨⟨cls, dd, data, sl⟩, n, ho, hc, hdn, hd⟩, hlen⟩ := I.list hs
  simp only at hc hd
  subst hc hd
  have bool_at : ∀ {bs : List Bool} {its : List Value}, Vals (bs.map V.bl) its → its.countP (isB k) = bs.count k ∧ ∀ y ∈ its, ∃ b, y = .bool b := by
    intro bs
    induction bs with
    | nil => intro its r; cases r; exact ⟨rfl, fun y hy => by cases hy⟩
    | cons b bs ih =>
      intro its r
      cases r with
      | cons r t =>
        cases r
        obtain ⟨h1, h2⟩ := ih t
        refine ⟨?_, fun y hy => ?_⟩
        · rw [List.countP_cons, List.count_cons, h1]; rfl
        · rcases List.mem_cons.mp hy with e | e
          · exact ⟨b, e⟩
          · exact h2 y e
  obtain ⟨ec, hb⟩ := bool_at rv
  refine call_meets PySem.F.slot_list_count ⟨_, ho, rfl⟩ PySem.F.entry_list_count (PySem.F.args_list_count_2 _ _)
    (SeqAt.list_countAt p its.toArray n dd sl (.bool k) (isB k)) ⟨ho, fun y hy => ?_, ?_⟩
  · obtain ⟨b, rfl⟩ := hb y (by simpa using hy)
    have := eqAt_V (A := X.A.in1) (s := s) (y := .bl b) (x := .bl k) (u := .bool b) (v := .bool k) rfl rfl rfl rfl
    exact this
  · refine ⟨.int (bs.count k : Nat), H, I.tok _, ⟨s.toks, ?_⟩, q⟩
    show Value.int ((its.toArray.toList.countP (isB k) : Nat) : Int) s.toks = Value.int ((bs.count k : Nat) : Int) s.toks
    rw [show its.toArray.toList = its from rfl, ec]
/-! ### text[::-1] -/
def tRevS (te : TE) : TE := fun σ H Q => te σ H fun x H1 => ∃ l : Tx, x = .str (S l) ∧ l.length ≤ 100000 ∧ Q (.str (S l.reverse)) H1
theorem rev_indices (n : Nat) : Builtin.Str.strSliceIndices none none (-1) n = (List.range n).reverse := by
  have h : Builtin.Str.strSliceIndices none none (-1) n = sliceRange ((n : Int) - 1) (-1) (-1) := rfl
  rw [h, PySem.W.krv_sliceRange, PySem.W.krv_range]
theorem pe_revS {e : Expr} {te : TE} {k : Nat} {p1 p2 p3 pos : Pos} (he : PE X e te) : PE X (.Subscript e (.Slice none none (some (.UnaryOp .USub (.Constant (.int 1) k p1) p2)) p3) pos) (tRevS te) := by
  refine ⟨fun pins s σ H Q I h => ?_⟩
  refine PyProof.Rows.Subscript_ (thn (he.run pins s σ H _ I h) fun v s1 hv => ?_)
  obtain ⟨x, H1, I1, r1, l, rfl, hl, q⟩ := hv
  obtain ⟨t, rfl⟩ := r1
  have third : PO X (some (.UnaryOp .USub (.Constant (.int 1) k p1) p2)) (tPart (tUn (rU fun i => .int (-i)) (tC (.int 1)))) := po_some (pe_un un_neg pe_int)
  refine wpAny_Slice (thn (po_none.run pins s1 σ H1 (fun o Hx => o = none ∧ Hx = H1) I1 ⟨rfl, rfl⟩) fun a1 s2 h2 => ?_)
  obtain ⟨o2, H2, I2, p2', rfl, rfl⟩ := h2
  cases p2'
  refine thn (po_none.run pins s2 σ H2 (fun o Hx => o = none ∧ Hx = H2) I2 ⟨rfl, rfl⟩) fun a2 s3 h3 => ?_
  obtain ⟨o3, H3, I3, p3', rfl, rfl⟩ := h3
  cases p3'
  refine thn (third.run pins s3 σ H3 (fun o Hx => o = some (-1) ∧ Hx = H3) I3 ⟨1, rfl, -1, rfl, rfl, rfl⟩) fun a3 s4 h4 => ?_
  obtain ⟨o4, H4, I4, p4', rfl, rfl⟩ := h4
  obtain ⟨t4, rfl⟩ : ∃ t4, a3 = .int (-1) t4 := by cases p4' with | int i t => exact ⟨t, rfl⟩
  have I5 : L2.Inv X pins σ H4 { s4 with heap := s4.heap.push { cls := .type "slice", data := .fields #[.none, .none, .int (-1) t4] } } := I4.kept (t' := s4.toks) fun b ob z => Heap.get?_push_of_some _ z
  refine PyProof.Rows.tail_any (ops := [.str (S l) t, .ref s4.heap.objs.size]) (typeIs_str _ _ _) (PySem.F.slot_str_getitem.lookup) ?_ (by with_unfolding_all rfl)
  refine wpAny_getItem_str_slice (l := none) (u := none) (st := some (-1, t4)) ⟨_, Heap.get?_push_size _ rfl, rfl, rfl⟩ (show ((-1 : Int) == 0) = false by decide) ?_
  have e1 : slicePicked (S l) none none (some (-1, t4)) = (List.range l.length).reverse := by
    show Builtin.Str.strSliceIndices none none (-1) (S l).length = _
    rw [S_len, rev_indices]
  have e2 : ((List.range l.length).reverse.filterMap ((S l).cps[·]?)) = l.reverse := by
    rw [List.filterMap_reverse]
    have := PySem.W.krv_all (S l).cps
    rw [S_size] at this
    rw [this]
    rfl
  unfold sliceMade
  split
  · rename_i hc
    have hc' : ((-1 : Int) == 1 && (slicePicked (S l) none none (some (-1, t4))).length == (S l).length) = true := hc
    rw [show ((-1 : Int) == 1) = false by decide, Bool.false_and] at hc'
    cases hc'
  rw [e1, e2]
  refine ⟨?_, .str (S l.reverse), H4, I5.tok _, ⟨_, rfl⟩, q⟩
  show (S l.reverse).length ≤ _
  rw [S_len, List.length_reverse]
  exact Nat.le_trans hl (by decide)
/-! ### zip(list, tuple) -/
theorem nn {x y : Nat} (h : x ≠ y) : (x : Addr) ≠ y := h
theorem sep_nat (n a b : Nat) (la : a < n) (lb : b < n) : ZipSep2 (n + 4) (n + 2) (n + 3) n (n + 1) [n, a] [n + 1, b] := by
  have nl : ∀ (x y z : Nat), x ≠ y → x ≠ z → x ∉ [y, z] := fun x y z h1 h2 h => by
    rcases List.mem_cons.mp h with e | e
    · exact h1 e
    · exact h2 (List.mem_singleton.mp e)
  exact ⟨nn (by omega), nn (by omega), nn (by omega), nn (by omega), List.mem_cons_self .., nl _ _ _ (by omega) (by omega), nl _ _ _ (by omega) (by omega), nn (by omega), List.mem_cons_self .., nl _ _ _ (by omega) (by omega), nl _ _ _ (by omega) (by omega), nl _ _ _ (by omega) (by omega), nl _ _ _ (by omega) (by omega)⟩
theorem back : ∀ {xs : List V} {us : List Value} {i : Nat} {u : Value}, Vals xs us → us[i]? = some u → ∃ x, xs[i]? = some x ∧ RelV x u
  | _, _, _, _, .nil, e => by simp at e
  | _, _, 0, _, .cons r _, e => by simp at e; subst e; exact ⟨_, rfl, r⟩
  | _, _, i + 1, u, .cons _ t, e => by
    obtain ⟨x, h1, h2⟩ := back (i := i) (u := u) t (by simpa using e)
    exact ⟨x, by simpa using h1, h2⟩
/-- the list at a and the tuple at b as they stand at each turn, the items in new pairs -/
def ItzLT (K : PySem.W.Frag) (a b : Addr) : It :=
  ⟨fun i H => ∃ (xs ys : List V), SqL K H a xs ∧ SqT K H b ys ∧ i < min xs.length ys.length,
    fun i H v H' => ∃ T x y, v = .ref T ∧ H T = none ∧ H' = upd H T (.tup [x, y]) ∧ (∀ xs, SqL K H a xs → xs[i]? = some x) ∧ ∀ ys, SqT K H b ys → ys[i]? = some y,
    fun i H => ∃ xs ys : List V, SqL K H a xs ∧ SqT K H b ys ∧ i = min xs.length ys.length⟩
def ZiSt (a b z TI TO i1 i2 : Addr) (i : Nat) (h : Heap) : Prop :=
  IsZip h z TI TO .none ∧ IsTupOf2 h TI (.ref i1) (.ref i2) ∧ (∃ a1 a2, IsTupOf2 h TO a1 a2) ∧ h.IsListIter i1 a i ∧ h.IsTupleIter i2 b i
theorem in5 {c z TI TO i1 i2 : Addr} : c ∈ [z, TI, TO, i1, i2] ↔ c = z ∨ c = TI ∨ c = TO ∨ c = i1 ∨ c = i2 := by simp
theorem turn_zipLT {P : Program} {w : World} {K : PySem.W.Frag} {elts : List Expr} {kk : Nat} {tpos : Pos} {a b z TI TO i1 i2 : Addr} (D : ZipSep2 z TI TO i1 i2 [i1, a] [i2, b]) (na : a ≠ i1) (nb : b ≠ i2) :
    Turn P w K (.Tuple elts kk tpos) (ItzLT K a b) [z, TI, TO, i1, i2] z (ZiSt a b z TI TO i1 i2) where
  mem := in5.mpr (.inl rfl)
  obj := fun i h st c hc => by
    obtain ⟨h1, h2, ⟨x, y, h3⟩, ⟨o1, e1, _, d1⟩, ⟨o2, e2, _, d2⟩⟩ := st
    rcases in5.mp hc with q | q | q | q | q <;> subst q
    · exact ⟨_, h1, nofun⟩
    · exact ⟨_, h2, nofun⟩
    · exact ⟨_, h3, nofun⟩
    · exact ⟨o1, e1, fun v q => by rw [d1] at q; cases q⟩
    · exact ⟨o2, e2, fun v q => by rw [d2] at q; cases q⟩
  keep := fun i h h' st k => by
    obtain ⟨h1, h2, ⟨x, y, h3⟩, h4, h5⟩ := st
    exact ⟨k z (by simp) _ h1, k TI (by simp) _ h2, ⟨x, y, k TO (by simp) _ h3⟩, h4.at fun o q => k i1 (by simp) o q, h5.at fun o q => k i2 (by simp) o q⟩
  item := by
    intro X hP hw hK hc i pins s σ H E I hf st hg
    subst hP hw hK
    obtain ⟨xs, ys, hqx, hqy, hi⟩ := hg
    obtain ⟨its, rv, p, _⟩ := I.list hqx
    obtain ⟨its2, rv2, p2, _⟩ := I.tuple hqy
    have hh : X.A.in1.handled = none := I.ok.hd hc
    have W := WalksT.zipD2 (prog := X.prog) (w := X.w) D (Draws.list hh i1 a na its.toArray) (Draws.tuple hh i2 b nb its2.toArray)
    obtain ⟨h1, h2, h3, h4, h5⟩ := st
    have l1 := rv.length
    have l2 := rv2.length
    refine W.item i s _ _ (by simp only [List.size_toArray]; omega) ⟨h1, h2, h3, ⟨h4, p.isList⟩, ⟨h5, p2⟩⟩ fun T vals h' tk hv hT tup mid kk' => ⟨_, rfl, ?_⟩
    obtain ⟨x1, x2, y1, y2, rfl⟩ := hv
    have nT : T ∉ [z, TO, i1, i2] := W.apart _ _ _ mid
    refine W.go elts kk tpos i T { s with heap := h', toks := tk } _ _ mid fun h'' st'' k2 => ?_
    have tup2 : PyProof.Rows.IsTup h'' T #[x1, x2] := by
      obtain ⟨o, ho, r⟩ := tup
      exact ⟨o, k2 _ _ nT ho, r⟩
    have g1 : its[i]? = some x1 := by simpa using y1
    have g2 : its2[i]? = some x2 := by simpa using y2
    obtain ⟨v1, e1, r1⟩ := back rv g1
    obtain ⟨v2, e2, r2⟩ := back rv2 g2
    have new : ObjOk X.prog X.w (upd H T (.tup [v1, v2])) h'' T (.tup [v1, v2]) := ⟨by show 2 ≤ sizeLine; decide, [x1, x2], .cons r1 (.cons r2 .nil), tup2⟩
    have sub5 : ∀ c, c ∈ [z, TO, i1, i2] → c ∈ [z, TI, TO, i1, i2] := fun c hc => by
      have : c = z ∨ c = TO ∨ c = i1 ∨ c = i2 := by simpa using hc
      rcases this with q | q | q | q <;> subst q <;> simp
    have I1 : L2.Inv X pins σ (upd H T (.tup [v1, v2])) { s with heap := h'', toks := tk } := I.turnedNew (t' := tk) (ch := [z, TI, TO, i1, i2])
      (fun c o hb q => k2 c o (fun h => hb (sub5 c h)) (kk' c o (fun h => hb (sub5 c h)) q)) hf hT new
    obtain ⟨a1, a2, a3, a4, a5⟩ := st''
    refine ⟨.ref T, _, I1, rfl, ⟨T, v1, v2, rfl, I.hok.fresh hT, rfl, fun l hl => by rw [I.list_inj hl hqx]; exact e1, fun l hl => by rw [I.tuple_inj hl hqy]; exact e2⟩, ⟨a1, a2, a3, a4.1, a5.1⟩, fun c hcm => ?_⟩
    have hlt : c < s.heap.objs.size := by
      obtain ⟨x0, y0, h3⟩ := h3
      rcases in5.mp hcm with q | q | q | q | q <;> subst q
      · exact Heap.lt_size h1
      · exact Heap.lt_size h2
      · exact Heap.lt_size h3
      · obtain ⟨_, e, _⟩ := h4; exact Heap.lt_size e
      · obtain ⟨_, e, _⟩ := h5; exact Heap.lt_size e
    rw [upd_ne (Nat.ne_of_lt (Nat.lt_of_lt_of_le hlt hT))]
    exact (hf c hcm).1
  done := by
    intro X hP hw hK hc i pins s σ H E I hf st hg
    subst hP hw hK
    obtain ⟨xs, ys, hqx, hqy, hi⟩ := hg
    obtain ⟨its, rv, p, _⟩ := I.list hqx
    obtain ⟨its2, rv2, p2, _⟩ := I.tuple hqy
    have hh : X.A.in1.handled = none := I.ok.hd hc
    have W := WalksT.zipD2 (prog := X.prog) (w := X.w) D (Draws.list hh i1 a na its.toArray) (Draws.tuple hh i2 b nb its2.toArray)
    obtain ⟨h1, h2, h3, h4, h5⟩ := st
    have l1 := rv.length
    have l2 := rv2.length
    have hi' : i = min its.toArray.size its2.toArray.size := by simp only [List.size_toArray]; omega
    subst hi'
    refine W.done s _ _ ⟨h1, h2, h3, ⟨h4, p.isList⟩, ⟨h5, p2⟩⟩ fun h' tk k => ⟨rfl, I.turnedL (t' := tk) (ch := [z, TI, TO, i1, i2]) (fun c o hb q => k c o (fun h => hb ?_) q) hf⟩
    have : c = z ∨ c = TO ∨ c = i1 ∨ c = i2 := by simpa using h
    rcases this with q | q | q | q <;> subst q <;> simp
  self := fun A i s Q E st h => wpAny_pyIter_zip st.1 h
def iZipLT (K : PySem.W.Frag) (ta : TA) : TI := fun σ H R => ta σ H fun vs H1 => ∃ a b xs ys, vs = [.ref a, .ref b] ∧ SqL K H1 a xs ∧ SqT K H1 b ys ∧ R (ItzLT K a b) H1
theorem pi_zipLT {e e2 : Expr} {ta : TA} {p pos tpos : Pos} {elts : List Expr} {kk : Nat} (hg : Gl X "zip") (hm : X.mg "zip" = none) (ha : PA X [e, e2] ta)
    (hs : starEach [e, e2] X.env = (false, eval e X.env) :: starEach [e2] X.env := by rfl) (hpl : (backTo pos (starEach [e2] X.env)).any (·.1) = false := by rfl) :
    PI X (.Tuple elts kk tpos) (.Call (.Name "zip" p) [e, e2] [] pos) (iZipLT X.K ta) := by
  refine ⟨fun pins s σ H R I h => ?_⟩
  refine PyProof.Rows.Call_ (ld_blt I hg hm PyProof.Rows.boot_zip (PyProof.Rows.callWith_type1 (thn (ha.run pos pins s σ H _ I h) fun us s1 hv => ?_) hs hpl))
  obtain ⟨vs, H1, I1, r1, a, b, xs, ys, rfl, hqx, hqy, q⟩ := hv
  obtain ⟨u1, u2, rfl, ra, rb⟩ := vals2 r1
  cases ra
  cases rb
  obtain ⟨its, rv, p1, _⟩ := I1.list hqx
  obtain ⟨its2, rv2, p2, _⟩ := I1.tuple hqy
  have la : a < s1.heap.objs.size := by obtain ⟨o, e, _⟩ := p1.isList; exact Heap.lt_size e
  have lb : b < s1.heap.objs.size := by obtain ⟨o, e, _⟩ := p2; exact Heap.lt_size e
  have fr : ∀ c, s1.heap.objs.size ≤ c → FpOk X pins H1 c := fun c hc => I1.fpOk hc (I1.hok.fresh hc)
  generalize hn : s1.heap.objs.size = n at la lb fr
  have D := sep_nat n a b la lb
  refine zip_begins2 (begins_list a its.toArray) (begins_tuple b its2.toArray) p1.isList p2 fun h' hz hTI hTO h1 h2 hsz hk => wpAny_pyIter_zip hz ?_
  rw [hn] at hz hTI hTO h1 h2 hsz ⊢
  have I2 : L2.Inv X pins σ H1 { s1 with heap := h' } := I1.kept (t' := s1.toks) hk
  refine ⟨n + 4, [n + 4, n + 2, n + 3, n, n + 1], _, ItzLT X.K a b, H1, rfl, I2, turn_zipLT D (Nat.ne_of_lt la) (Nat.ne_of_lt (Nat.lt_succ_of_lt lb)), ⟨hz, hTI, ⟨_, _, hTO⟩, ⟨_, h1, rfl, rfl⟩, ⟨_, h2, rfl, rfl⟩⟩, fun c hc => fr c ?_, q⟩
  rcases in5.mp hc with q | q | q | q | q <;> subst q <;> first | exact Nat.le_refl _ | exact Nat.le_add_right _ _
end
/-! ### len(set(text)) -/
/-- the unlike signs, in the turn in which they are met -/
def uniq (l : Tx) : Tx := l.foldl (fun acc c => if c ∈ acc then acc else acc ++ [c]) []
theorem uniq_snoc (l : Tx) (c : Nat) : uniq (l ++ [c]) = if c ∈ uniq l then uniq l else uniq l ++ [c] := by
  unfold uniq
  rw [List.foldl_append]
  rfl
theorem mem_uniq (l : Tx) : ∀ c, c ∈ uniq l ↔ c ∈ l := by
  have key : ∀ (l acc : Tx) (c : Nat), c ∈ l.foldl (fun acc c => if c ∈ acc then acc else acc ++ [c]) acc ↔ c ∈ acc ∨ c ∈ l := by
    intro l
    induction l with
    | nil => intro acc c; simp
    | cons d l ih =>
      intro acc c
      rw [List.foldl_cons, ih]
      by_cases h : d ∈ acc
      · rw [if_pos h]
        constructor
        · rintro (h1 | h1)
          · exact .inl h1
          · exact .inr (List.mem_cons_of_mem _ h1)
        · rintro (h1 | h1)
          · exact .inl h1
          · rcases List.mem_cons.mp h1 with e | e
            · subst e; exact .inl h
            · exact .inr e
      · rw [if_neg h]
        simp only [List.mem_append, List.mem_cons, List.not_mem_nil, or_false, or_assoc]
  intro c
  rw [uniq, key]
  simp
theorem uniq_le (l : Tx) : (uniq l).length ≤ l.length := by
  have key : ∀ (l acc : Tx), (l.foldl (fun acc c => if c ∈ acc then acc else acc ++ [c]) acc).length ≤ acc.length + l.length := by
    intro l
    induction l with
    | nil => intro acc; simp
    | cons d l ih =>
      intro acc
      rw [List.foldl_cons]
      refine Nat.le_trans (ih _) ?_
      split
      · simp only [List.length_cons]; omega
      · simp only [List.length_append, List.length_cons, List.length_nil]; omega
  have := key l []
  rw [List.length_nil, Nat.zero_add] at this
  exact this
theorem uniq_nodup {l : Tx} (h : l.Nodup) : uniq l = l := by
  have key : ∀ (l acc : Tx), (acc ++ l).Nodup → l.foldl (fun acc c => if c ∈ acc then acc else acc ++ [c]) acc = acc ++ l := by
    intro l
    induction l with
    | nil => intro acc _; simp
    | cons d l ih =>
      intro acc h
      have hd : d ∉ acc := fun z => by
        have := (List.nodup_append.mp h).2.2
        exact this d z d (List.mem_cons_self ..) rfl
      rw [List.foldl_cons, if_neg hd, ih (acc ++ [d]) (by rw [List.append_assoc]; exact h), List.append_assoc]
      rfl
  simpa [uniq] using key l [] (by simpa using h)
section
variable {P : Program} {w : World} {A : Around} {R : Result → Shared → Prop} {I : Addr} {St : Nat → Heap → Prop}
/-- what the set at a holds: the signs of l -/
def SetSigns (P : Program) (w : World) (h : Heap) (a : Addr) (l : Tx) : Prop := h.SetOf (PySem.strKind P w) a (fun k => (uniq l).any fun c => decide (k = S [c])) (uniq l).length
theorem fill_set (l : Tx) (hz : l.length ≤ 1000) (W : Walks P w A.in1 I [I] [I] (S l).cps.size (SignAt (S l)) St) (a : Addr) (ha : a ≠ I) :
    ∀ (k i : Nat) (s : Shared), i + k = l.length → St i s.heap → SetSigns P w s.heap a (l.take i) →
      (∀ h' tk, (∀ b o, b ≠ a → b ≠ I → s.heap.get? b = some o → h'.get? b = some o) → SetSigns P w h' a l → R (.ok (.ret .none)) { s with heap := h', toks := tk }) →
      codeAny (model P w) A (.builtin "set.update.loop" ⟨[.ref a, .ref I], []⟩) R s := by
  intro k
  induction k with
  | zero =>
    intro i s hk st hS hR
    refine codeAny_builtin PyProof.Rows.F.entry_set_update_loop ?_
    rw [Around.under_plainId PyProof.Rows.F.plain_set_update_loop _]
    show wpAny _ A.in1 (pyNext (.ref I) >>= _) _ _ s
    have e : i = (S l).cps.size := by rw [S_size]; omega
    subst e
    refine wpAny_bind (W.done s _ _ st fun h' tk kp => ?_)
    refine wpAny_pure (hR h' tk (fun b o _ hb e => kp b o (by simpa using hb) e) ?_)
    rw [S_size, List.take_length] at hS
    obtain ⟨o, es, ep, t, ho, rest⟩ := hS
    exact ⟨o, es, ep, t, kp a o (by simpa using ha) ho, rest⟩
  | succ k ih =>
    intro i s hk st hS hR
    refine codeAny_builtin PyProof.Rows.F.entry_set_update_loop ?_
    rw [Around.under_plainId PyProof.Rows.F.plain_set_update_loop _]
    show wpAny _ A.in1 (pyNext (.ref I) >>= _) _ _ s
    refine wpAny_bind (W.item i s _ _ (by rw [S_size]; omega) st fun v h1 tk1 hv st1 kp => ?_)
    obtain ⟨c, t, hc, rfl⟩ := hv
    have hc' : l[i]? = some c := by simpa [S] using hc
    have hS1 : SetSigns P w h1 a (l.take i) := by
      obtain ⟨o, es, ep, tb, ho, rest⟩ := hS
      exact ⟨o, es, ep, tb, kp a o (by simpa using ha) ho, rest⟩
    show wpAny _ A.in1 (holding [Value.str (S [c]) t] (setAdd a (.str (S [c]) t)) >>= _) _ _ { s with heap := h1, toks := tk1 }
    refine wpAny_bind (wpAny_holding ?_)
    unfold setAdd
    refine wpAny_holding (wpAny_bind ((PySem.strKind P w).pyHash (k := S [c]) (strKind_is _ _ _ _) ?_))
    have room : (uniq (l.take i)).length + 1 < scanBound := by
      have h1 := uniq_le (l.take i)
      have h2 : (l.take i).length ≤ l.length := by rw [List.length_take]; omega
      unfold scanBound
      omega
    refine wpAny_setAddHashed_of (knd := PySem.strKind P w) (s := { s with heap := h1, toks := tk1 + 1 }) (strKind_is _ _ _ _) rfl hS1 room fun h2 sb hS2 => ?_
    have tk' : l.take (i + 1) = l.take i ++ [c] := by
      rw [List.take_add_one, hc']
      rfl
    have hS3 : SetSigns P w h2 a (l.take (i + 1)) := by
      refine PyProof.Rows.SetOf_congr hS2 (fun k' => ?_) ?_
      · rw [tk', uniq_snoc]
        by_cases m : c ∈ uniq (l.take i)
        · rw [if_pos m]
          by_cases e : k' = S [c]
          · subst e
            have : ((uniq (l.take i)).any fun d => decide (S [c] = S [d])) = true := List.any_eq_true.mpr ⟨c, m, by simp⟩
            rw [this]
            rfl
          · rw [decide_eq_false e, Bool.or_false]
        · rw [if_neg m, List.any_append]
          simp
      · rw [tk', uniq_snoc]
        by_cases m : c ∈ uniq (l.take i)
        · rw [if_pos m]
          have : ((uniq (l.take i)).any fun d => decide (S [c] = S [d])) = true := List.any_eq_true.mpr ⟨c, m, by simp⟩
          rw [if_pos this]
        · rw [if_neg m]
          have : ¬ ((uniq (l.take i)).any fun d => decide (S [c] = S [d])) = true := fun z => by
            obtain ⟨d, hd, e⟩ := List.any_eq_true.mp z
            have : [c] = [d] := S_inj.mp (of_decide_eq_true e)
            cases this
            exact m hd
          rw [if_neg this]
          simp
    have st2 : St (i + 1) h2 := W.frame _ h1 _ st1 fun b hb o e => by
      have e' : b = I := by simpa using hb
      subst e'
      exact (sb.2 b (Ne.symm ha)).trans e
    refine wpAny_pure ⟨plainId_quiet PyProof.Rows.F.plain_set_update_loop _, ih (i + 1) _ (by omega) st2 hS3 fun h3 tk3 kp3 hS4 => ?_⟩
    refine hR h3 tk3 (fun b o h1' h2' e => kp3 b o h1' h2' ?_) hS4
    exact (sb.2 b h1').trans (kp b o (by simpa using h2') e)
end
theorem sub_str_set : isSubtype (.type "str") (.type "set") = pure false := by rw [isSubtype_type]; kernel_rfl
theorem sub_str_frozenset : isSubtype (.type "str") (.type "frozenset") = pure false := by rw [isSubtype_type]; kernel_rfl
section
variable {P : Program} {w : World} {A : Around} {E : Value → Shared → Prop} {s : Shared}
theorem call_set_text (hh : A.handled = none) (l : Tx) (t : Tok) (hz : l.length ≤ 1000) {Q : Value → Shared → Prop}
    (h : ∀ (h' : Heap) (tk : Nat), SetSigns P w h' s.heap.objs.size l → (∀ b o, s.heap.get? b = some o → h'.get? b = some o) → Q (.ref s.heap.objs.size) { s with heap := h', toks := tk }) :
    wpAny (model P w) A (call (.type "set") [.str (S l) t]) Q E s := by
  obtain ⟨c, tl, hmro⟩ := PySem.F.called_set.mro
  have hmade := PySem.F.called_set.made
  have hsub := PySem.F.called_set.sub
  refine wpAny_call (codeAny_of_tree ?_)
  show wpAny _ _ (callAny (.type "set") _) _ _ _
  refine wpAny_pure ⟨Code.quiet_builtin _ (by decide +kernel), codeAny_builtin PySem.F.entry_type_call ?_⟩
  rw [Around.under_plain (weight_type_call_type "set" [.str (S l) t] []) rfl]
  have q1 := PySem.F.called_set.notType
  have q2 := PySem.F.called_set.canCreate
  have q3 := PySem.F.typeCall_set_1 (.str (S l) t)
  repeat (any_goals (first | assumption | wp_step))
  refine codeAny_mono (PySem.code_set_new_1 (.str (S l) t) (E := E) (Q₁ := fun obj s₁ => ∃ led : Bool, obj = .ref s.heap.objs.size ∧ s₁ = { s with heap := s.heap.push { cls := .type "set", dict := none, data := .set #[] 0 (.fresh 0 0 led) } }) fun led => ⟨led, rfl, rfl⟩) fun r s₁ hr => ?_
  cases r with
  | error e => exact hr
  | ok fl =>
    cases fl with
    | ret obj =>
      obtain ⟨led, rfl, rfl⟩ := hr
      have hS : (s.heap.push { cls := .type "set", dict := none, data := .set #[] 0 (.fresh 0 0 led) }).get? s.heap.objs.size = some { cls := .type "set", dict := none, data := .set #[] 0 (.fresh 0 0 led) } := Heap.get?_push_size _ rfl
      have hT : Shared.TypeIs { s with heap := s.heap.push { cls := .type "set", dict := none, data := .set #[] 0 (.fresh 0 0 led) } } (.ref s.heap.objs.size) "set" := ⟨_, hS, rfl⟩
      have q4 := PySem.F.called_set.init.lookup
      have q5 := PySem.F.called_set.init.bind (.ref s.heap.objs.size)
      repeat (any_goals (first | assumption | wp_step))
      refine codeAny_mono (codeAny_call_builtin (R := wants (fun r s₂ => r = .none ∧ ∃ h' tk, s₂ = { s with heap := h', toks := tk } ∧ SetSigns P w h' s.heap.objs.size l ∧
          (∀ b o, s.heap.get? b = some o → h'.get? b = some o)) E) PySem.F.called_set.init.plain PySem.F.entry_set_init (PySem.check_set_init_1 hT ?_)) fun r₂ s₂ hr₂ => ?_
      · have q6 := sub_str_set
        have q7 := sub_str_frozenset
        have q8 : (Value.type "str" == Value.type "dict") = false := by decide
        unfold Builtin.«set.__init__» noKeywords Builtin.Frozenset.updateFrom
        generalize hPI : pyIter = PI
        wp_walk
        subst hPI
        refine wpAny_pyIter_str fun o St W st => ?_
        refine wpAny_bind (wpAny_runValue ?_)
        have sz : (s.heap.push { cls := .type "set", dict := none, data := .set #[] 0 (.fresh 0 0 led) }).objs.size = s.heap.objs.size + 1 := Heap.size_push _ _
        have na : s.heap.objs.size ≠ (s.heap.push { cls := .type "set", dict := none, data := .set #[] 0 (.fresh 0 0 led) }).objs.size := by
          rw [sz]; exact Nat.ne_of_lt (Nat.lt_succ_self _)
        refine fill_set l hz (W _ (by simp [hh])) s.heap.objs.size na l.length 0 _ (Nat.zero_add _) st ?_ fun h' tk kp hS' => ?_
        · have hget := Heap.get?_push_of_some o hS
          exact PyProof.Rows.SetOf_congr ((PyProof.Rows.setObjOf_fresh (knd := PySem.strKind P w) led).setOf hget (by unfold scanBound; omega)) (fun _ => rfl) rfl
        · refine wpAny_pure ?_
          show wpAny _ _ (ret Value.none) _ _ _
          refine wpAny_pure ⟨rfl, h', tk, rfl, hS', fun b ob e => ?_⟩
          have lt := Heap.lt_size e
          refine kp b ob (Nat.ne_of_lt lt) ?_ (Heap.get?_push_of_some _ (Heap.get?_push_of_some _ e))
          show b ≠ _
          rw [sz]
          exact Nat.ne_of_lt (Nat.lt_succ_of_lt lt)
      · cases r₂ with
        | error e => exact hr₂
        | ok fl₂ =>
          cases fl₂ with
          | ret r =>
            obtain ⟨rfl, h', tk, rfl, hS', hk'⟩ := hr₂
            repeat (any_goals (first | assumption | wp_step))
            exact h _ _ hS' hk'
          | _ => exact hr₂.elim
    | _ => exact hr.elim
end
section
variable {X : Cx}
def tLenSetS (ta : TE) : TE := fun σ H Q => ta σ H fun x H1 => ∃ l : Tx, x = .str (S l) ∧ l.length ≤ 1000 ∧ Q (.int ((uniq l).length : Nat)) H1
theorem pe_lenSetS {a : Expr} {ta : TE} {p p2 q pos : Pos} (hc : X.calm = true) (hg : Gl X "len") (hm : X.mg "len" = none) (hg2 : Gl X "set") (hm2 : X.mg "set" = none) (ha : PE X a ta)
    (na : starEach [a] X.env = (false, eval a X.env) :: starEach [] X.env := by rfl) : PE X (.Call (.Name "len" p) [.Call (.Name "set" p2) [a] [] q] [] pos) (tLenSetS ta) := by
  refine ⟨fun pins s σ H Q I h => ?_⟩
  refine PyProof.Rows.Call_ (ld_blt I hg hm boot_len (PyProof.Rows.callWith_builtin1 (PyProof.Rows.args_cons ?_ rfl) rfl rfl))
  refine PyProof.Rows.Call_ (ld_blt I hg2 hm2 PyProof.Rows.boot_set (PyProof.Rows.callWith_type1 (PyProof.Rows.args_cons (thn (ha.run pins s σ H _ I h) fun v s1 hv => PyProof.Rows.args_nil ?_) na) na rfl))
  obtain ⟨x, H1, I1, r1, l, rfl, hl, q1⟩ := hv
  obtain ⟨t, rfl⟩ := r1
  refine call_set_text (I1.ok.hd hc) l t hl fun h' tk hS hk => PyProof.Rows.args_nil ?_
  obtain ⟨o, es, ep, tb, ho, hex, hd, _, _, _, hf, hn⟩ := hS
  have I2 : L2.Inv X pins σ H1 { s1 with heap := h', toks := tk } := I1.kept hk
  have hz := Nat.le_trans (uniq_le l) hl
  exact call_len_set ho hex hd hf (by rw [hn] <;> omega) ⟨.int ((uniq l).length : Nat), H1, I2.tok _, ⟨_, by rw [hn]⟩, q1⟩
end
end Qw

set_option Elab.async false
set_option linter.all false
set_option maxRecDepth 100000
set_option maxHeartbeats 4000000
namespace Qw
open PySem L2
local macro_rules | `(tactic| walk_at "rd") => `(tactic| simp only [tRevL, rSlS, rSlL, gSub, rSetL, wipe, List.map_cons, List.map_nil, rAll, rAny, rIsi, tM1, tM0, iZipLT, iZip, iRng2, tLenSetS, rListStr, rMulS, rCntB, tRevS, rNeD, rEqD, tSeq, tNext, tAsg, tRet, tRetN, tDrop, tIfS, sFld, sFldAug, tVar, tC, tOp, tUn, tTest, tB, tAnd, tOr, tNot, tAndV, tOrV, tNotV, tIf, tTup, tLst, tCons, tNil, tCB, tCall, tMeth, tMake, tFld, rI, rI0, rU, rEq, rNe, rCat, gName, gTup, gCons, gNil, tPar, tPar3, tBM, tBM0, rAppend, rExtend, rPopAt, rIxL, rIxT, rIxS, tSl, rSlS, rSlL, tPart, tNoPart, iStr, iTup, iList, iRng1, tAug, ipI, L2.rAdd, L2.rSub, L2.rAddS, tChain, rIsB, rNotB, scal_ss, scal_ii, scal_bb, scal_nn, scal_in, scal_ni, tYes,
  cx_K, cx_N, List.getElem?_cons_zero, List.getElem?_cons_succ, List.set_cons_zero, List.set_cons_succ, List.nil_append, List.cons_append, List.append_nil, List.length_cons, List.length_nil, Nat.zero_add,
  Option.some.injEq, V.ref.injEq, V.int.injEq, V.str.injEq, V.bl.injEq, HO.ins.injEq, HO.lst.injEq, HO.tup.injEq, List.cons.injEq, exists_eq_left, exists_eq_left', exists_eq_right, exists_eq_right', and_true, true_and, exists_and_left, exists_and_right, and_assoc, decide_eq_true_eq, Bool.not_eq_true', decide_eq_false_iff_not, reduceCtorEq, exists_const, forall_const, if_true, if_false, false_and, and_false, ite_true, ite_false, Bool.true_eq_false, Bool.false_eq_true, Nat.reduceLeDiff, Nat.reduceAdd, small_line, small_lt, upd_ne, ne_eq, not_false_eq_true, Nat.zero_le, Prod.mk.injEq, upd_same, upd_upd, S_tl, S_len, S_app, S_one, S_inj,
  lk_breaks, lk_hard, lk_soft, lk_bend, lk_note, lk_rules, lk_state, lk_bent, lk_word, lk_begun, lk_opened, lk_place, pt_state, pt_bent, pt_word, pt_wordS, pt_wordN, pt_begun, pt_opened, pt_place, pt_place1, len_mf, litv_empty, litv_note, litv_nl, mf_inj, rf_inj, lkn_begin, lkn_ended, lkn_plain, lkn_quoted, lkn_step, lkn_fault, lkn_key, lkn_told, lkn_quotes, lkn_special, pt_open1, not_true_eq_false, not_false_eq_true])
local macro_rules | `(tactic| walk_at "rdh") => `(tactic| simp only [tRevL, rSlS, rSlL, gSub, rSetL, wipe, List.map_cons, List.map_nil, rAll, rAny, rIsi, tM1, tM0, iZipLT, iZip, iRng2, tLenSetS, rListStr, rMulS, rCntB, tRevS, rNeD, rEqD, tSeq, tNext, tAsg, tRet, tRetN, tDrop, tIfS, sFld, sFldAug, tVar, tC, tOp, tUn, tTest, tB, tAnd, tOr, tNot, tAndV, tOrV, tNotV, tIf, tTup, tLst, tCons, tNil, tCB, tCall, tMeth, tMake, tFld, rI, rI0, rU, rEq, rNe, rCat, gName, gTup, gCons, gNil, tPar, tPar3, tBM, tBM0, rAppend, rExtend, rPopAt, rIxL, rIxT, rIxS, tSl, rSlS, rSlL, tPart, tNoPart, iStr, iTup, iList, iRng1, tAug, ipI, L2.rAdd, L2.rSub, L2.rAddS, tChain, rIsB, rNotB, scal_ss, scal_ii, scal_bb, scal_nn, scal_in, scal_ni, tYes,
  cx_K, cx_N, List.getElem?_cons_zero, List.getElem?_cons_succ, List.set_cons_zero, List.set_cons_succ, List.nil_append, List.cons_append, List.append_nil, List.length_cons, List.length_nil, Nat.zero_add,
  Option.some.injEq, V.ref.injEq, V.int.injEq, V.str.injEq, V.bl.injEq, HO.ins.injEq, HO.lst.injEq, HO.tup.injEq, List.cons.injEq, exists_eq_left, exists_eq_left', exists_eq_right, exists_eq_right', and_true, true_and, exists_and_left, exists_and_right, and_assoc, decide_eq_true_eq, Bool.not_eq_true', decide_eq_false_iff_not, reduceCtorEq, exists_const, forall_const, if_true, if_false, false_and, and_false, ite_true, ite_false, Bool.true_eq_false, Bool.false_eq_true, Nat.reduceLeDiff, Nat.reduceAdd, small_line, small_lt, upd_ne, ne_eq, not_false_eq_true, Nat.zero_le, Prod.mk.injEq, upd_same, upd_upd, S_tl, S_len, S_app, S_one, S_inj,
  lk_breaks, lk_hard, lk_soft, lk_bend, lk_note, lk_rules, lk_state, lk_bent, lk_word, lk_begun, lk_opened, lk_place, pt_state, pt_bent, pt_word, pt_wordS, pt_wordN, pt_begun, pt_opened, pt_place, pt_place1, len_mf, litv_empty, litv_note, litv_nl, mf_inj, rf_inj, lkn_begin, lkn_ended, lkn_plain, lkn_quoted, lkn_step, lkn_fault, lkn_key, lkn_told, lkn_quotes, lkn_special, pt_open1, not_true_eq_false, not_false_eq_true, *])
local macro_rules | `(tactic| walk_at "pl") => `(tactic| (first | decide | (refine Nat.lt_of_le_of_lt (length_putF _ _ _) ?_; repeat (first | decide | refine pl2 ?_))))
local macro_rules | `(tactic| walk_at "al") => `(tactic| (intro p hp; generalize hH : upd _ p _ = H1; obtain ⟨S, e⟩ := gen_new hH hp; clear hH))
theorem walk_zipLT {K : PySem.W.Frag} {p q : Addr} {xs ys : List V} {n : Nat} (hn : n = min xs.length ys.length) : Walk (ItzLT K p q) n (fun H => SqL K H p xs ∧ SqT K H q ys) (YPair (fun i => xs[i]?) (fun i => ys[i]?)) := by
  subst hn
  refine ⟨fun i H hi g => ⟨xs, ys, g.1, g.2, hi⟩, fun H g => ⟨xs, ys, g.1, g.2, rfl⟩, ?_⟩
  rintro i H v H' hi g ⟨T, x, y, h1, h2, h3, h4, h5⟩
  exact ⟨T, x, y, h1, h2, h3, h4 _ g.1, h5 _ g.2⟩
def WF (p q : Addr) : List (Str × V) := [("words", .ref p), ("places", .ref q)]
theorem Paired.at' {α β : Type} {F : α → β → Prop} : ∀ {l : List α} {m : List β} {i : Nat} {x : α} {y : β}, Paired F l m → m[i]? = some y → l[i]? = some x → F x y
  | _, _, 0, _, _, .cons r _, h1, h2 => by cases h1; cases h2; exact r
  | _, _, i + 1, _, _, .cons _ t, h1, h2 => Paired.at' t (by simpa using h1) (by simpa using h2)
  | _, _, _, _, _, .nil, h1, _ => by simp at h1
theorem fnds_pl {H : Hp} : ∀ {xs : List V} {ds : List W3}, Fnds H xs ds → ∃ us : List V, us.length = ds.length ∧ Paired (Pls H) us (ds.map fun d => ((d.2.1 : Int), (d.2.2 : Int))) ∧
    ∀ (i : Nat) (x u : V), xs[i]? = some x → us[i]? = some u → ∃ b w, x = .ref b ∧ H b = some (.tup [w, u])
  | _, _, .nil => ⟨[], rfl, .nil, fun i x u h _ => by simp at h⟩
  | _, _, .cons r t => by
    obtain ⟨us, h1, h2, h3⟩ := fnds_pl t
    obtain ⟨b, u, rfl, g1, g2⟩ := r
    refine ⟨.ref u :: us, by simp [h1], .cons ⟨u, rfl, g2⟩ h2, fun i x v e1 e2 => ?_⟩
    match i, e1, e2 with
    | 0, e1, e2 => cases e1; cases e2; exact ⟨b, _, rfl, g1⟩
    | i + 1, e1, e2 => exact h3 i x v (by simpa using e1) (by simpa using e2)
/-- what split tells, at a new object: its lists are new -/
def Ansd (a : Ad) (H H' : Hp) (p : Addr) (x : Told) : Prop := match x with
  | .error n => ∃ dx, H' p = some (.ins a.c_Fault dx [("place", .int n)])
  | .ok (ws, ps) => ∃ dx l1 l2 ys, H' p = some (.ins a.c_Words dx (WF l1 l2)) ∧ H' l1 = some (.lst (ws.map fun w => .str (S w))) ∧ H' l2 = some (.lst ys) ∧ Paired (Pls H') ys ps ∧ H l1 = none ∧ H l2 = none ∧ l1 ≠ l2
section
variable {P : Program} {w : World} {K : PySem.W.Frag} {mg : Str → Option Value} {base : Heap} {a : Ad}
def sp_are_signs (a : Ad) : Sp := fun vs H Q _ => ∃ t, vs = [.str (S t)] ∧ t.length ≤ 50000 ∧ ∀ H', Same H H' → Q (.bl (t.all sgn)) H'
theorem ok_are_signs (T : Txt K mg a) : FnOk P w K mg base CX0 1 a.f_are_signs a.d_are_signs P_are_signs (sp_are_signs a) := by
  refine T.F_are_signs.ok sc_are_signs (fun vs H Q E h => ?_) (fun cdv A outer s H vs Q E hr h => ?_)
  · obtain ⟨t, rfl, _⟩ := h
    rfl
  · obtain ⟨t, rfl, ht, k⟩ := h

    refine ⟨_,
(pss_one (ps_ret (pe_and (pe_callB (call_isi) (by rfl) T.b_isinstance (by decide +kernel) (pa_cons (pv 0) (pa_cons (pe_bltn (v := .ty "str") (u := .type "str") rfl T.b_str (by decide +kernel) rfl) pa_nil))) (pe_one (pe_callB (cr_all rfl) (by rfl) T.b_all (by decide +kernel) (pa_cons (pe_lc (own := [("sign", 1)]) (g := gName 1) (tt := tYes) rfl sc_are_signs.nd (pi_str (pv 0)) (blkOk_by (own := [("sign", 1)]) (N := N_are_signs) (sc := defScope st_are_signs) (by decide +kernel)) (fun _ _ _ _ _ => (pg_name (i := 1) sc_are_signs.nd rfl (Or.inl rfl))) (fun _ _ _ _ _ => pts_nil) (fun _ _ _ _ _ => (pe_or (pe_chain op_le_str op_le_str pe_str (pv 1) pe_str) (pe_one (pe_cmpR op_eq (pv 1) (pe_glob (v := .str ("\n" : Str)) rfl T.g_LINE_END ⟨_, rfl⟩) (nomark _)))))) pa_nil))))))
      , ?_⟩
    rw [show start N_are_signs [V.str (S t)] = [some (.str (S t)), none] from rfl]
    walk_at "rdh"
    refine ⟨_, _, .ty _, .base (.str _), _, kit_ty (b := "str") (r := true) (by decide +kernel), ?_⟩
    refine iteT (tlc_map t (fun c => .bl (sgn c)) (J := Its (S t)) (H1 := H) (fun R hR => ?_) walk_text (by omega) (fun _ _ => trivial) ?_ ?_)
    · exact ⟨_, rfl, _, rfl, hR⟩
    · rintro R R' i c x H2 H3 hi s1 ⟨rfl, c', hc, rfl⟩ hR
      rw [hi] at hc
      cases hc
      walk_at "rdh"
      rw [show (Str.ofString " ").cps.toList = [32] by decide +kernel, show (Str.ofString "~").cps.toList = [126] by decide +kernel]
      have e1 := one_lt c 32
      have e2 := one_lt 126 c
      rw [sgn] at hR
      have hR := hR H3 (Same.refl _)
      refine ite2 (fun c1 => ?_) (fun c1 => ?_)
      · rw [e1] at c1
        refine ite2 (fun c2 => ?_) (fun c2 => ?_)
        · rw [e2] at c2
          rw [decide_eq_true (show 32 ≤ c ∧ c ≤ 126 by omega)] at hR
          exact hR
        · rw [e2] at c2
          rw [decide_eq_false (show ¬ (32 ≤ c ∧ c ≤ 126) by omega)] at hR
          exact hR
      · rw [e1] at c1
        rw [decide_eq_false (show ¬ (32 ≤ c ∧ c ≤ 126) by omega)] at hR
        exact hR
    · intro D H2 hD s1 e
      walk_at "rdh"
      refine ⟨t.map sgn, .inl (.inl (by rw [List.map_map]; exact e)), ?_⟩
      rw [List.all_map]
      exact k H2 s1
def sp_Rules_init (a : Ad) : Sp := fun vs H Q _ => ∃ p dx r, vs = [.ref p, .str (S r.breaks), .str (S r.hard), .str (S r.soft), .str (S r.bend), .str (S r.note)] ∧ r.Ok ∧ H p = some (.ins a.c_Rules dx []) ∧
  ∀ H', H' p = some (.ins a.c_Rules dx (RS.f r)) → Kp p H H' → Q .non H'
theorem ok_Rules_init (T : Txt K mg a) : FnOk P w K mg base CX0 2 a.f_Rules_init a.d_Rules_init P_Rules_init (sp_Rules_init a) := by
  refine T.F_Rules_init.ok sc_Rules_init (fun vs H Q E h => ?_) (fun cdv A outer s H vs Q E hr h => ?_)
  · obtain ⟨p, dx, r, rfl, _⟩ := h
    rfl
  · obtain ⟨p, dx, r, rfl, ok, hM, k⟩ := h
    have G_are_signs := ok_are_signs (P := P) (w := w) (base := base) T
    have B_are_signs := bi_are_signs T
    refine ⟨_,
(pss_cons (ps_set (i := 6) sc_Rules_init.nd rfl (by first | exact Or.inl rfl | exact Or.inr rfl) (pe_lst (pa_cons (pv 1) (pa_cons (pv 2) (pa_cons (pv 3) (pa_cons (pv 4) (pa_cons (pv 5) pa_nil)))))))
    (pss_cons (ps_if (PW.pt (pw_or (pt_not (pt_val (pe_callB (cr_all rfl) (by rfl) T.b_all (by decide +kernel) (pa_cons (pe_lc (own := [("part", 8), ("most", 9)]) (g := gTup _ 2 (gCons (gName 8) (gCons (gName 9) (gNil)))) (tt := tYes) rfl sc_Rules_init.nd (pi_zipLT rfl T.b_zip (pa_cons (pv 6) (pa_cons (pe_glob (v := .ref a.a_MOST) rfl T.g_MOST rfl) pa_nil))) (blkOk_by (own := [("part", 8), ("most", 9)]) (N := N_Rules_init) (sc := defScope st_Rules_init) (by decide +kernel)) (fun _ _ _ _ _ => (pg_tup rfl (pgs_cons (pg_name (i := 8) sc_Rules_init.nd rfl (Or.inl rfl)) (pgs_cons (pg_name (i := 9) sc_Rules_init.nd rfl (Or.inl rfl)) pgs_nil)))) (fun _ _ _ _ _ => pts_nil) (fun _ _ _ _ _ => (pe_and (pe_call G_are_signs (hr.mono (by decide)) rfl T.f_are_signs.g T.f_are_signs.k B_are_signs .nil pass0 (pa_cons (pv 8) pa_nil)) (pe_one (pe_cmpR op_le (pe_callB call_len_str (by rfl) T.b_len PySem.boot_len (pa_cons (pv 8) pa_nil)) (pv 9) (nomark _)))))) pa_nil)))) (pw_or1 (pt_cmpR op_eq (pv 1) pe_str (nomark _))))) (pss_one ps_never) pss_nil)
    (pss_cons (ps_set (i := 7) sc_Rules_init.nd rfl (by first | exact Or.inl rfl | exact Or.inr rfl) (pe_join pe_str (pv 6)))
    (pss_cons (ps_if (pt_cmpR op_lt (pe_lenSetS rfl rfl T.b_len rfl T.b_set (pv 7)) (pe_callB call_len_str (by rfl) T.b_len PySem.boot_len (pa_cons (pv 7) pa_nil)) (nomark _)) (pss_one ps_never) pss_nil)
    (pss_cons (ps_fld (pv 0) (pv 1) rfl)
    (pss_cons (ps_fld (pv 0) (pv 2) rfl)
    (pss_cons (ps_fld (pv 0) (pv 3) rfl)
    (pss_cons (ps_fld (pv 0) (pv 4) rfl)
    (pss_one (ps_fld (pv 0) (pv 5) rfl))))))))))
      , ?_⟩
    rw [show start N_Rules_init [V.ref p, V.str (S r.breaks), V.str (S r.hard), V.str (S r.soft), V.str (S r.bend), V.str (S r.note)] = [some (.ref p), some (.str (S r.breaks)), some (.str (S r.hard)), some (.str (S r.soft)), some (.str (S r.bend)), some (.str (S r.note)), none, none, none, none] from rfl]
    have hc := T.c_Rules.cl
    have n1 := T.n_Rules_breaks
    have n2 := T.n_Rules_hard
    have n3 := T.n_Rules_soft
    have n4 := T.n_Rules_bend
    have n5 := T.n_Rules_note
    walk_at "rd"
    intro l hl
    have S1 := same_new (o := HO.lst [V.str (S r.breaks), V.str (S r.hard), V.str (S r.soft), V.str (S r.bend), V.str (S r.note)]) hl
    have hL : upd H l (HO.lst [V.str (S r.breaks), V.str (S r.hard), V.str (S r.soft), V.str (S r.bend), V.str (S r.note)]) l = _ := upd_same
    generalize upd H l (HO.lst [V.str (S r.breaks), V.str (S r.hard), V.str (S r.soft), V.str (S r.bend), V.str (S r.note)]) = H1 at *
    have sm := T.s_MOST
    refine tlc_map (α := Tx × Int) [(r.breaks, 4), (r.hard, 2), (r.soft, 2), (r.bend, 1), (r.note, 1)] (fun _ => .bl true) (J := ItzLT K l a.a_MOST) (H1 := H1)
      (G := fun H => SqL K H l [V.str (S r.breaks), V.str (S r.hard), V.str (S r.soft), V.str (S r.bend), V.str (S r.note)] ∧ SqT K H a.a_MOST [.int 4, .int 2, .int 2, .int 1, .int 1]) (fun R hR => ?_) (walk_zipLT rfl) (by simp only [List.length_cons, List.length_nil]; omega) (fun H s => ⟨.inl (.inl (s _ _ hL)), sm H⟩) ?_ ?_
    · walk_at "rd"
      exact ⟨⟨_, .inl (.inl hL)⟩, ⟨_, sm _⟩, hR⟩
    · rintro R R' i ⟨c, n⟩ x H2 H3 hi s1 ⟨t, x, y, rfl, ht, rfl, hx, hy⟩ hR
      have hxy : x = .str (S c) ∧ y = .int n ∧ c.all sgn = true ∧ (c.length : Int) ≤ n ∧ n ≤ 4 := by
        have hs := ok.sg
        simp only [RS.every, List.all_append, Bool.and_eq_true] at hs
        obtain ⟨s1, s2, s3, s4, s5⟩ := hs
        match i, hi, hx, hy with
        | 0, hi, hx, hy => cases hi; cases hx; cases hy; exact ⟨rfl, rfl, s1, by have := ok.l1; omega, by decide⟩
        | 1, hi, hx, hy => cases hi; cases hx; cases hy; exact ⟨rfl, rfl, s2, by have := ok.l2; omega, by decide⟩
        | 2, hi, hx, hy => cases hi; cases hx; cases hy; exact ⟨rfl, rfl, s3, by have := ok.l3; omega, by decide⟩
        | 3, hi, hx, hy => cases hi; cases hx; cases hy; exact ⟨rfl, rfl, s4, by have := ok.l4; omega, by decide⟩
        | 4, hi, hx, hy => cases hi; cases hx; cases hy; exact ⟨rfl, rfl, s5, by have := ok.l5; omega, by decide⟩
      obtain ⟨rfl, rfl, g1, g2, g3⟩ := hxy
      walk_at "rdh"
      refine ⟨_, .inl (.inl upd_same), rfl, _, _, rfl, _, _, rfl, rfl, c, rfl, by omega, fun H4 s4 => ?_⟩
      walk_at "rdh"
      exact ⟨Nat.le_trans (show c.length ≤ 4 by omega) (by decide), hR _ ((same_new ht).trans s4)⟩
    · intro D H2 hD s1 e
      walk_at "rdh"
      refine ⟨[true, true, true, true, true], .inl (.inl e), ?_⟩
      refine ite2 (fun c => absurd c (by decide)) (fun _ => ?_)
      have ne := ok.ne
      walk_at "rdh"
      have ev : r.every.length ≤ 10 := by
        have h1 := ok.l1; have h2 := ok.l2; have h3 := ok.l3; have h4 := ok.l4; have h5 := ok.l5
        simp only [RS.every, List.length_append]; omega
      have jn : Txt.join (S []) [S r.breaks, S r.hard, S r.soft, S r.bend, S r.note] = S r.every := by
        have := join_flat [r.breaks, r.hard, r.soft, r.bend, r.note]
        simpa [RS.every] using this
      have hp := S1 _ _ hM
      have hp2 := s1 _ _ hp
      refine ⟨⟨_, rfl⟩, [S r.breaks, S r.hard, S r.soft, S r.bend, S r.note], .inl (.inl (.inl (s1 _ _ hL))), ?_, ?_⟩
      · have h1 := ok.l1; have h2 := ok.l2; have h3 := ok.l3; have h4 := ok.l4; have h5 := ok.l5
        simp only [List.map_cons, List.map_nil, List.sum_cons, List.sum_nil, S_len, List.length_cons, List.length_nil]; omega
      · rw [jn]
        refine ⟨_, rfl, by omega, ?_⟩
        walk_at "rdh"
        refine ⟨Nat.le_trans ev (by decide), ?_⟩
        rw [uniq_nodup ok.nd]
        refine ite2 (fun c => absurd c (by omega)) (fun _ => ?_)
        refine ⟨by walk_at "pl", by walk_at "pl", by walk_at "pl", by walk_at "pl", by walk_at "pl", ?_⟩
        refine k _ ?_ ((S1.trans s1).kp p).upd
        rw [upd_same]
        exact congrArg (fun l => some (HO.ins a.c_Rules dx l)) (show _ = r.f by kernel_rfl)
def sp_told (a : Ad) : Sp := fun vs H Q _ => ∃ p dr r, vs = [.ref p] ∧ H p = some (.ins a.c_Rules dr (RS.f r)) ∧
  ∀ t H', H t = none → H' = upd H t (.tup [.str (S r.breaks), .str (S r.hard), .str (S r.soft), .str (S r.bend), .str (S r.note)]) → Q (.ref t) H'
theorem ok_Rules_told (T : Txt K mg a) : FnOk P w K mg base CX0 1 a.f_Rules_told a.d_Rules_told P_Rules_told (sp_told a) := by
  refine T.F_Rules_told.ok sc_Rules_told (fun vs H Q E h => ?_) (fun cdv A outer s H vs Q E hr h => ?_)
  · obtain ⟨p, dx, r, rfl, _⟩ := h
    rfl
  · obtain ⟨p, dx, r, rfl, hM, k⟩ := h
    refine ⟨_,
(pss_one (ps_ret (pe_tup (pa_cons (pe_fld (pv 0) rfl) (pa_cons (pe_fld (pv 0) rfl) (pa_cons (pe_fld (pv 0) rfl) (pa_cons (pe_fld (pv 0) rfl) (pa_cons (pe_fld (pv 0) rfl) pa_nil))))))))
      , ?_⟩
    rw [show start N_Rules_told [V.ref p] = [some (.ref p)] from rfl]
    have hc := T.c_Rules.cl
    have n1 := T.n_Rules_breaks
    have n2 := T.n_Rules_hard
    have n3 := T.n_Rules_soft
    have n4 := T.n_Rules_bend
    have n5 := T.n_Rules_note
    walk_at "rdh"
    exact fun t ht => k t _ ht rfl
/-! ### answers -/
def sp_Words_init (a : Ad) : Sp := fun vs H Q _ => ∃ p dx l1 l2 xs ys, vs = [.ref p, .ref l1, .ref l2] ∧ H p = some (.ins a.c_Words dx []) ∧ H l1 = some (.lst xs) ∧ H l2 = some (.lst ys) ∧
  ∀ m1 m2 H', H m1 = none → H m2 = none → m1 ≠ m2 → H' m1 = some (.lst xs) → H' m2 = some (.lst ys) → H' p = some (.ins a.c_Words dx (WF m1 m2)) → Kp p H H' → Q .non H'
theorem ok_Words_init (T : Txt K mg a) : FnOk P w K mg base CX0 1 a.f_Words_init a.d_Words_init P_Words_init (sp_Words_init a) := by
  refine T.F_Words_init.ok sc_Words_init (fun vs H Q E h => ?_) (fun cdv A outer s H vs Q E hr h => ?_)
  · obtain ⟨p, dx, l1, l2, xs, ys, rfl, _⟩ := h
    rfl
  · obtain ⟨p, dx, l1, l2, xs, ys, rfl, hM, h1, h2, k⟩ := h
    refine ⟨_,
(pss_cons (ps_fld (pv 0) (pe_callTy call_list_of (by rfl) T.b_list (by decide +kernel) (pa_cons (pv 1) pa_nil)) rfl)
    (pss_one (ps_fld (pv 0) (pe_callTy call_list_of (by rfl) T.b_list (by decide +kernel) (pa_cons (pv 2) pa_nil)) rfl)))
      , ?_⟩
    rw [show start N_Words_init [V.ref p, V.ref l1, V.ref l2] = [some (.ref p), some (.ref l1), some (.ref l2)] from rfl]
    have hc := T.c_Words.cl
    have n1 := T.n_Words_words
    have n2 := T.n_Words_places
    walk_at "rdh"
    refine ⟨xs, .inl (.inl (.inl h1)), fun m1 hm1 => ?_⟩
    have S1 := same_new (o := HO.lst xs) hm1
    have p1 := S1 _ _ hM
    have q2 := S1 _ _ h2
    have e1 : upd H m1 (HO.lst xs) m1 = some (HO.lst xs) := upd_same
    generalize upd H m1 (HO.lst xs) = H1 at *
    have np : m1 ≠ p := Ne.symm (ne_of_none hM hm1)
    walk_at "rdh"
    have ql : upd H1 p (HO.ins a.c_Words dx (putF (Str.ofString "words") (V.ref m1) [])) l2 = some (HO.lst ys) := by
      rw [upd_ne (fun z => by rw [z, hM] at h2; cases h2)]
      exact q2
    refine ⟨by walk_at "pl", ys, .inl (.inl (.inl ql)), fun m2 hm2 => ?_⟩
    have hm2' := none_upd hm2
    have np2 : m2 ≠ p := ne_upd hm2
    have np2' := Ne.symm np2
    have n12 : m1 ≠ m2 := fun z => by rw [← z, e1] at hm2'; cases hm2'
    walk_at "rdh"
    refine ⟨by walk_at "pl", k m1 m2 _ hm1 (S1.free hm2') n12 ?_ ?_ ?_ ?_⟩
    · rw [upd_ne np, upd_ne n12, upd_ne np]
      exact e1
    · rw [upd_ne np2, upd_same]
    · rw [upd_same]
      exact congrArg (fun l => some (HO.ins a.c_Words dx l)) (show _ = WF m1 m2 by kernel_rfl)
    · exact (((S1.kp p).upd).trans ((same_new hm2).kp p)).upd
def sp_Fault_init (a : Ad) : Sp := fun vs H Q _ => ∃ p dx n, vs = [.ref p, .int n] ∧ H p = some (.ins a.c_Fault dx []) ∧
  ∀ H', H' p = some (.ins a.c_Fault dx [("place", .int n)]) → Kp p H H' → Q .non H'
theorem ok_Fault_init (T : Txt K mg a) : FnOk P w K mg base CX0 1 a.f_Fault_init a.d_Fault_init P_Fault_init (sp_Fault_init a) := by
  refine T.F_Fault_init.ok sc_Fault_init (fun vs H Q E h => ?_) (fun cdv A outer s H vs Q E hr h => ?_)
  · obtain ⟨p, dx, n, rfl, _⟩ := h
    rfl
  · obtain ⟨p, dx, n, rfl, hM, k⟩ := h
    refine ⟨_,
(pss_one (ps_fld (pv 0) (pv 1) rfl))
      , ?_⟩
    rw [show start N_Fault_init [V.ref p, V.int n] = [some (.ref p), some (.int n)] from rfl]
    have hc := T.c_Fault.cl
    have n1 := T.n_Fault_place
    walk_at "rdh"
    refine ⟨by walk_at "pl", k _ ?_ kp_upd⟩
    rw [upd_same]
    exact congrArg (fun l => some (HO.ins a.c_Fault dx l)) (show _ = [(Str.ofString "place", V.int n)] by kernel_rfl)
/-- the place that an answer tells -/
def sp_Fault_shows (a : Ad) : Sp := fun vs H Q _ => ∃ p dx n rp dr r t, vs = [.ref p, .ref rp, .str (S t)] ∧ H p = some (.ins a.c_Fault dx [("place", .int n)]) ∧ H rp = some (.ins a.c_Rules dr (RS.f r)) ∧ r.hard.length + r.soft.length ≤ 100 ∧ t.length ≤ 50000 ∧
  ∀ H', Same H H' → Q (.bl (match readAll r t rp with | .error m => decide ((m : Int) = n) | .ok _ => false)) H'
theorem ok_Fault_shows (T : Txt K mg a) : FnOk P w K mg base CX0 5 a.f_Fault_shows a.d_Fault_shows P_Fault_shows (sp_Fault_shows a) := by
  refine T.F_Fault_shows.ok sc_Fault_shows (fun vs H Q E h => ?_) (fun cdv A outer s H vs Q E hr h => ?_)
  · obtain ⟨p, dx, n, rp, dr, r, t, rfl, _⟩ := h
    rfl
  · obtain ⟨p, dx, n, rp, dr, r, t, rfl, hM, hR, hq, ht, k⟩ := h
    have G_read_all := ok_read_all (P := P) (w := w) (base := base) T
    have B_read_all := bi_read_all T
    refine ⟨_,
(pss_cons (ps_asg (pe_call G_read_all (hr.mono (by decide)) rfl T.f_read_all.g T.f_read_all.k B_read_all .nil pass0 (pa_cons (pv 1) (pa_cons (pv 2) pa_nil))) (pg_tup rfl (pgs_cons (pg_name (i := 3) sc_Fault_shows.nd rfl (Or.inl rfl)) (pgs_cons (pg_name (i := 4) sc_Fault_shows.nd rfl (Or.inl rfl)) pgs_nil))))
    (pss_one (ps_ret (pe_and (pe_cmpR op_isN (pv 3) pe_non (nomark _)) (pe_one (pe_cmpR (op_eqD hr.units) (pv 4) (pe_fld (pv 0) rfl) (nomark _)))))))
      , ?_⟩
    rw [show start N_Fault_shows [V.ref p, V.ref rp, V.str (S t)] = [some (.ref p), some (.ref rp), some (.str (S t)), none, none] from rfl]
    have hc := T.c_Fault.cl
    have n1 := T.n_Fault_place
    walk_at "rdh"
    refine ⟨rp, dr, r, t, rfl, hR, hq, ht, fun tp H1 htp s1 told => ?_⟩
    have hp := s1 _ _ hM
    unfold ToldAll at told
    split at told
    · rename_i m e
      simp only [e] at k
      walk_at "rdh"
      refine ⟨_, .inl (.inl told), rfl, _, _, rfl, _, _, rfl, rfl, ?_⟩
      refine ite2 (fun _ => ?_) (fun c => absurd rfl c)
      refine ⟨_, rfl, _, .int _, _, .int _, rfl, rfl, ?_⟩
      rw [show PyData.eqv (.int (m : Int)) (.int n) = decide ((m : Int) = n) by simp only [PyData.eqv]; rw [Bool.eq_iff_iff]; simp]
      exact k _ s1
    · rename_i ds e
      simp only [e] at k
      obtain ⟨l, xs, hl, t1, t2, t3⟩ := told
      walk_at "rdh"
      refine ⟨_, .inl (.inl t1), rfl, _, _, rfl, _, _, rfl, rfl, ?_⟩
      refine ite2 (fun c => by cases c) (fun _ => ?_)
      trivial
/-- the words and the places that an answer tells -/
def sp_Words_shows (a : Ad) : Sp := fun vs H Q _ => ∃ p dx l1 l2 ws ys ps rp dr r t, vs = [.ref p, .ref rp, .str (S t)] ∧ H p = some (.ins a.c_Words dx (WF l1 l2)) ∧ H l1 = some (.lst (ws.map fun w => .str (S w))) ∧ H l2 = some (.lst ys) ∧ Paired (Pls H) ys ps ∧
  H rp = some (.ins a.c_Rules dr (RS.f r)) ∧ r.hard.length + r.soft.length ≤ 100 ∧ t.length ≤ 800 ∧ ok8 t ∧ TOk 900 (.ok (ws, ps)) ∧
  ∀ H', Same H H' → Q (.bl (decide (told3 (readAll r t rp) = .ok (ws, ps)))) H'
theorem ok_Words_shows (T : Txt K mg a) : FnOk P w K mg base CX0 5 a.f_Words_shows a.d_Words_shows P_Words_shows (sp_Words_shows a) := by
  refine T.F_Words_shows.ok sc_Words_shows (fun vs H Q E h => ?_) (fun cdv A outer s H vs Q E hr h => ?_)
  · obtain ⟨p, dx, l1, l2, ws, ys, ps, rp, dr, r, t, rfl, _⟩ := h
    rfl
  · obtain ⟨p, dx, l1, l2, ws, ys, ps, rp, dr, r, t, rfl, hM, h1, h2, h3, hR, hq, ht, h8, to, k⟩ := h
    have G_read_all := ok_read_all (P := P) (w := w) (base := base) T
    have B_read_all := bi_read_all T
    refine ⟨_,
(pss_cons (ps_asg (pe_call G_read_all (hr.mono (by decide)) rfl T.f_read_all.g T.f_read_all.k B_read_all .nil pass0 (pa_cons (pv 1) (pa_cons (pv 2) pa_nil))) (pg_tup rfl (pgs_cons (pg_name (i := 3) sc_Words_shows.nd rfl (Or.inl rfl)) (pgs_cons (pg_name (i := 4) sc_Words_shows.nd rfl (Or.inl rfl)) pgs_nil))))
    (pss_cons (ps_if (PW.pt (pw_or (pt_cmpR op_isN (pv 3) pe_non (nomark _)) (pw_or1 (pt_cmpR (op_neD hr.units) (pe_fld (pv 0) rfl) (pe_lc (own := [("pair", 5)]) (g := gName 5) (tt := tYes) rfl sc_Words_shows.nd (pi_list (pv 3)) (blkOk_by (own := [("pair", 5)]) (N := N_Words_shows) (sc := defScope st_Words_shows) (by decide +kernel)) (fun _ _ _ _ _ => (pg_name (i := 5) sc_Words_shows.nd rfl (Or.inl rfl))) (fun _ _ _ _ _ => pts_nil) (fun _ _ _ _ _ => (pe_ix (ix_tupK (K := K) rfl) (pv 5) pe_int (fun _ _ => rfl)))) (nomark _))))) (pss_one (ps_ret pe_bl)) pss_nil)
    (pss_one (ps_ret (pe_cmpR (op_eqD hr.units) (pe_fld (pv 0) rfl) (pe_lc (own := [("pair", 5)]) (g := gName 5) (tt := tYes) rfl sc_Words_shows.nd (pi_list (pv 3)) (blkOk_by (own := [("pair", 5)]) (N := N_Words_shows) (sc := defScope st_Words_shows) (by decide +kernel)) (fun _ _ _ _ _ => (pg_name (i := 5) sc_Words_shows.nd rfl (Or.inl rfl))) (fun _ _ _ _ _ => pts_nil) (fun _ _ _ _ _ => (pe_ix (ix_tupK (K := K) rfl) (pv 5) pe_int (fun _ _ => rfl)))) (nomark _))))))
      , ?_⟩
    rw [show start N_Words_shows [V.ref p, V.ref rp, V.str (S t)] = [some (.ref p), some (.ref rp), some (.str (S t)), none, none, none] from rfl]
    have hc := T.c_Words.cl
    have n1 := T.n_Words_words
    have n2 := T.n_Words_places
    have td := told3_ok (r := r) (rp := rp) h8 ht
    walk_at "rdh"
    refine ⟨rp, dr, r, t, rfl, hR, hq, by omega, fun tp H1 htp s1 told => ?_⟩
    have hp := s1 _ _ hM
    unfold ToldAll at told
    split at told
    · rename_i m e
      rw [e] at k
      walk_at "rdh"
      refine ⟨_, .inl (.inl told), rfl, _, _, rfl, _, _, rfl, rfl, ?_⟩
      refine ite2 (fun _ => ?_) (fun c => absurd rfl c)
      have := k _ s1
      rw [decide_eq_false (by simp [told3])] at this
      exact this
    · rename_i ds e
      rw [e] at k td
      obtain ⟨l, xs, hl, t1, t2, t3⟩ := told
      have k := fun H' s => k H' s
      have hlen := t3.length
      have tw := td.ws _ _ rfl
      have tp' := td.ps _ _ rfl
      have ow := to.ws _ _ rfl
      have op := to.ps _ _ rfl
      have dl : ds.length ≤ 900 := by have := tw.2; rwa [List.length_map] at this
      walk_at "rd"
      refine ⟨_, .inl (.inl t1), rfl, _, _, rfl, _, _, rfl, rfl, ?_⟩
      refine ite2 (fun c => by cases c) (fun _ => ?_)
      refine ⟨_, _, _, hp, hc, n1, _, rfl, ?_⟩
      refine tlc_map ds (fun d => .str (S d.1)) (J := Itl K l) (H1 := H1) (G := fun H => SqL K H l xs) (fun R hR => ?_) (hlen ▸ walk_list) (by omega) (fun H s => .inl (.inl (s _ _ t2))) ?_ ?_
      · exact ⟨_, rfl, l, rfl, ⟨_, .inl (.inl t2)⟩, hR⟩
      · rintro R R' i d x H2 H3 hi s2 ⟨rfl, hx⟩ hR
        obtain ⟨b, u, rfl, g1, g2⟩ := Paired.at' t3 hi hx
        walk_at "rd"
        refine ⟨_, .inl (.inl (s2 _ _ g1)), _, rfl, hR _ (Same.refl _)⟩
      · intro D H2 hD s2 e2
        have q1 := s2 _ _ (s1 _ _ h1)
        refine ⟨_, dp_ws (.inl (.inl q1)), wsD (ds.map (·.1)), dp_ws (.inl (.inl (by rw [e2, List.map_map]; rfl))), shaped_of (wsD_tame fun t ht => (ow.1 t ht).1) (Nat.le_trans (wsD_depth _) (by decide)),
          shaped_of (wsD_tame fun t ht => (tw.1 t ht).1) (Nat.le_trans (wsD_depth _) (by decide)), ?_⟩
        rw [eqv_dec (wsD_tame fun t ht => (ow.1 t ht).1) (wsD_tame fun t ht => (tw.1 t ht).1) wsD_inj]
        walk_at "rd"
        refine ite2 (fun c => ?_) (fun c => ?_)
        · have := k _ (s1.trans s2)
          rw [decide_eq_false (by simp only [told3]; intro z; cases z; exact c rfl)] at this
          exact this
        · have c : ws = ds.map (·.1) := Classical.byContradiction c
          refine ⟨_, _, _, s2 _ _ hp, hc, n2, _, rfl, ?_⟩
          obtain ⟨us, u1, u2, u3⟩ := fnds_pl t3
          refine tlc_map us id (J := Itl K l) (H1 := H2) (G := fun H => SqL K H l xs) (fun R hR => ?_) ((hlen.trans u1.symm) ▸ walk_list) (by omega) (fun H s => .inl (.inl (s _ _ (s2 _ _ t2)))) ?_ ?_
          · exact ⟨_, rfl, l, rfl, ⟨_, .inl (.inl (s2 _ _ t2))⟩, hR⟩
          · rintro R R' i u x H3 H4 hi s3 ⟨rfl, hx⟩ hR
            obtain ⟨b, w, rfl, g1⟩ := u3 i x u hx hi
            walk_at "rd"
            exact ⟨_, .inl (.inl (s3 _ _ (s2 _ _ g1))), _, rfl, hR _ (Same.refl _)⟩
          · intro D3 H3 hD3 s3 e3
            have q2 := s3 _ _ (s2 _ _ (s1 _ _ h2))
            have s13 := (s1.trans s2).trans s3
            rw [List.map_id] at e3
            refine ⟨_, dp_ps (.inl (.inl q2)) (Paired.mapP h3 fun _ _ z => z.mono fun b xs => s13 b _), _, dp_ps (.inl (.inl e3)) (Paired.mapP u2 fun _ _ z => z.mono fun b xs => (s2.trans s3) b _),
              shaped_of (psD_tame op.1) (Nat.le_trans (psD_depth _) (by decide)), shaped_of (psD_tame tp'.1) (Nat.le_trans (psD_depth _) (by decide)), ?_⟩
            rw [eqv_dec (psD_tame op.1) (psD_tame tp'.1) psD_inj]
            have := k _ s13
            rw [show decide (told3 (.ok ds) = .ok (ws, ps)) = decide (ps = ds.map fun d => ((d.2.1 : Int), (d.2.2 : Int))) from by
              rw [Bool.eq_iff_iff, decide_eq_true_eq, decide_eq_true_eq]
              simp only [told3, Except.ok.injEq, Prod.mk.injEq]
              exact ⟨fun z => z.2.symm, fun z => ⟨c.symm, z.symm⟩⟩] at this
            exact this
def sp_split (a : Ad) : Sp := fun vs H Q _ => ∃ rp dr r t, vs = [.ref rp, .str (S t)] ∧ H rp = some (.ins a.c_Rules dr (RS.f r)) ∧ r.hard.length + r.soft.length ≤ 100 ∧ t.length ≤ 400 ∧ t.all sgn = true ∧
  ∀ p H', H p = none → Same H H' → Ansd a H H' p (told3 (readAll r t rp)) → Q (.ref p) H'
theorem ok_split (T : Txt K mg a) : FnOk P w K mg base CX0 6 a.f_split a.d_split P_split (sp_split a) := by
  refine T.F_split.ok sc_split (fun vs H Q E h => ?_) (fun cdv A outer s H vs Q E hr h => ?_)
  · obtain ⟨rp, dr, r, t, rfl, _⟩ := h
    rfl
  · obtain ⟨rp, dr, r, t, rfl, hR, hq, ht, hs, k⟩ := h
    have G_are_signs := ok_are_signs (P := P) (w := w) (base := base) T
    have B_are_signs := bi_are_signs T
    have G_read_all := ok_read_all (P := P) (w := w) (base := base) T
    have B_read_all := bi_read_all T
    have G_Fault_init := ok_Fault_init (P := P) (w := w) (base := base) T
    have B_Fault_init := bi_Fault_init T
    have G_Words_init := ok_Words_init (P := P) (w := w) (base := base) T
    have B_Words_init := bi_Words_init T
    have gL := T.g_LONGEST
    refine ⟨_,
(pss_cons (ps_if (PW.pt (pw_or (pt_not (pt_val (pe_call G_are_signs (hr.mono (by decide)) rfl T.f_are_signs.g T.f_are_signs.k B_are_signs .nil pass0 (pa_cons (pv 1) pa_nil)))) (pw_or1 (pt_cmpR op_gt (pe_callB call_len_str (by rfl) T.b_len PySem.boot_len (pa_cons (pv 1) pa_nil)) (pe_glob (v := .int 400) rfl T.g_LONGEST ⟨_, rfl⟩) (nomark _))))) (pss_one ps_never) pss_nil)
    (pss_cons (ps_asg (pe_call G_read_all (hr.mono (by decide)) rfl T.f_read_all.g T.f_read_all.k B_read_all .nil pass0 (pa_cons (pv 0) (pa_cons (pv 1) pa_nil))) (pg_tup rfl (pgs_cons (pg_name (i := 2) sc_split.nd rfl (Or.inl rfl)) (pgs_cons (pg_name (i := 3) sc_split.nd rfl (Or.inl rfl)) pgs_nil))))
    (pss_cons (ps_if (pt_cmpR op_isN (pv 2) pe_non (nomark _)) (pss_one (ps_ret (pe_make T.c_Fault.mc G_Fault_init (hr.mono (by decide)) rfl T.c_Fault.g B_Fault_init .nil pass0 (pa_cons (pv 3) pa_nil)))) pss_nil)
    (pss_one (ps_ret (pe_make T.c_Words.mc G_Words_init (hr.mono (by decide)) rfl T.c_Words.g B_Words_init .nil pass0 (pa_cons (pe_lc (own := [("pair", 4)]) (g := gName 4) (tt := tYes) rfl sc_split.nd (pi_list (pv 2)) (blkOk_by (own := [("pair", 4)]) (N := N_split) (sc := defScope st_split) (by decide +kernel)) (fun _ _ _ _ _ => (pg_name (i := 4) sc_split.nd rfl (Or.inl rfl))) (fun _ _ _ _ _ => pts_nil) (fun _ _ _ _ _ => (pe_ix (ix_tupK (K := K) rfl) (pv 4) pe_int (fun _ _ => rfl)))) (pa_cons (pe_lc (own := [("pair", 4)]) (g := gName 4) (tt := tYes) rfl sc_split.nd (pi_list (pv 2)) (blkOk_by (own := [("pair", 4)]) (N := N_split) (sc := defScope st_split) (by decide +kernel)) (fun _ _ _ _ _ => (pg_name (i := 4) sc_split.nd rfl (Or.inl rfl))) (fun _ _ _ _ _ => pts_nil) (fun _ _ _ _ _ => (pe_ix (ix_tupK (K := K) rfl) (pv 4) pe_int (fun _ _ => rfl)))) pa_nil))))))))
      , ?_⟩
    rw [show start N_split [V.ref rp, V.str (S t)] = [some (.ref rp), some (.str (S t)), none, none, none] from rfl]
    walk_at "rd"
    refine ⟨t, rfl, by omega, fun H0 s0 => ⟨_, rfl, ?_⟩⟩
    rw [hs]
    refine ite2 (fun c => by cases c) (fun _ => ?_)
    refine ⟨Nat.le_trans ht (by decide), ?_⟩
    refine ite2 (fun c => absurd c (by omega)) (fun _ => ?_)
    refine ⟨rp, dr, r, t, rfl, s0 _ _ hR, hq, by omega, fun tp H1 htp s1 told => ?_⟩
    have s01 := s0.trans s1
    unfold ToldAll at told
    split at told
    · rename_i m e
      rw [e] at k
      walk_at "rd"
      refine ⟨_, .inl (.inl told), rfl, _, _, rfl, _, _, rfl, rfl, ?_⟩
      refine ite2 (fun _ => ?_) (fun c => absurd rfl c)
      intro x dx hx hdx ne
      refine ⟨x, dx, _, rfl, upd_same, fun H' g1 g2 => ⟨rfl, ?_⟩⟩
      refine k x H' (s01.free hx) (s01.trans (Same.made hx hdx g2)) ⟨dx, g1⟩
    · rename_i ds e
      rw [e] at k
      obtain ⟨l, xs, hl, t1, t2, t3⟩ := told
      have hb := readAll_bd r t rp
      rw [e] at hb
      have dl : ds.length ≤ 900 := by have := hb.1; omega
      have hlen := t3.length
      walk_at "rd"
      refine ⟨_, .inl (.inl t1), rfl, _, _, rfl, _, _, rfl, rfl, ?_⟩
      refine ite2 (fun c => by cases c) (fun _ => ?_)
      refine tlc_map ds (fun d => .str (S d.1)) (J := Itl K l) (H1 := H1) (G := fun H => SqL K H l xs) (fun R hR => ?_) (hlen ▸ walk_list) (by omega) (fun H s => .inl (.inl (s _ _ t2))) ?_ ?_
      · exact ⟨_, rfl, l, rfl, ⟨_, .inl (.inl t2)⟩, hR⟩
      · rintro R R' i d x H2 H3 hi s2 ⟨rfl, hx⟩ hR
        obtain ⟨b, u, rfl, g1, g2⟩ := Paired.at' t3 hi hx
        walk_at "rd"
        refine ⟨_, .inl (.inl (s2 _ _ g1)), _, rfl, hR _ (Same.refl _)⟩
      · intro D H2 hD s2 e2
        obtain ⟨us, u1, u2, u3⟩ := fnds_pl t3
        refine tlc_map us id (J := Itl K l) (H1 := H2) (G := fun H => SqL K H l xs) (fun R hR => ?_) ((hlen.trans u1.symm) ▸ walk_list) (by omega) (fun H s => .inl (.inl (s _ _ (s2 _ _ t2)))) ?_ ?_
        · exact ⟨_, rfl, l, rfl, ⟨_, .inl (.inl (s2 _ _ t2))⟩, hR⟩
        · rintro R R' i u x H3 H4 hi s3 ⟨rfl, hx⟩ hR
          obtain ⟨b, w, rfl, g1⟩ := u3 i x u hx hi
          walk_at "rd"
          exact ⟨_, .inl (.inl (s3 _ _ (s2 _ _ g1))), _, rfl, hR _ (Same.refl _)⟩
        · intro D3 H3 hD3 s3 e3
          rw [List.map_id] at e3
          intro x dx hx hdx ne
          have s03 := (s01.trans s2).trans s3
          have sm : Same H3 (upd (upd H3 dx (.own x)) x (.ins a.c_Words dx [])) := Same.made hx hdx fun _ _ e _ => e
          refine ⟨x, dx, D, D3, _, _, rfl, upd_same, sm _ _ (s3 _ _ e2), sm _ _ e3, fun m1 m2 H' f1 f2 f3 f4 f5 f6 f7 => ⟨rfl, ?_⟩⟩
          have sf : Same H3 H' := Same.made hx hdx f7
          refine k x H' (s03.free hx) (s03.trans sf) ⟨dx, m1, m2, us, f6, ?_, f5, ?_, (s03.trans sm).free f1, (s03.trans sm).free f2, f3⟩
          · rw [f4, List.map_map]; rfl
          · exact Paired.mapP u2 fun _ _ z => z.mono fun b xs => ((s2.trans s3).trans sf) b _
end
end Qw

set_option Elab.async false
set_option linter.all false
set_option maxRecDepth 100000
set_option maxHeartbeats 4000000
namespace Qw
open PySem L2
local macro_rules | `(tactic| walk_at "rd") => `(tactic| simp only [tRevL, rSlS, rSlL, gSub, rSetL, wipe, List.map_cons, List.map_nil, rAll, rAny, rIsi, tM1, tM0, iZipLT, iZip, iRng2, tLenSetS, rListStr, rMulS, rCntB, tRevS, rNeD, rEqD, tSeq, tNext, tAsg, tRet, tRetN, tDrop, tIfS, sFld, sFldAug, tVar, tC, tOp, tUn, tTest, tB, tAnd, tOr, tNot, tAndV, tOrV, tNotV, tIf, tTup, tLst, tCons, tNil, tCB, tCall, tMeth, tMake, tFld, rI, rI0, rU, rEq, rNe, rCat, gName, gTup, gCons, gNil, tPar, tPar3, tBM, tBM0, rAppend, rExtend, rPopAt, rIxL, rIxT, rIxS, tSl, rSlS, rSlL, tPart, tNoPart, iStr, iTup, iList, iRng1, tAug, ipI, L2.rAdd, L2.rSub, L2.rAddS, tChain, rIsB, rNotB, scal_ss, scal_ii, scal_bb, scal_nn, scal_in, scal_ni, tYes,
  cx_K, cx_N, List.getElem?_cons_zero, List.getElem?_cons_succ, List.set_cons_zero, List.set_cons_succ, List.nil_append, List.cons_append, List.append_nil, List.length_cons, List.length_nil, Nat.zero_add,
  Option.some.injEq, V.ref.injEq, V.int.injEq, V.str.injEq, V.bl.injEq, HO.ins.injEq, HO.lst.injEq, HO.tup.injEq, List.cons.injEq, exists_eq_left, exists_eq_left', exists_eq_right, exists_eq_right', and_true, true_and, exists_and_left, exists_and_right, and_assoc, decide_eq_true_eq, Bool.not_eq_true', decide_eq_false_iff_not, reduceCtorEq, exists_const, forall_const, if_true, if_false, false_and, and_false, ite_true, ite_false, Bool.true_eq_false, Bool.false_eq_true, Nat.reduceLeDiff, Nat.reduceAdd, small_line, small_lt, upd_ne, ne_eq, not_false_eq_true, Nat.zero_le, Prod.mk.injEq, upd_same, upd_upd, S_tl, S_len, S_app, S_one, S_inj,
  lk_breaks, lk_hard, lk_soft, lk_bend, lk_note, lk_rules, lk_state, lk_bent, lk_word, lk_begun, lk_opened, lk_place, pt_state, pt_bent, pt_word, pt_wordS, pt_wordN, pt_begun, pt_opened, pt_place, pt_place1, len_mf, litv_empty, litv_note, litv_nl, mf_inj, rf_inj, lkn_begin, lkn_ended, lkn_plain, lkn_quoted, lkn_step, lkn_fault, lkn_key, lkn_told, lkn_quotes, lkn_special, pt_open1, not_true_eq_false, not_false_eq_true])
local macro_rules | `(tactic| walk_at "rdh") => `(tactic| simp only [tRevL, rSlS, rSlL, gSub, rSetL, wipe, List.map_cons, List.map_nil, rAll, rAny, rIsi, tM1, tM0, iZipLT, iZip, iRng2, tLenSetS, rListStr, rMulS, rCntB, tRevS, rNeD, rEqD, tSeq, tNext, tAsg, tRet, tRetN, tDrop, tIfS, sFld, sFldAug, tVar, tC, tOp, tUn, tTest, tB, tAnd, tOr, tNot, tAndV, tOrV, tNotV, tIf, tTup, tLst, tCons, tNil, tCB, tCall, tMeth, tMake, tFld, rI, rI0, rU, rEq, rNe, rCat, gName, gTup, gCons, gNil, tPar, tPar3, tBM, tBM0, rAppend, rExtend, rPopAt, rIxL, rIxT, rIxS, tSl, rSlS, rSlL, tPart, tNoPart, iStr, iTup, iList, iRng1, tAug, ipI, L2.rAdd, L2.rSub, L2.rAddS, tChain, rIsB, rNotB, scal_ss, scal_ii, scal_bb, scal_nn, scal_in, scal_ni, tYes,
  cx_K, cx_N, List.getElem?_cons_zero, List.getElem?_cons_succ, List.set_cons_zero, List.set_cons_succ, List.nil_append, List.cons_append, List.append_nil, List.length_cons, List.length_nil, Nat.zero_add,
  Option.some.injEq, V.ref.injEq, V.int.injEq, V.str.injEq, V.bl.injEq, HO.ins.injEq, HO.lst.injEq, HO.tup.injEq, List.cons.injEq, exists_eq_left, exists_eq_left', exists_eq_right, exists_eq_right', and_true, true_and, exists_and_left, exists_and_right, and_assoc, decide_eq_true_eq, Bool.not_eq_true', decide_eq_false_iff_not, reduceCtorEq, exists_const, forall_const, if_true, if_false, false_and, and_false, ite_true, ite_false, Bool.true_eq_false, Bool.false_eq_true, Nat.reduceLeDiff, Nat.reduceAdd, small_line, small_lt, upd_ne, ne_eq, not_false_eq_true, Nat.zero_le, Prod.mk.injEq, upd_same, upd_upd, S_tl, S_len, S_app, S_one, S_inj,
  lk_breaks, lk_hard, lk_soft, lk_bend, lk_note, lk_rules, lk_state, lk_bent, lk_word, lk_begun, lk_opened, lk_place, pt_state, pt_bent, pt_word, pt_wordS, pt_wordN, pt_begun, pt_opened, pt_place, pt_place1, len_mf, litv_empty, litv_note, litv_nl, mf_inj, rf_inj, lkn_begin, lkn_ended, lkn_plain, lkn_quoted, lkn_step, lkn_fault, lkn_key, lkn_told, lkn_quotes, lkn_special, pt_open1, not_true_eq_false, not_false_eq_true, *])
local macro_rules | `(tactic| walk_at "pl") => `(tactic| (first | decide | (refine Nat.lt_of_le_of_lt (length_putF _ _ _) ?_; repeat (first | decide | refine pl2 ?_))))
local macro_rules | `(tactic| walk_at "al") => `(tactic| (intro p hp; generalize hH : upd _ p _ = H1; obtain ⟨S, e⟩ := gen_new hH hp; clear hH))
theorem while_rule {c : TT} {tb : TS} {D : Ends} {σ : St} {H : Hp} (W : Nat → St → Hp → Prop) (n0 : Nat) (h0 : W n0 σ H)
    (hs : ∀ n σ1 H1 (R : Bool → Hp → Prop), W n σ1 H1 →
      (∀ H2, tb { D with nx := fun σ' H' => ∃ n', n' < n ∧ W n' σ' H', ct := fun σ' H' => ∃ n', n' < n ∧ W n' σ' H', bk := D.nx } σ1 H2 → R true H2) → (∀ H2, D.nx σ1 H2 → R false H2) → c σ1 H1 R) : tWhile c tb D σ H := by
  refine ⟨W, ⟨n0, h0⟩, fun n σ1 H1 w => hs n σ1 H1 _ w (fun H2 q => ?_) fun H2 q => ?_⟩
  · exact iteT ⟨_, fun _ _ z => z, q⟩
  · exact iteF q
theorem tfor_it {wi : TI} {g : TG} {tb : TS} {D : Ends} {σ : St} {H H1 : Hp} {J : It} {n : Nat} {G : Hp → Prop} {Y : Nat → Hp → V → Hp → Prop} (hw : ∀ R : It → Hp → Prop, R J H1 → wi σ H R) (w : Walk J n G Y)
    (Pv : Nat → St → Hp → Prop) (h0 : Pv 0 σ H1) (hG : ∀ i σ H, i ≤ n → Pv i σ H → G H)
    (hs : ∀ i x σ H H', i < n → Pv i σ H → Y i H x H' → g x σ H' fun σ2 H2 => tb { D with nx := Pv (i + 1), ct := Pv (i + 1), bk := D.nx } σ2 H2) (hd : ∀ σ H, Pv n σ H → D.nx σ H) : tFor wi g tb D σ H :=
  hw _ (for_it w Pv h0 hG hs hd)
theorem tfor_all {ι : Type} {C : ι → Prop} {J : ι → It} {H1 : ι → Hp} {wi : TI} {g : TG} {tb : TS} {D : Ends} {σ : St} {H : Hp} (hw : ∀ R : It → Hp → Prop, (∀ x, C x → R (J x) (H1 x)) → wi σ H R)
    (h2 : ∀ x, C x → ∃ W : Nat → Nat → St → Hp → Prop, (∃ m, W 0 m σ (H1 x)) ∧ ∀ i m σ H, W i m σ H →
      ((J x).stop i H ∧ D.nx σ H) ∨ ((J x).go i H ∧ ∃ N : St → Hp → Prop, (∀ σ' H', N σ' H' → ∃ m', m' < m ∧ W (i + 1) m' σ' H') ∧ ∀ y H', (J x).yld i H y H' → g y σ H' fun σ2 H2 => tb { D with nx := N, ct := N, bk := D.nx } σ2 H2)) : tFor wi g tb D σ H := hw _ h2
theorem _root_.Qw.Kp.mut {p q : Addr} {H H' : Hp} {o : HO} (k : Kp p H H') (h : H q = none) : Kp p H (L2.upd H' q o) := fun b u e n => by
  rw [upd_ne (ne_of_none e h)]
  exact k b u e n
theorem map_eraseIdx' {α β : Type} (f : α → β) : ∀ (l : List α) (i : Nat), (l.map f).eraseIdx i = (l.eraseIdx i).map f
  | [], _ => rfl
  | _ :: _, 0 => rfl
  | a :: l, i + 1 => by
    show f a :: (l.map f).eraseIdx i = f a :: (l.eraseIdx i).map f
    rw [map_eraseIdx' f l i]
theorem perm_eraseIdx {α : Type} : ∀ {l : List α} {i : Nat} (h : i < l.length), (l[i] :: l.eraseIdx i).Perm l
  | _ :: _, 0, _ => List.Perm.refl _
  | a :: l, i + 1, h => by
    have h' : i < l.length := by simpa using h
    exact (List.Perm.swap a l[i] (l.eraseIdx i)).trans (List.Perm.cons a (perm_eraseIdx h'))
theorem at_in {α : Type} {xs : List α} {k : Int} (h0 : 0 ≤ k) (h : k < xs.length) : ∃ (j : Nat) (hj : j < xs.length), k = (j : Int) ∧ atI xs k = some xs[j] := by
  have hj : k.toNat < xs.length := by omega
  refine ⟨k.toNat, hj, by omega, ?_⟩
  have := atI_nat (xs := xs) (j := k.toNat) (v := xs[k.toNat]) (by simp [hj])
  rwa [show ((k.toNat : Nat) : Int) = k by omega] at this
theorem bi_Rules_init {K : PySem.W.Frag} {mg : Str → Option Value} {a : Ad} (T : Txt K mg a) : Binds K a.d_Rules_init P_Rules_init [] := by
  obtain ⟨ds, h1, h2⟩ := T.F_Rules_init.binds1 (ps := P_Rules_init) 6 5 (by decide) rfl fun T kV doc pm an cdv ct us its h1 h2 =>
    match us, h1, its, h2 with
    | [_, _, _, _, _, _], _, [_, _, _, _, _], _ => ⟨_, rfl, rfl⟩
  cases h1
  exact h2
theorem bi_Rules_init0 {K : PySem.W.Frag} {mg : Str → Option Value} {a : Ad} (T : Txt K mg a) : ∃ ds, Vals [.str (" " : Str), .str ("'" : Str), .str ("\"" : Str), .str ("\\" : Str), .str ("#" : Str)] ds ∧ Binds K a.d_Rules_init P_Rules_init ds :=
  T.F_Rules_init.binds1 (ps := P_Rules_init) 1 0 (by decide) rfl fun T kV doc pm an cdv ct us its h1 h2 =>
    match us, h1, its, h2 with
    | [_], _, [_, _, _, _, _], _ => ⟨_, rfl, rfl⟩
section
variable {P : Program} {w : World} {K : PySem.W.Frag} {mg : Str → Option Value} {base : Heap} {a : Ad}
/-! ### drawn numbers -/
def sp_law_cell_at (K : PySem.W.Frag) : Sp := fun vs H Q _ => ∃ (p : Addr) (k : Int) (ns : List Int), vs = [.ref p, .int k] ∧ SqL K H p (ns.map V.int) ∧ 0 ≤ k ∧ ∀ z : Int, Q (.int z) H
theorem ok__law_cell_at (T : Txt K mg a) : FnOk P w K mg base CX0 1 a.f__law_cell_at a.d__law_cell_at P__law_cell_at (sp_law_cell_at K) := by
  refine T.F__law_cell_at.ok sc__law_cell_at (fun vs H Q E h => ?_) (fun cdv A outer s H vs Q E hr h => ?_)
  · obtain ⟨p, k, ns, rfl, _⟩ := h
    rfl
  · obtain ⟨p, k, ns, rfl, hp, hk, q⟩ := h
    refine ⟨_,
(pss_cons (ps_if (pt_cmpR op_lt (pv 1) (pe_callB call_len_seq (by rfl) T.b_len PySem.boot_len (pa_cons (pv 0) pa_nil)) (nomark _)) (pss_one (ps_ret (pe_ix ix_list (pv 0) (pv 1) (fun _ _ => rfl)))) pss_nil)
    (pss_one (ps_ret pe_int)))
      , ?_⟩
    rw [show start N__law_cell_at [V.ref p, V.int k] = [some (.ref p), some (.int k)] from rfl]
    walk_at "rdh"
    refine ⟨_, .inl hp, ite2 (fun c => ?_) (fun _ => trivial)⟩
    rw [List.length_map] at c
    obtain ⟨j, hj, e1, e2⟩ := at_in hk (show k < ((ns.map V.int).length : Int) by rw [List.length_map]; exact c)
    refine ⟨_, hp, _, e2, ?_⟩
    rw [List.getElem_map]
    exact q _
def sp_law_draw : Sp := fun vs H Q _ => ∃ c k m : Int, vs = [.int c, .int k, .int m] ∧ 0 ≤ k ∧ k < 1000 ∧ 0 < m ∧ ∀ (z : Int) H', 0 ≤ z → z < m → Same H H' → Q (.int z) H'
theorem ok__law_draw (T : Txt K mg a) : FnOk P w K mg base CX0 1 a.f__law_draw a.d__law_draw P__law_draw sp_law_draw := by
  refine T.F__law_draw.ok sc__law_draw (fun vs H Q E h => ?_) (fun cdv A outer s H vs Q E hr h => ?_)
  · obtain ⟨c, k, m, rfl, _⟩ := h
    rfl
  · obtain ⟨c, k, m, rfl, hk, hk2, hm, q⟩ := h
    refine ⟨_,
(pss_cons (ps_set (i := 3) sc__law_draw.nd rfl (by first | exact Or.inl rfl | exact Or.inr rfl) (pe_tup (pa_cons pe_int (pa_cons pe_int (pa_cons pe_int (pa_cons pe_int (pa_cons pe_int (pa_cons pe_int (pa_cons pe_int (pa_cons pe_int (pa_cons pe_int (pa_cons pe_int (pa_cons pe_int (pa_cons pe_int (pa_cons pe_int (pa_cons pe_int (pa_cons pe_int (pa_cons pe_int pa_nil))))))))))))))))))
    (pss_one (ps_ret (pe_op op_mod (pe_op op_mod (pe_op op_add (pe_op op_mul (pv 0) pe_int) (pe_op op_mul (pv 1) pe_int)) (pe_ix ix_tup (pv 3) (pe_op op_mod (pv 1) pe_int) (fun _ _ => rfl))) (pv 2)))))
      , ?_⟩
    rw [show start N__law_draw [V.int c, V.int k, V.int m] = [some (.int c), some (.int k), some (.int m), none] from rfl]
    walk_at "rdh"
    intro p hp
    refine ⟨.inr ⟨by decide, by decide⟩, .inr ⟨by decide, by decide⟩, by decide, _, .inl (.inl upd_same), ?_⟩
    have h16 : ∃ z : Int, atI [V.int 1000003, V.int 1000033, V.int 1000037, V.int 1000039, V.int 1000081, V.int 1000099, V.int 1000117, V.int 1000121, V.int 1000133, V.int 1000151, V.int 1000159, V.int 1000171, V.int 1000183, V.int 1000187, V.int 1000193, V.int 1000199] (k % 16) = some (V.int z) ∧ 0 < z := by
      obtain ⟨j, hj, e⟩ : ∃ j : Nat, j < 16 ∧ k % 16 = (j : Int) := ⟨(k % 16).toNat, by omega, by omega⟩
      rw [e]
      match j, hj with
      | 0, _ | 1, _ | 2, _ | 3, _ | 4, _ | 5, _ | 6, _ | 7, _ | 8, _ | 9, _ | 10, _ | 11, _ | 12, _ | 13, _ | 14, _ | 15, _ => exact ⟨_, rfl, by decide⟩
      | n + 16, h => exact absurd h (by omega)
    obtain ⟨z, e, hz⟩ := h16
    exact ⟨_, e, z, rfl, hz, q _ _ (Int.emod_nonneg _ (by omega)) (Int.emod_lt_of_pos _ hm) (same_new hp)⟩
def sp_law_number : Sp := fun vs H Q _ => ∃ c k m : Int, vs = [.int c, .int k, .int m] ∧ 0 ≤ k ∧ k < 1000 ∧ 0 < m ∧ ∀ (z : Int) H', 0 ≤ z → z < m → Same H H' → Q (.int z) H'
theorem ok__law_number (T : Txt K mg a) : FnOk P w K mg base CX0 2 a.f__law_number a.d__law_number P__law_number sp_law_number := by
  refine T.F__law_number.ok sc__law_number (fun vs H Q E h => ?_) (fun cdv A outer s H vs Q E hr h => ?_)
  · obtain ⟨c, k, m, rfl, _⟩ := h
    rfl
  · obtain ⟨c, k, m, rfl, hk, hk2, hm, q⟩ := h
    have G__law_draw := ok__law_draw (P := P) (w := w) (base := base) T
    have B__law_draw := bi__law_draw T
    refine ⟨_,
(pss_cons (ps_set (i := 3) sc__law_number.nd rfl (by first | exact Or.inl rfl | exact Or.inr rfl) (pe_op op_sub (pv 0) (pe_op op_pow pe_int pe_int)))
    (pss_cons (ps_for PassesOwn.never rfl (pi_range1 rfl T.b_range (pa_cons (pe_op op_mod (pv 1) pe_int) pa_nil)) (pg_name (i := 4) sc__law_number.nd rfl (Or.inl rfl))
    (pss_one (ps_set (i := 3) sc__law_number.nd rfl (by first | exact Or.inl rfl | exact Or.inr rfl) (pe_op op_fdiv (pv 3) pe_int))))
    (pss_cons (ps_if (pt_cmpR op_gt (pv 3) pe_int (nomark _)) (pss_one (ps_ret (pe_op op_mod (pe_op op_mod (pv 3) pe_int) (pv 2)))) pss_nil)
    (pss_cons (ps_set (i := 5) sc__law_number.nd rfl (by first | exact Or.inl rfl | exact Or.inr rfl) (pe_op op_mod (pv 0) pe_int))
    (pss_one (ps_ret (pe_op op_mod (pe_call G__law_draw (hr.mono (by decide)) rfl T.f__law_draw.g T.f__law_draw.k B__law_draw .nil pass0 (pa_cons (pe_op op_mul (pe_op op_add (pv 5) (pe_op op_mul pe_int (pv 1))) (pe_op op_add (pe_op op_add (pv 5) (pe_op op_mul pe_int (pv 1))) pe_int)) (pa_cons (pe_op op_add (pe_op op_mod (pv 1) pe_int) pe_int) (pa_cons pe_int pa_nil)))) (pv 2))))))))
      , ?_⟩
    rw [show start N__law_number [V.int c, V.int k, V.int m] = [some (.int c), some (.int k), some (.int m), none, none, none] from rfl]
    walk_at "rdh"
    refine ⟨⟨by decide, by decide, by decide⟩, ?_⟩
    refine tfor_it (J := Itr 0 (k % 24).toNat) (H1 := H) (fun R hR => ?_) walk_range (fun i σ H' => H' = H ∧ ∃ rest v, σ = [some (.int c), some (.int k), some (.int m), some (.int rest), v, none]) ⟨rfl, _, _, rfl⟩ (fun _ _ _ _ _ => trivial) ?_ ?_
    · walk_at "rd"
      exact ⟨by decide, by omega, by omega, hR⟩
    · rintro i x σ H2 H3 hi ⟨rfl, rest, v, rfl⟩ ⟨rfl, rfl⟩
      walk_at "rd"
      exact ⟨⟨by decide, by decide⟩, _, rfl⟩
    · rintro σ H2 ⟨rfl, rest, v, rfl⟩
      walk_at "rd"
      refine ite2 (fun _ => ⟨by decide, hm, q _ _ (Int.emod_nonneg _ (by omega)) (Int.emod_lt_of_pos _ hm) (Same.refl _)⟩) (fun _ => ?_)
      have b1 : 0 ≤ c % 1000003 := Int.emod_nonneg _ (by decide)
      have b2 : c % 1000003 < 1000003 := Int.emod_lt_of_pos _ (by decide)
      refine ⟨by decide, .inl ⟨by decide, by decide⟩, .inl ⟨by decide, by decide⟩, .inl ⟨by omega, by omega⟩, by decide, _, _, _, rfl, by omega, by omega, by decide, fun z H' z1 z2 s1 => ?_⟩
      exact ⟨z, rfl, hm, q _ _ (Int.emod_nonneg _ (by omega)) (Int.emod_lt_of_pos _ hm) s1⟩
/-! ### the state of drawing -/
/-- the script: frozen, or an object of the module -/
def Scr (K : PySem.W.Frag) (ns : List Int) (H : Hp) (scr : Addr) : Prop := (∃ o, H scr = some (.frz o (.lst (ns.map V.int)))) ∨ SqL K (fun _ => none) scr (ns.map V.int)
theorem Scr.sq {ns : List Int} {H : Hp} {scr : Addr} (h : Scr K ns H scr) : SqL K H scr (ns.map V.int) := by
  rcases h with ⟨o, h⟩ | (h | ⟨o, h⟩) | h
  · exact .inl (.inr ⟨o, h⟩)
  · cases h
  · cases h
  · exact .inr h
theorem Scr.kp {ns : List Int} {H H' : Hp} {scr p : Addr} {o : HO} (h : Scr K ns H scr) (k : Kp p H H') (hp : H p = some o) (no : ∀ u l, o ≠ .frz u l) : Scr K ns H' scr := by
  rcases h with ⟨u, h⟩ | h
  · refine .inl ⟨u, k _ _ h fun z => ?_⟩
    rw [z, hp] at h
    exact no _ _ (Option.some.inj h)
  · exact .inr h
theorem Scr.same {ns : List Int} {H H' : Hp} {scr : Addr} (h : Scr K ns H scr) (k : Same H H') : Scr K ns H' scr := h.imp (fun ⟨u, h⟩ => ⟨u, k _ _ h⟩) id
def Stt (K : PySem.W.Frag) (ns : List Int) (H : Hp) (st : Addr) : Prop := ∃ (scr : Addr) (b n : Int), H st = some (.lst [.ref scr, .int b, .int n]) ∧ Scr K ns H scr ∧ 0 ≤ b ∧ 0 ≤ n
theorem Stt.same {ns : List Int} {H H' : Hp} {st : Addr} (h : Stt K ns H st) (s : Same H H') : Stt K ns H' st := by
  obtain ⟨scr, b, n, h1, h2, h4⟩ := h
  exact ⟨scr, b, n, s _ _ h1, h2.same s, h4⟩
/-- another object is changed -/
theorem Stt.kp {ns : List Int} {H H' : Hp} {st p : Addr} {o : HO} (h : Stt K ns H st) (k : Kp p H H') (hp : H p = some o) (no : ∀ u l, o ≠ .frz u l) (ne : st ≠ p) : Stt K ns H' st := by
  obtain ⟨scr, b, n, h1, h2, h4⟩ := h
  exact ⟨scr, b, n, k _ _ h1 ne, h2.kp k hp no, h4⟩
theorem Stt.has {ns : List Int} {H : Hp} {st : Addr} (h : Stt K ns H st) : ∃ xs, H st = some (.lst xs) := by
  obtain ⟨scr, b, n, h1, _⟩ := h
  exact ⟨_, h1⟩
def sp_law_next (K : PySem.W.Frag) : Sp := fun vs H Q _ => ∃ (ns : List Int) (st : Addr) (m : Int), vs = [.ref st, .int m] ∧ Stt K ns H st ∧ 0 < m ∧ ∀ (z : Int) H', 0 ≤ z → z < m → Stt K ns H' st → Kp st H H' → Q (.int z) H'
theorem ok__law_next (T : Txt K mg a) : FnOk P w K mg base CX0 3 a.f__law_next a.d__law_next P__law_next (sp_law_next K) := by
  refine T.F__law_next.ok sc__law_next (fun vs H Q E h => ?_) (fun cdv A outer s H vs Q E hr h => ?_)
  · obtain ⟨ns, st, m, rfl, _⟩ := h
    rfl
  · obtain ⟨ns, st, m, rfl, ⟨scr, b, n, h1, h3, hb, hn⟩, hm, q⟩ := h
    have G__law_cell_at := ok__law_cell_at (P := P) (w := w) (base := base) T
    have B__law_cell_at := bi__law_cell_at T
    have G__law_number := ok__law_number (P := P) (w := w) (base := base) T
    have B__law_number := bi__law_number T
    refine ⟨_,
(pss_cons (ps_asg (pe_op op_add (pe_ix ix_list (pv 0) pe_int (fun _ _ => rfl)) pe_int) (pg_sub (pv 0) pe_int set_list))
    (pss_cons (ps_set (i := 2) sc__law_next.nd rfl (by first | exact Or.inl rfl | exact Or.inr rfl) (pe_op op_fdiv (pe_ix ix_list (pv 0) pe_int (fun _ _ => rfl)) pe_int))
    (pss_cons (ps_set (i := 3) sc__law_next.nd rfl (by first | exact Or.inl rfl | exact Or.inr rfl) (pe_op op_add (pe_call G__law_cell_at (hr.mono (by decide)) rfl T.f__law_cell_at.g T.f__law_cell_at.k B__law_cell_at .nil pass0 (pa_cons (pe_ix ix_list (pv 0) pe_int (fun _ _ => rfl)) (pa_cons (pe_op op_add (pe_ix ix_list (pv 0) pe_int (fun _ _ => rfl)) (pv 2)) pa_nil))) (pe_op op_mul pe_int (pv 2))))
    (pss_one (ps_ret (pe_call G__law_number (hr.mono (by decide)) rfl T.f__law_number.g T.f__law_number.k B__law_number .nil pass0 (pa_cons (pv 3) (pa_cons (pe_op op_add (pe_op op_mod (pe_ix ix_list (pv 0) pe_int (fun _ _ => rfl)) pe_int) pe_int) (pa_cons (pv 1) pa_nil)))))))))
      , ?_⟩
    rw [show start N__law_next [V.ref st, V.int m] = [some (.ref st), some (.int m), none, none] from rfl]
    walk_at "rd"
    have e1 : upd H st (HO.lst [V.ref scr, V.int b, V.int (n + 1)]) st = some (HO.lst [V.ref scr, V.int b, V.int (n + 1)]) := upd_same
    have k1 : Kp st H (upd H st (HO.lst [V.ref scr, V.int b, V.int (n + 1)])) := kp_upd
    refine ⟨_, .inl (.inl h1), _, rfl, n, rfl, _, h1, 2, rfl, ?_⟩
    simp only [List.set_cons_succ, List.set_cons_zero]
    generalize upd H st (HO.lst [V.ref scr, V.int b, V.int (n + 1)]) = H1 at *
    have n1 : 0 ≤ (n + 1) / 12 := by omega
    refine ⟨_, .inl (.inl e1), _, rfl, _, rfl, ⟨by decide, by decide⟩, _, .inl (.inl e1), _, rfl, _, .inl (.inl e1), _, rfl, _, rfl, ?_⟩
    have h3' := h3.kp k1 h1 (fun _ _ z => nomatch z)
    refine ⟨scr, b + (n + 1) / 12, ns, rfl, h3'.sq, by omega, fun z => ?_⟩
    refine ⟨.inl ⟨by decide, by decide⟩, z, rfl, _, .inl (.inl e1), _, rfl, _, rfl, by decide, ?_⟩
    refine ⟨_, _, m, rfl, by omega, by omega, hm, fun y H2 y1 y2 s2 => ?_⟩
    exact q y H2 y1 y2 ⟨scr, b, n + 1, s2 _ _ e1, h3'.same s2, hb, by omega⟩ (k1.trans (s2.kp st))
/-! ### drawn rules -/
def signs12 : Tx := [32, 39, 34, 92, 35, 10, 44, 59, 96, 94, 97, 98]
def sV (t : Tx) : V := .str (S t)
def sV1 (c : Nat) : V := .str (S [c])
theorem Ok_sgn {r : RS} (h : r.Ok) : ∀ c ∈ r.every, c < 1000 := fun c hc => by
  have := List.all_eq_true.mp h.sg c hc
  simp only [sgn, Bool.or_eq_true, decide_eq_true_eq] at this
  omega
def RS.tup (r : RS) : List V := [.str (S r.breaks), .str (S r.hard), .str (S r.soft), .str (S r.bend), .str (S r.note)]
def usual : RS := ⟨[32], [39], [34], [92], [35]⟩
theorem usual_ok : usual.Ok := ⟨by decide, by decide, by decide, by decide, by decide, by decide, by decide, by decide⟩
def lims : List Nat := [4, 2, 2, 1, 1]
structure TInv (K : PySem.W.Frag) (ns : List Int) (st left found : Addr) (H0 H : Hp) (ls : Tx) (parts : List Tx) (part : Tx) (i : Nat) : Prop where
  stt : Stt K ns H st
  l : H left = some (.lst (ls.map sV1))
  f : H found = some (.lst (parts.map sV))
  ln : parts.length = i
  lim : ∀ (j : Nat) (p : Tx) (n : Nat), parts[j]? = some p → lims[j]? = some n → p.length ≤ n
  ne : ∀ p : Tx, parts[0]? = some p → p ≠ []
  perm : (parts.flatten ++ (part ++ ls)).Perm signs12
  kp : Kp st H0 H
  tot : parts.flatten.length ≤ (lims.take i).sum
theorem TInv.same {ns : List Int} {st left found : Addr} {H0 H H' : Hp} {ls : Tx} {parts : List Tx} {part : Tx} {i : Nat} (h : TInv K ns st left found H0 H ls parts part i) (s : Same H H') : TInv K ns st left found H0 H' ls parts part i :=
  ⟨h.stt.same s, s _ _ h.l, s _ _ h.f, h.ln, h.lim, h.ne, h.perm, h.kp.trans (s.kp st), h.tot⟩
/-- drawing alone changes the state alone -/
theorem TInv.draw {ns : List Int} {st left found : Addr} {H0 H H' : Hp} {ls : Tx} {parts : List Tx} {part : Tx} {i : Nat} (h : TInv K ns st left found H0 H ls parts part i) (n1 : left ≠ st) (n2 : found ≠ st) (t : Stt K ns H' st) (s : Kp st H H') :
    TInv K ns st left found H0 H' ls parts part i := ⟨t, s _ _ h.l n1, s _ _ h.f n2, h.ln, h.lim, h.ne, h.perm, h.kp.trans s, h.tot⟩
theorem TInv.few {ns : List Int} {st left found : Addr} {H0 H : Hp} {ls : Tx} {parts : List Tx} {part : Tx} {i : Nat} (h : TInv K ns st left found H0 H ls parts part i) (hp : (lims.take i).sum + part.length < 12) : 0 < ls.length := by
  have e := h.perm.length_eq
  rw [List.length_append, List.length_append, show signs12.length = 12 from rfl] at e
  have := h.tot
  omega
theorem TInv.ok8 {ns : List Int} {st left found : Addr} {H0 H : Hp} {ls : Tx} {parts : List Tx} {part : Tx} {i : Nat} (h : TInv K ns st left found H0 H ls parts part i) : ∀ t ∈ parts, ok8 t := fun t ht c hc => by
  have h1 : c ∈ parts.flatten ++ (part ++ ls) := List.mem_append_left _ (List.mem_flatten.mpr ⟨t, ht, hc⟩)
  have h2 := h.perm.mem_iff.mp h1
  have : ∀ c ∈ signs12, c < 1000 := by decide
  exact this c h2
def sp_law_told (K : PySem.W.Frag) : Sp := fun vs H Q _ => ∃ (ns : List Int) (st : Addr), vs = [.ref st] ∧ Stt K ns H st ∧ ∀ (r : RS) tp H', r.Ok → H tp = none → H' tp = some (.tup r.tup) → Stt K ns H' st → Kp st H H' → Q (.ref tp) H'
theorem ok__law_told (T : Txt K mg a) : FnOk P w K mg base CX0 4 a.f__law_told a.d__law_told P__law_told (sp_law_told K) := by
  refine T.F__law_told.ok sc__law_told (fun vs H Q E h => ?_) (fun cdv A outer s H vs Q E hr h => ?_)
  · obtain ⟨ns, st, rfl, _⟩ := h
    rfl
  · obtain ⟨ns, st, rfl, hs, q⟩ := h
    have G__law_next := ok__law_next (P := P) (w := w) (base := base) T
    have B__law_next := bi__law_next T
    refine ⟨_,
(pss_cons (ps_set (i := 1) sc__law_told.nd rfl (by first | exact Or.inl rfl | exact Or.inr rfl) (pe_callTy (call_list_str rfl) (by rfl) T.b_list (by decide +kernel) (pa_cons pe_str pa_nil)))
    (pss_cons (ps_if (pt_cmpR op_eq (pe_call G__law_next (hr.mono (by decide)) rfl T.f__law_next.g T.f__law_next.k B__law_next .nil pass0 (pa_cons (pv 0) (pa_cons pe_int pa_nil))) pe_int (nomark _)) (pss_one (ps_ret (pe_tup (pa_cons pe_str (pa_cons pe_str (pa_cons pe_str (pa_cons pe_str (pa_cons pe_str pa_nil)))))))) pss_nil)
    (pss_cons (ps_set (i := 2) sc__law_told.nd rfl (by first | exact Or.inl rfl | exact Or.inr rfl) (pe_lst pa_nil))
    (pss_cons (ps_for PassesOwn.never rfl (pi_tup (pe_tup (pa_cons pe_int (pa_cons pe_int (pa_cons pe_int (pa_cons pe_int (pa_cons pe_int pa_nil))))))) (pg_name (i := 3) sc__law_told.nd rfl (Or.inl rfl))
    (pss_cons (ps_par (i := 4) (j := 5) (by rfl) sc__law_told.nd rfl rfl (by decide) rfl rfl (pa_cons pe_str (pa_cons (pe_callTy call_int1 (by rfl) T.b_int (by decide +kernel) (pa_cons (pe_cmpR (op_eqD hr.units) (pv 2) (pe_lst pa_nil) (nomark _)) pa_nil)) pa_nil)) (by rfl))
    (pss_cons (ps_for PassesOwn.never rfl (pi_range1 rfl T.b_range (pa_cons (pe_op op_add (pv 5) (pe_call G__law_next (hr.mono (by decide)) rfl T.f__law_next.g T.f__law_next.k B__law_next .nil pass0 (pa_cons (pv 0) (pa_cons (pv 3) pa_nil)))) pa_nil)) (pg_name (i := 6) sc__law_told.nd rfl (Or.inl rfl))
    (pss_one (ps_set (i := 4) sc__law_told.nd rfl (by first | exact Or.inl rfl | exact Or.inr rfl) (pe_op op_add_str (pv 4) (pe_bm PySem.F.plainAttrs_list PySem.F.slot_list_pop PySem.F.type_list_pop mt_popAt (pv 1) (pa_cons (pe_call G__law_next (hr.mono (by decide)) rfl T.f__law_next.g T.f__law_next.k B__law_next .nil pass0 (pa_cons (pv 0) (pa_cons (pe_callB call_len_seq (by rfl) T.b_len PySem.boot_len (pa_cons (pv 1) pa_nil)) pa_nil))) pa_nil))))))
    (pss_one (ps_expr (pe_bm PySem.F.plainAttrs_list PySem.F.slot_list_append PySem.F.type_list_append mt_append (pv 2) (pa_cons (pv 4) pa_nil)))))))
    (pss_one (ps_ret (pe_callTy call_tuple_of (by rfl) T.b_tuple (by decide +kernel) (pa_cons (pv 2) pa_nil))))))))
      , ?_⟩
    rw [show start N__law_told [V.ref st] = [some (.ref st), none, none, none, none, none, none] from rfl]
    walk_at "rd"
    refine ⟨signs12, by decide +kernel, by decide, fun left hl => ?_⟩
    have S1 := same_new (o := HO.lst (signs12.map sV1)) hl
    have l1 : upd H left (HO.lst (signs12.map sV1)) left = some (HO.lst (signs12.map sV1)) := upd_same
    show sp_law_next K [V.ref st, V.int 3] (upd H left (HO.lst (signs12.map sV1))) _ _
    generalize upd H left (HO.lst (signs12.map sV1)) = H1 at *
    refine ⟨ns, st, 3, rfl, hs.same S1, by decide, fun z H2 z1 z2 hs2 k2 => ⟨rfl, ?_⟩⟩
    have nls : left ≠ st := fun e => by
      obtain ⟨xs, e1⟩ := hs.has
      rw [← e, hl] at e1; cases e1
    have K2 : Kp st H H2 := (S1.kp st).trans k2
    have l2 := k2 _ _ l1 nls
    have fr : ∀ {H' : Hp} {p : Addr}, Kp st H H' → H' p = none → Stt K ns H' st → H p = none := fun {H' p} k e t => by
      cases e1 : H p with
      | none => rfl
      | some o =>
        obtain ⟨xs, e2⟩ := t.has
        have := k _ _ e1 fun z => by rw [z, e2] at e; cases e
        rw [e] at this; cases this
    refine ite2 (fun _ tp htp => ?_) (fun _ found hf => ?_)
    · refine q usual tp _ usual_ok (fr K2 htp hs2) ?_ (hs2.same (same_new htp)) (K2.trans ((same_new htp).kp st))
      rw [upd_same]
      exact congrArg (fun l => some (HO.tup l)) (by decide +kernel)
    have f0 := fr K2 hf hs2
    have S3 := same_new (o := HO.lst []) hf
    have hs3 := hs2.same S3
    have nfl : found ≠ left := fun z => by rw [z, l2] at hf; cases hf
    have nfs : found ≠ st := fun z => by
      obtain ⟨xs, e2⟩ := hs2.has
      rw [z, e2] at hf; cases hf
    have l3 := S3 _ _ l2
    have f3 : upd H2 found (HO.lst []) found = some (HO.lst []) := upd_same
    have K3 : Kp st H (upd H2 found (HO.lst [])) := K2.trans (S3.kp st)
    generalize upd H2 found (HO.lst []) = H3 at *
    have inv0 : TInv K ns st left found H H3 signs12 [] [] 0 := ⟨hs3, l3, f3, rfl, fun j p n e => (by simp at e), fun p e => (by simp at e), List.Perm.refl _, K3, Nat.zero_le _⟩
    have mosts : ∀ i : Nat, i < 5 → ∀ x, ([V.int 4, V.int 3, V.int 3, V.int 2, V.int 2] : List V)[i]? = some x → ∃ m n : Nat, x = .int m ∧ 0 < m ∧ lims[i]? = some n ∧ (i = 0 → m ≤ n) ∧ m ≤ n + 1 ∧ n ≤ 4 ∧ (lims.take i).sum + n ≤ 10 ∧ (lims.take (i + 1)).sum = (lims.take i).sum + n := fun i hi x e => by
      match i, hi, e with
      | 0, _, e => cases e; exact ⟨4, 4, rfl, by decide⟩
      | 1, _, e => cases e; exact ⟨3, 2, rfl, by decide⟩
      | 2, _, e => cases e; exact ⟨3, 2, rfl, by decide⟩
      | 3, _, e => cases e; exact ⟨2, 1, rfl, by decide⟩
      | 4, _, e => cases e; exact ⟨2, 1, rfl, by decide⟩
    refine tfor_all (C := fun p => H3 p = none) (J := fun p => Itt K p) (H1 := fun p => upd H3 p (.tup [.int 4, .int 3, .int 3, .int 2, .int 2])) (fun R hR => ?_) fun p hp => ?_
    · walk_at "rd"
      exact fun p hp => ⟨⟨_, .inl (.inl upd_same)⟩, hR p hp⟩
    refine for_it (n := 5) (walk_tup (xs := [.int 4, .int 3, .int 3, .int 2, .int 2])) (fun i σ H4 => H4 p = some (.tup [.int 4, .int 3, .int 3, .int 2, .int 2]) ∧ ∃ v3 v4 v5 v6 ls parts, σ = [some (.ref st), some (.ref left), some (.ref found), v3, v4, v5, v6] ∧
      TInv K ns st left found H H4 ls parts [] i) ?_ (fun i σ H hi h => .inl (.inl h.1)) ?_ ?_
    · have S4 := same_new (o := HO.tup [.int 4, .int 3, .int 3, .int 2, .int 2]) hp
      exact ⟨upd_same, none, none, none, none, signs12, [], rfl, ⟨inv0.stt.same S4, S4 _ _ inv0.l, S4 _ _ inv0.f, inv0.ln, inv0.lim, inv0.ne, inv0.perm, inv0.kp.trans (S4.kp st), inv0.tot⟩⟩
    · rintro i x σ H4 H5 hi ⟨tp, v3, v4, v5, v6, ls, parts, rfl, inv⟩ ⟨rfl, hx⟩
      obtain ⟨m, n, rfl, m0, hn, mn0, mn, n4, tn, t1⟩ := mosts i hi x hx
      walk_at "rd"
      intro p1 hp1
      have S5 := same_new (o := HO.lst []) hp1
      have inv5 := inv.same S5
      have tp5 := S5 _ _ tp
      have y5 : upd H5 p1 (HO.lst []) p1 = some (HO.lst []) := upd_same
      generalize upd H5 p1 (HO.lst []) = H6 at *
      have te : tame (wsD parts) = true := wsD_tame inv5.ok8
      refine ⟨wsD parts, dp_ws (.inl (.inl inv5.f)), .list [], .lst (.inl (.inl y5)) .nil, shaped_of te (Nat.le_trans (wsD_depth _) (by decide)), by decide, .inr ?_⟩
      have ev : PyData.eqv (wsD parts) (.list []) = decide (parts = []) := eqv_dec te rfl (wsD_inj (y := []))
      rw [ev]
      obtain ⟨least, hle, l0⟩ : ∃ least : Nat, (if decide (parts = []) = true then 1 else 0 : Int) = least ∧ ((i = 0 ∧ least = 1) ∨ (i ≠ 0 ∧ least = 0)) := by
        by_cases e : parts = []
        · exact ⟨1, by simp [e], .inl ⟨by rw [← inv5.ln, e]; rfl, rfl⟩⟩
        · exact ⟨0, by simp [e], .inr ⟨fun z => e (List.eq_nil_of_length_eq_zero (inv5.ln.trans z)), rfl⟩⟩
      rw [hle]
      refine tfor_all (ι := Int × Hp) (C := fun x => 0 ≤ x.1 ∧ x.1 < m ∧ Stt K ns x.2 st ∧ Kp st H6 x.2) (J := fun x => Itr 0 ((least : Int) + x.1).toNat) (H1 := fun x => x.2) (fun R hR => ?_) fun x hx => ?_
      · walk_at "rd"
        exact ⟨ns, st, m, rfl, inv5.stt, by omega, fun z H' z1 z2 t k => ⟨z, rfl, by omega, by omega, hR (z, H') ⟨z1, z2, t, k⟩⟩⟩
      obtain ⟨z, H7⟩ := x
      obtain ⟨c1, c2, c3, c4⟩ := hx
      dsimp only at c1 c2 c3 c4
      have inv7 := inv5.draw nls nfs c3 c4
      have nps : p ≠ st := fun e => by
        obtain ⟨xs, e2⟩ := inv.stt.has
        rw [← e, tp] at e2; cases e2
      have tp7 := c4 _ _ tp5 nps
      have hn' : ((least : Int) + z).toNat ≤ n := by omega
      refine for_it (n := ((least : Int) + z).toNat) walk_range (fun k σ H8 => H8 p = some (.tup [.int 4, .int 3, .int 3, .int 2, .int 2]) ∧ ∃ v6 ls part, σ = [some (.ref st), some (.ref left), some (.ref found), some (.int m), some (.str (S part)), some (.int least), v6] ∧ part.length = k ∧
        TInv K ns st left found H H8 ls parts part i) ?_ (fun _ _ _ _ _ => trivial) ?_ ?_
      · exact ⟨tp7, _, _, [], rfl, rfl, inv7⟩
      · rintro k x σ H8 H9 hk ⟨tp8, v6, ls, part, rfl, pl, inv8⟩ ⟨rfl, rfl⟩
        walk_at "rd"
        have few := inv8.few (by omega)
        refine ⟨.inl ⟨rfl, _, .inl (.inl inv8.l)⟩, _, .inl (.inl (.inl inv8.l)), ?_⟩
        refine ⟨ns, st, _, rfl, inv8.stt, by rw [List.length_map]; omega, fun y H10 y1 y2 t10 k10 => ?_⟩
        rw [List.length_map] at y2
        have inv10 := inv8.draw nls nfs t10 k10
        obtain ⟨j, hj, rfl⟩ : ∃ j : Nat, j < ls.length ∧ y = (j : Int) := ⟨y.toNat, by omega, by omega⟩
        have lz : ls.length ≤ 12 := by
          have e := inv8.perm.length_eq
          rw [List.length_append, List.length_append, show signs12.length = 12 from rfl] at e
          omega
        refine ⟨_, _, rfl, inv10.l, by omega, by omega, j, seqIndex_of (by omega) (by rw [List.length_map]; omega), sV1 ls[j], by rw [List.getElem?_map, List.getElem?_eq_getElem hj]; rfl, _, rfl, ?_, ?_, _, ls.eraseIdx j, part ++ [ls[j]], S_app _ _, rfl, by rw [List.length_append, pl]; rfl, ?_⟩
        · exact Nat.le_trans (show part.length + 1 ≤ 100 by omega) (by decide)
        · have npl : p ≠ left := fun e => by
            have := inv8.l
            rw [← e, tp8] at this; cases this
          rw [upd_ne npl]
          exact k10 _ _ tp8 nps
        · have el : (ls.map sV1).eraseIdx j = (ls.eraseIdx j).map sV1 := map_eraseIdx' _ _ _
          rw [el]
          refine ⟨inv10.stt.kp kp_upd inv10.l (fun _ _ z => nomatch z) (Ne.symm nls), upd_same, by rw [upd_ne nfl]; exact inv10.f, inv10.ln, inv10.lim, inv10.ne, ?_, inv10.kp.mut hl, inv10.tot⟩
          refine List.Perm.trans ?_ inv10.perm
          rw [List.append_assoc]
          exact List.Perm.append_left _ (List.Perm.append_left _ (perm_eraseIdx hj))
      · rintro σ H8 ⟨tp8, v6, ls, part, rfl, pl, inv8⟩
        walk_at "rd"
        have pz : parts.length ≤ 5 := by rw [inv8.ln]; omega
        refine ⟨.inl ⟨rfl, _, .inl (.inl inv8.f)⟩, _, inv8.f, ?_, ?_, ⟨_, rfl⟩, ls, parts ++ [part], ?_⟩
        · rw [List.length_map]
          exact Nat.lt_of_le_of_lt pz (by decide)
        · have npf : p ≠ found := fun e => by
            have := inv8.f
            rw [← e, tp8] at this; cases this
          rw [upd_ne npf]
          exact tp8
        · have tt := inv8.tot
          refine ⟨inv8.stt.kp kp_upd inv8.f (fun _ _ z => nomatch z) (Ne.symm nfs), by rw [upd_ne (Ne.symm nfl)]; exact inv8.l, by rw [upd_same, List.map_append]; rfl, by rw [List.length_append, inv8.ln]; rfl, fun j q c hq hc => ?_, fun q hq => ?_, ?_, inv8.kp.mut f0, ?_⟩
          · by_cases hj : j < parts.length
            · rw [List.getElem?_append_left hj] at hq
              exact inv8.lim j q c hq hc
            · rw [List.getElem?_append_right (by omega)] at hq
              have hj0 : j - parts.length = 0 := by
                cases e : j - parts.length with
                | zero => rfl
                | succ _ => rw [e] at hq; simp at hq
              have hji : j = i := by have := inv8.ln; omega
              rw [hj0] at hq
              cases (Option.some.inj hq : part = q)
              rw [hji, hn] at hc
              cases hc
              omega
          · rcases l0 with ⟨i0, e1⟩ | ⟨i0, e1⟩
            · have e2 : parts = [] := List.eq_nil_of_length_eq_zero (inv8.ln.trans i0)
              rw [e2] at hq
              cases (Option.some.inj hq : part = q)
              intro e3
              rw [e3] at pl
              simp only [List.length_nil] at pl
              omega
            · rw [List.getElem?_append_left (by rw [inv8.ln]; omega)] at hq
              exact inv8.ne q hq
          · refine List.Perm.trans (List.Perm.of_eq ?_) inv8.perm
            simp
          · rw [t1, List.flatten_append, List.length_append]
            simp only [List.flatten_cons, List.flatten_nil, List.append_nil]
            omega
    · rintro σ H4 ⟨tp, v3, v4, v5, v6, ls, parts, rfl, inv⟩
      walk_at "rd"
      have ln := inv.ln
      have l4 := inv.lim
      have l5 := inv.ne
      have l6 := inv.perm
      have l7 := inv.f
      match parts, ln, l4, l5, l6, l7 with
      | [b, h, so, be, no], _, l4, l5, l6, l7 =>
        have nd12 : signs12.Nodup := by decide
        have sg12 : ∀ c ∈ signs12, sgn c = true := by decide
        have fe : [b, h, so, be, no].flatten = (⟨b, h, so, be, no⟩ : RS).every := by simp [RS.every]
        rw [fe] at l6
        have ok : (⟨b, h, so, be, no⟩ : RS).Ok := ⟨l4 0 b 4 rfl rfl, l4 1 h 2 rfl rfl, l4 2 so 2 rfl rfl, l4 3 be 1 rfl rfl, l4 4 no 1 rfl rfl, l5 b rfl,
          List.all_eq_true.mpr fun c hc => sg12 c (l6.mem_iff.mp (List.mem_append_left _ hc)), (List.nodup_append.mp (l6.nodup_iff.mpr nd12)).1⟩
        refine ⟨_, .inl ⟨.inl (.inl l7), fun t ht => ?_⟩⟩
        exact q ⟨b, h, so, be, no⟩ t _ ok (fr inv.kp ht inv.stt) upd_same (inv.stt.same (same_new ht)) (inv.kp.trans ((same_new ht).kp st))
def sp_law_rules (a : Ad) : Sp := fun vs H Q _ => ∃ tp r, vs = [.ref tp] ∧ H tp = some (.tup (RS.tup r)) ∧ r.Ok ∧ ∀ p dx H', H p = none → H' p = some (.ins a.c_Rules dx r.f) → Same H H' → Q (.ref p) H'
theorem ok__law_rules (T : Txt K mg a) : FnOk P w K mg base CX0 4 a.f__law_rules a.d__law_rules P__law_rules (sp_law_rules a) := by
  refine T.F__law_rules.ok sc__law_rules (fun vs H Q E h => ?_) (fun cdv A outer s H vs Q E hr h => ?_)
  · obtain ⟨tp, r, rfl, _⟩ := h
    rfl
  · obtain ⟨tp, r, rfl, ht, ok, q⟩ := h
    have G_Rules_init := ok_Rules_init (P := P) (w := w) (base := base) T
    have B_Rules_init := bi_Rules_init T
    obtain ⟨Ds_Rules_init0, D_Rules_init0, B_Rules_init0⟩ := bi_Rules_init0 T
    refine ⟨_,
(pss_one (ps_ret (pe_make T.c_Rules.mc G_Rules_init (hr.mono (by decide)) rfl T.c_Rules.g B_Rules_init .nil pass0 (pa_cons (pe_ix ix_tup (pv 0) pe_int (fun _ _ => rfl)) (pa_cons (pe_ix ix_tup (pv 0) pe_int (fun _ _ => rfl)) (pa_cons (pe_ix ix_tup (pv 0) pe_int (fun _ _ => rfl)) (pa_cons (pe_ix ix_tup (pv 0) pe_int (fun _ _ => rfl)) (pa_cons (pe_ix ix_tup (pv 0) pe_int (fun _ _ => rfl)) pa_nil))))))))
      , ?_⟩
    rw [show start N__law_rules [V.ref tp] = [some (.ref tp)] from rfl]
    walk_at "rd"
    refine ⟨_, .inl (.inl ht), _, rfl, _, .inl (.inl ht), _, rfl, _, .inl (.inl ht), _, rfl, _, .inl (.inl ht), _, rfl, _, .inl (.inl ht), _, rfl, fun x dx hx hdx ne => ?_⟩
    refine ⟨x, dx, r, rfl, ok, upd_same, fun H' h1 h2 => ⟨rfl, q x dx H' hx h1 (Same.made hx hdx h2)⟩⟩
end
end Qw

set_option Elab.async false
set_option linter.all false
set_option maxRecDepth 100000
set_option maxHeartbeats 4000000
namespace Qw
open PySem L2
local macro_rules | `(tactic| walk_at "rd") => `(tactic| simp only [tRevL, rSlS, rSlL, gSub, rSetL, wipe, List.map_cons, List.map_nil, rAll, rAny, rIsi, tM1, tM0, iZipLT, iZip, iRng2, tLenSetS, rListStr, rMulS, rCntB, tRevS, rNeD, rEqD, tSeq, tNext, tAsg, tRet, tRetN, tDrop, tIfS, sFld, sFldAug, tVar, tC, tOp, tUn, tTest, tB, tAnd, tOr, tNot, tAndV, tOrV, tNotV, tIf, tTup, tLst, tCons, tNil, tCB, tCall, tMeth, tMake, tFld, rI, rI0, rU, rEq, rNe, rCat, gName, gTup, gCons, gNil, tPar, tPar3, tBM, tBM0, rAppend, rExtend, rPopAt, rIxL, rIxT, rIxS, tSl, rSlS, rSlL, tPart, tNoPart, iStr, iTup, iList, iRng1, tAug, ipI, L2.rAdd, L2.rSub, L2.rAddS, tChain, rIsB, rNotB, scal_ss, scal_ii, scal_bb, scal_nn, scal_in, scal_ni, tYes,
  cx_K, cx_N, List.getElem?_cons_zero, List.getElem?_cons_succ, List.set_cons_zero, List.set_cons_succ, List.nil_append, List.cons_append, List.append_nil, List.length_cons, List.length_nil, Nat.zero_add,
  Option.some.injEq, V.ref.injEq, V.int.injEq, V.str.injEq, V.bl.injEq, HO.ins.injEq, HO.lst.injEq, HO.tup.injEq, List.cons.injEq, exists_eq_left, exists_eq_left', exists_eq_right, exists_eq_right', and_true, true_and, exists_and_left, exists_and_right, and_assoc, decide_eq_true_eq, Bool.not_eq_true', decide_eq_false_iff_not, reduceCtorEq, exists_const, forall_const, if_true, if_false, false_and, and_false, ite_true, ite_false, Bool.true_eq_false, Bool.false_eq_true, Nat.reduceLeDiff, Nat.reduceAdd, small_line, small_lt, upd_ne, ne_eq, not_false_eq_true, Nat.zero_le, Prod.mk.injEq, upd_same, upd_upd, S_tl, S_len, S_app, S_one, S_inj,
  lk_breaks, lk_hard, lk_soft, lk_bend, lk_note, lk_rules, lk_state, lk_bent, lk_word, lk_begun, lk_opened, lk_place, pt_state, pt_bent, pt_word, pt_wordS, pt_wordN, pt_begun, pt_opened, pt_place, pt_place1, len_mf, litv_empty, litv_note, litv_nl, mf_inj, rf_inj, lkn_begin, lkn_ended, lkn_plain, lkn_quoted, lkn_step, lkn_fault, lkn_key, lkn_told, lkn_quotes, lkn_special, pt_open1, not_true_eq_false, not_false_eq_true])
local macro_rules | `(tactic| walk_at "rdh") => `(tactic| simp only [tRevL, rSlS, rSlL, gSub, rSetL, wipe, List.map_cons, List.map_nil, rAll, rAny, rIsi, tM1, tM0, iZipLT, iZip, iRng2, tLenSetS, rListStr, rMulS, rCntB, tRevS, rNeD, rEqD, tSeq, tNext, tAsg, tRet, tRetN, tDrop, tIfS, sFld, sFldAug, tVar, tC, tOp, tUn, tTest, tB, tAnd, tOr, tNot, tAndV, tOrV, tNotV, tIf, tTup, tLst, tCons, tNil, tCB, tCall, tMeth, tMake, tFld, rI, rI0, rU, rEq, rNe, rCat, gName, gTup, gCons, gNil, tPar, tPar3, tBM, tBM0, rAppend, rExtend, rPopAt, rIxL, rIxT, rIxS, tSl, rSlS, rSlL, tPart, tNoPart, iStr, iTup, iList, iRng1, tAug, ipI, L2.rAdd, L2.rSub, L2.rAddS, tChain, rIsB, rNotB, scal_ss, scal_ii, scal_bb, scal_nn, scal_in, scal_ni, tYes,
  cx_K, cx_N, List.getElem?_cons_zero, List.getElem?_cons_succ, List.set_cons_zero, List.set_cons_succ, List.nil_append, List.cons_append, List.append_nil, List.length_cons, List.length_nil, Nat.zero_add,
  Option.some.injEq, V.ref.injEq, V.int.injEq, V.str.injEq, V.bl.injEq, HO.ins.injEq, HO.lst.injEq, HO.tup.injEq, List.cons.injEq, exists_eq_left, exists_eq_left', exists_eq_right, exists_eq_right', and_true, true_and, exists_and_left, exists_and_right, and_assoc, decide_eq_true_eq, Bool.not_eq_true', decide_eq_false_iff_not, reduceCtorEq, exists_const, forall_const, if_true, if_false, false_and, and_false, ite_true, ite_false, Bool.true_eq_false, Bool.false_eq_true, Nat.reduceLeDiff, Nat.reduceAdd, small_line, small_lt, upd_ne, ne_eq, not_false_eq_true, Nat.zero_le, Prod.mk.injEq, upd_same, upd_upd, S_tl, S_len, S_app, S_one, S_inj,
  lk_breaks, lk_hard, lk_soft, lk_bend, lk_note, lk_rules, lk_state, lk_bent, lk_word, lk_begun, lk_opened, lk_place, pt_state, pt_bent, pt_word, pt_wordS, pt_wordN, pt_begun, pt_opened, pt_place, pt_place1, len_mf, litv_empty, litv_note, litv_nl, mf_inj, rf_inj, lkn_begin, lkn_ended, lkn_plain, lkn_quoted, lkn_step, lkn_fault, lkn_key, lkn_told, lkn_quotes, lkn_special, pt_open1, not_true_eq_false, not_false_eq_true, *])
local macro_rules | `(tactic| walk_at "pl") => `(tactic| (first | decide | (refine Nat.lt_of_le_of_lt (length_putF _ _ _) ?_; repeat (first | decide | refine pl2 ?_))))
local macro_rules | `(tactic| walk_at "al") => `(tactic| (intro p hp; generalize hH : upd _ p _ = H1; obtain ⟨S, e⟩ := gen_new hH hp; clear hH))
theorem atI_S {t : Tx} {z : Int} (h0 : 0 ≤ z) (h : z < t.length) : ∃ (j : Nat) (hj : j < t.length), z = (j : Int) ∧ atI (S t).cps.toList z = some t[j] := by
  rw [S_tl]
  exact at_in h0 h
theorem atI_S' {t : Tx} {j c : Nat} (h : t[j]? = some c) : atI (S t).cps.toList (j : Int) = some c := by
  rw [S_tl]
  exact atI_nat h
theorem tseq_split {A B : TS} {D : Ends} {σ : St} {H : Hp} (Mid : St → Hp → Prop) (h1 : ∀ N : St → Hp → Prop, (∀ σ' H', Mid σ' H' → N σ' H') → A { D with nx := N } σ H) (h2 : ∀ σ' H', Mid σ' H' → B D σ' H') : tSeq A B D σ H := h1 _ h2
section
variable {P : Program} {w : World} {K : PySem.W.Frag} {mg : Str → Option Value} {base : Heap} {a : Ad}
def sp_law_text (K : PySem.W.Frag) : Sp := fun vs H Q _ => ∃ (ns : List Int) (st tp : Addr) (r : RS) (m : Nat), vs = [.ref st, .ref tp, .int m] ∧ Stt K ns H st ∧ H tp = some (.tup (RS.tup r)) ∧ r.Ok ∧ m ≤ 400 ∧
  ∀ (t : Tx) H', t.length ≤ m → t.all sgn = true → Stt K ns H' st → Kp st H H' → Q (.str (S t)) H'
theorem ok__law_text (T : Txt K mg a) : FnOk P w K mg base CX0 4 a.f__law_text a.d__law_text P__law_text (sp_law_text K) := by
  refine T.F__law_text.ok sc__law_text (fun vs H Q E h => ?_) (fun cdv A outer s H vs Q E hr h => ?_)
  · obtain ⟨ns, st, tp, r, m, rfl, _⟩ := h
    rfl
  · obtain ⟨ns, st, tp, r, m, rfl, hs, ht, ok, hm, q⟩ := h
    have G__law_next := ok__law_next (P := P) (w := w) (base := base) T
    have B__law_next := bi__law_next T
    refine ⟨_,
(pss_cons (ps_par (i := 3) (j := 4) (by rfl) sc__law_text.nd rfl rfl (by decide) rfl rfl (pa_cons (pe_op op_add_str (pe_join pe_str (pv 1)) pe_str) (pa_cons pe_str pa_nil)) (by rfl))
    (pss_cons (ps_for PassesOwn.never rfl (pi_range1 rfl T.b_range (pa_cons (pe_call G__law_next (hr.mono (by decide)) rfl T.f__law_next.g T.f__law_next.k B__law_next .nil pass0 (pa_cons (pv 0) (pa_cons (pe_op op_add (pv 2) pe_int) pa_nil))) pa_nil)) (pg_name (i := 5) sc__law_text.nd rfl (Or.inl rfl))
    (pss_cons (ps_set (i := 6) sc__law_text.nd rfl (by first | exact Or.inl rfl | exact Or.inr rfl) (pe_ifExp (pt_cmpR op_gt (pe_call G__law_next (hr.mono (by decide)) rfl T.f__law_next.g T.f__law_next.k B__law_next .nil pass0 (pa_cons (pv 0) (pa_cons pe_int pa_nil))) pe_int (nomark _)) (pv 3) pe_str))
    (pss_one (ps_set (i := 4) sc__law_text.nd rfl (by first | exact Or.inl rfl | exact Or.inr rfl) (pe_op op_add_str (pv 4) (pe_ix ix_str (pv 6) (pe_call G__law_next (hr.mono (by decide)) rfl T.f__law_next.g T.f__law_next.k B__law_next .nil pass0 (pa_cons (pv 0) (pa_cons (pe_callB call_len_str (by rfl) T.b_len PySem.boot_len (pa_cons (pv 6) pa_nil)) pa_nil))) (fun _ _ => rfl)))))))
    (pss_one (ps_ret (pv 4)))))
      , ?_⟩
    rw [show start N__law_text [V.ref st, V.ref tp, V.int m] = [some (.ref st), some (.ref tp), some (.int m), none, none, none, none] from rfl]
    walk_at "rd"
    have ev : r.every.length ≤ 10 := by
      have h1 := ok.l1; have h2 := ok.l2; have h3 := ok.l3; have h4 := ok.l4; have h5 := ok.l5
      simp only [RS.every, List.length_append]; omega
    have jn : Txt.join (S []) [S r.breaks, S r.hard, S r.soft, S r.bend, S r.note] = S r.every := by
      have := join_flat [r.breaks, r.hard, r.soft, r.bend, r.note]
      simpa [RS.every] using this
    have lab : Str.ofString "ab \n" = S [97, 98, 32, 10] := by decide +kernel
    have lcd : Str.ofString "cde~!" = S [99, 100, 101, 126, 33] := by decide +kernel
    refine ⟨⟨_, rfl⟩, [S r.breaks, S r.hard, S r.soft, S r.bend, S r.note], .inr (.inl (.inl ht)), ?_, ?_⟩
    · have h1 := ok.l1; have h2 := ok.l2; have h3 := ok.l3; have h4 := ok.l4; have h5 := ok.l5
      simp only [List.map_cons, List.map_nil, List.sum_cons, List.sum_nil, S_len, List.length_cons, List.length_nil]; omega
    rw [jn, lab, lcd, S_app]
    have sgS : ∀ c ∈ r.every ++ [97, 98, 32, 10], sgn c = true := fun c hc => by
      rcases List.mem_append.mp hc with h | h
      · exact List.all_eq_true.mp ok.sg c h
      · exact (show ∀ c ∈ [97, 98, 32, 10], sgn c = true by decide) c h
    have sgC : ∀ c ∈ [99, 100, 101, 126, 33], sgn c = true := by decide
    have lS : (r.every ++ [97, 98, 32, 10]).length ≤ 14 := by simp only [List.length_append, List.length_cons, List.length_nil]; omega
    have l0 : 0 < (r.every ++ [97, 98, 32, 10]).length := by simp only [List.length_append, List.length_cons, List.length_nil]; omega
    generalize r.every ++ [97, 98, 32, 10] = sg at *
    refine ⟨by rw [S_len, S_len]; exact Nat.le_trans (show r.every.length + 4 ≤ 14 by omega) (by decide), ?_⟩
    refine tfor_all (ι := Int × Hp) (C := fun x => 0 ≤ x.1 ∧ x.1 < (m : Int) + 1 ∧ Stt K ns x.2 st ∧ Kp st H x.2) (J := fun x => Itr 0 x.1.toNat) (H1 := fun x => x.2) (fun R hR => ?_) fun x hx => ?_
    · walk_at "rd"
      exact ⟨ns, st, _, rfl, hs, by omega, fun z H' z1 z2 t k => ⟨z, rfl, by omega, by omega, hR (z, H') ⟨z1, z2, t, k⟩⟩⟩
    obtain ⟨z, H1⟩ := x
    obtain ⟨c1, c2, c3, c4⟩ := hx
    dsimp only at c1 c2 c3 c4
    refine for_it (n := z.toNat) walk_range (fun k σ H2 => ∃ v5 v6 t, σ = [some (.ref st), some (.ref tp), some (.int m), some (.str (S sg)), some (.str (S t)), v5, v6] ∧ t.length = k ∧ t.all sgn = true ∧ Stt K ns H2 st ∧ Kp st H H2)
      ⟨_, _, [], rfl, rfl, rfl, c3, c4⟩ (fun _ _ _ _ _ => trivial) ?_ ?_
    · rintro k x σ H2 H3 hk ⟨v5, v6, t, rfl, tl, ts, t2, k2⟩ ⟨rfl, rfl⟩
      walk_at "rd"
      refine ⟨ns, st, 4, rfl, t2, by decide, fun y H4 y1 y2 t4 k4 => ⟨y, rfl, ?_⟩⟩
      have fin : ∀ c H', sgn c = true → Stt K ns H' st → Kp st H4 H' → t.length + 1 ≤ sizeLine ∧ (t ++ [c]).length = k + 1 ∧ (t ++ [c]).all sgn = true ∧ Stt K ns H' st ∧ Kp st H H' := fun c H' h1 h2 h3 =>
        ⟨Nat.le_trans (show t.length + 1 ≤ 401 by omega) (by decide), by rw [List.length_append, tl]; rfl, by rw [List.all_append, ts]; simp [h1], h2, (k2.trans k4).trans h3⟩
      refine ite2 (fun _ => ?_) (fun _ => ?_)
      · refine ⟨Nat.le_trans lS (by decide), ns, st, _, rfl, t4, by omega, fun y' H5 z1 z2 t5 k5 => ?_⟩
        obtain ⟨j, hj, e1, e2⟩ := at_in (xs := sg) z1 z2
        exact ⟨y', rfl, Nat.le_trans lS (by decide), _, e2, fin _ H5 (sgS _ (List.getElem_mem hj)) t5 k5⟩
      · refine ⟨ns, st, _, rfl, t4, by decide, fun y' H5 z1 z2 t5 k5 => ?_⟩
        obtain ⟨j, hj, e1, e2⟩ := at_in (xs := [99, 100, 101, 126, 33]) z1 z2
        exact ⟨y', rfl, _, e2, fin _ H5 (sgC _ (List.getElem_mem hj)) t5 k5⟩
    · rintro σ H2 ⟨v5, v6, t, rfl, tl, ts, t2, k2⟩
      walk_at "rd"
      exact q t H2 (by omega) ts t2 k2
def sp_law_quoted : Sp := fun vs H Q _ => ∃ (tp : Addr) (r : RS) (t : Tx) (k q : Nat), vs = [.ref tp, .str (S t), .int k] ∧ H tp = some (.tup (RS.tup r)) ∧ t.length ≤ 1000 ∧ t[k]? = some q ∧
  ∀ p H', H p = none → Same H H' → (match lq r q k (t.drop (k + 1)) (k + 1) [] with
    | .error b => H' p = some (.tup [.non, .int b])
    | .ok (f, e) => H' p = some (.tup [.str (S f), .int e])) → Q (.ref p) H'
theorem ok__law_quoted (T : Txt K mg a) : FnOk P w K mg base CX0 1 a.f__law_quoted a.d__law_quoted P__law_quoted sp_law_quoted := by
  refine T.F__law_quoted.ok sc__law_quoted (fun vs H Q E h => ?_) (fun cdv A outer s H vs Q E hr h => ?_)
  · obtain ⟨tp, r, t, k, q, rfl, _⟩ := h
    rfl
  · obtain ⟨tp, r, t, k, q, rfl, ht, hl, hq, kk⟩ := h
    refine ⟨_,
(pss_cons (ps_par3 (i := 3) (j := 4) (l := 5) (by rfl) sc__law_quoted.nd rfl rfl rfl (by decide) (by decide) (by decide) rfl rfl rfl (pa_cons (pv 2) (pa_cons (pe_ix ix_str (pv 1) (pv 2) (fun _ _ => rfl)) (pa_cons pe_str pa_nil))) (by rfl))
    (pss_cons (ps_set (i := 2) sc__law_quoted.nd rfl (by first | exact Or.inl rfl | exact Or.inr rfl) (pe_op op_add (pv 2) pe_int))
    (pss_cons (ps_while PassesOwn.never (pt_cmpR op_lt (pv 2) (pe_callB call_len_str (by rfl) T.b_len PySem.boot_len (pa_cons (pv 1) pa_nil)) (nomark _)) (pss_cons (ps_if (pt_cmpR op_eq (pe_ix ix_str (pv 1) (pv 2) (fun _ _ => rfl)) (pv 4) (nomark _)) (pss_one (ps_ret (pe_tup (pa_cons (pv 5) (pa_cons (pe_op op_add (pv 2) pe_int) pa_nil))))) pss_nil)
    (pss_cons (ps_if (PW.pt (pw_and (pt_cmpR op_in_sign (pv 4) (pe_ix ix_tup (pv 0) pe_int (fun _ _ => rfl)) rfl) (pw_and (pt_cmpR op_ne (pe_ix ix_tup (pv 0) pe_int (fun _ _ => rfl)) pe_str (nomark _)) (pw_and1 (pt_cmpR op_eq (pe_ix ix_str (pv 1) (pv 2) (fun _ _ => rfl)) (pe_ix ix_tup (pv 0) pe_int (fun _ _ => rfl)) (nomark _)))))) (pss_cons (ps_set (i := 2) sc__law_quoted.nd rfl (by first | exact Or.inl rfl | exact Or.inr rfl) (pe_op op_add (pv 2) pe_int))
    (pss_one (ps_if (pt_cmpR op_eq (pv 2) (pe_callB call_len_str (by rfl) T.b_len PySem.boot_len (pa_cons (pv 1) pa_nil)) (nomark _)) (pss_one (ps_ret (pe_tup (pa_cons pe_non (pa_cons (pv 3) pa_nil))))) pss_nil))) pss_nil)
    (pss_cons (ps_set (i := 5) sc__law_quoted.nd rfl (by first | exact Or.inl rfl | exact Or.inr rfl) (pe_op op_add_str (pv 5) (pe_ix ix_str (pv 1) (pv 2) (fun _ _ => rfl))))
    (pss_one (ps_set (i := 2) sc__law_quoted.nd rfl (by first | exact Or.inl rfl | exact Or.inr rfl) (pe_op op_add (pv 2) pe_int)))))))
    (pss_one (ps_ret (pe_tup (pa_cons pe_non (pa_cons (pv 3) pa_nil))))))))
      , ?_⟩
    rw [show start N__law_quoted [V.ref tp, V.str (S t), V.int k] = [some (.ref tp), some (.str (S t)), some (.int k), none, none, none] from rfl]
    walk_at "rd"
    refine ⟨Nat.le_trans hl (by decide), q, atI_nat hq, ?_⟩
    have hk : k < t.length := (List.getElem?_eq_some_iff.mp hq).1
    refine while_rule (fun n σ H' => H' = H ∧ ∃ (i : Nat) (f : Tx), σ = [some (.ref tp), some (.str (S t)), some (.int i), some (.int k), some (.str (S [q])), some (.str (S f))] ∧ n = t.length - i ∧ i ≤ t.length ∧ f.length ≤ i ∧
      lq r q k (t.drop i) i f = lq r q k (t.drop (k + 1)) (k + 1) []) _ ⟨rfl, k + 1, [], rfl, rfl, by omega, by simp, rfl⟩ ?_
    rintro n σ1 H1 R ⟨rfl, i, f, rfl, rfl, hi, hf, inv⟩ hT hF
    walk_at "rd"
    have sz : t.length ≤ sizeLine := Nat.le_trans hl (by decide)
    refine ⟨sz, ?_⟩
    by_cases hlt : i < t.length
    · rw [decide_eq_true (by omega)]
      refine hT _ ?_
      have hc : t[i]? = some t[i] := List.getElem?_eq_getElem hlt
      have a1 := atI_nat hc
      have dr := drop_at hc
      generalize t[i] = c at *
      walk_at "rd"
      refine ⟨sz, c, a1, ?_⟩
      rw [dr] at inv
      refine ite2 (fun c1 p hp => ?_) (fun c1 => ?_)
      · rw [lq_one c1] at inv
        rw [← inv] at kk
        exact kk p _ hp (same_new hp) (by rw [upd_same]; rfl)
      have sf : f.length + 1 ≤ sizeLine := Nat.le_trans (show f.length + 1 ≤ 1001 by omega) (by decide)
      have plain : ¬ (q ∈ r.soft ∧ r.bend = [c]) → t.length ≤ sizeLine ∧ ∃ x, atI t (i : Int) = some x ∧ f.length + 1 ≤ sizeLine ∧ ∃ n', n' < t.length - i ∧ ∃ j : Nat, (i : Int) + 1 = j ∧ n' = t.length - j ∧ j ≤ t.length ∧ (f ++ [x]).length ≤ j ∧
          lq r q k (t.drop j) j (f ++ [x]) = lq r q k (t.drop (k + 1)) (k + 1) [] := fun h2 => by
        refine ⟨sz, c, a1, sf, t.length - (i + 1), by omega, i + 1, rfl, rfl, by omega, by rw [List.length_append]; simp only [List.length_cons, List.length_nil]; omega, ?_⟩
        rw [← inv, lq_plain c1 h2]
      refine ⟨_, .inl (.inl ht), _, rfl, _, rfl, ite2 (fun c2 => ?_) (fun c2 => plain fun h => c2 h.1)⟩
      refine ⟨_, .inl (.inl ht), _, rfl, rfl, ite2 (fun c3 => ?_) (fun c3 => plain fun h => ?_)⟩
      · refine ⟨sz, c, a1, _, .inl (.inl ht), _, rfl, rfl, ite2 (fun c4 => ?_) (fun c4 => plain fun h => ?_)⟩
        · have hb : q ∈ r.soft ∧ r.bend = [c] := ⟨c2, by simpa [S_inj] using (of_decide_eq_true c4).symm⟩
          refine ⟨sz, ite2 (fun c5 p hp => ?_) (fun c5 => ?_)⟩
          · have e0 : t.drop (i + 1) = [] := List.drop_eq_nil_of_le (by omega)
            rw [e0, lq_last c1] at inv
            rw [← inv] at kk
            exact kk p _ hp (same_new hp) upd_same
          · have hd : t[i + 1]? = some (t[i + 1]'(by omega)) := List.getElem?_eq_getElem (by omega)
            have a2 := atI_nat hd
            have dr2 := drop_at hd
            generalize t[i + 1]'(by omega) = d at *
            refine ⟨sz, d, a2, sf, t.length - (i + 2), by omega, i + 2, rfl, rfl, by omega, by rw [List.length_append]; simp only [List.length_cons, List.length_nil]; omega, ?_⟩
            rw [← inv, dr2, lq_bend c1 hb]
        · exact c4 (decide_eq_true (by rw [h.2]))
      · apply c3
        rw [h.2]
        simp [S_inj]
    · rw [decide_eq_false (by omega)]
      refine hF _ ?_
      have e0 : t.drop i = [] := List.drop_eq_nil_of_le (by omega)
      rw [e0] at inv
      walk_at "rd"
      intro p hp
      rw [← inv] at kk
      exact kk p _ hp (same_new hp) upd_same
def sp_law_word : Sp := fun vs H Q _ => ∃ (tp : Addr) (r : RS) (t : Tx) (k : Nat), vs = [.ref tp, .str (S t), .int k] ∧ H tp = some (.tup (RS.tup r)) ∧ r.Ok ∧ t.length ≤ 1000 ∧ k ≤ t.length ∧
  ∀ p H', H p = none → Same H H' → (match lw r t t.length k [] with
    | .error b => H' p = some (.tup [.non, .int b])
    | .ok (f, e) => H' p = some (.tup [.str (S f), .int e])) → Q (.ref p) H'
theorem ok__law_word (T : Txt K mg a) : FnOk P w K mg base CX0 2 a.f__law_word a.d__law_word P__law_word sp_law_word := by
  refine T.F__law_word.ok sc__law_word (fun vs H Q E h => ?_) (fun cdv A outer s H vs Q E hr h => ?_)
  · obtain ⟨tp, r, t, k, rfl, _⟩ := h
    rfl
  · obtain ⟨tp, r, t, k, rfl, ht, ok, hl, hk, kk⟩ := h
    have G__law_quoted := ok__law_quoted (P := P) (w := w) (base := base) T
    have B__law_quoted := bi__law_quoted T
    refine ⟨_,
(pss_cons (ps_set (i := 3) sc__law_word.nd rfl (by first | exact Or.inl rfl | exact Or.inr rfl) pe_str)
    (pss_cons (ps_while PassesOwn.never (PW.pt (pw_and (pt_cmpR op_lt (pv 2) (pe_callB call_len_str (by rfl) T.b_len PySem.boot_len (pa_cons (pv 1) pa_nil)) (nomark _)) (pw_and1 (pt_cmpR op_notIn_sign (pe_ix ix_str (pv 1) (pv 2) (fun _ _ => rfl)) (pe_op op_add_str (pe_ix ix_tup (pv 0) pe_int (fun _ _ => rfl)) (pe_ix ix_tup (pv 0) pe_int (fun _ _ => rfl))) rfl)))) (pss_one (ps_if (pt_cmpR op_in_sign (pe_ix ix_str (pv 1) (pv 2) (fun _ _ => rfl)) (pe_op op_add_str (pe_ix ix_tup (pv 0) pe_int (fun _ _ => rfl)) (pe_ix ix_tup (pv 0) pe_int (fun _ _ => rfl))) rfl) (pss_cons (ps_asg (pe_call G__law_quoted (hr.mono (by decide)) rfl T.f__law_quoted.g T.f__law_quoted.k B__law_quoted .nil pass0 (pa_cons (pv 0) (pa_cons (pv 1) (pa_cons (pv 2) pa_nil)))) (pg_tup rfl (pgs_cons (pg_name (i := 4) sc__law_word.nd rfl (Or.inl rfl)) (pgs_cons (pg_name (i := 2) sc__law_word.nd rfl (Or.inl rfl)) pgs_nil))))
    (pss_cons (ps_if (pt_cmpR op_isN (pv 4) pe_non (nomark _)) (pss_one (ps_ret (pe_tup (pa_cons pe_non (pa_cons (pv 2) pa_nil))))) pss_nil)
    (pss_one (ps_set (i := 3) sc__law_word.nd rfl (by first | exact Or.inl rfl | exact Or.inr rfl) (pe_op op_add_str (pv 3) (pv 4)))))) (pss_one (ps_if (PW.pt (pw_and (pt_cmpR op_ne (pe_ix ix_tup (pv 0) pe_int (fun _ _ => rfl)) pe_str (nomark _)) (pw_and1 (pt_cmpR op_eq (pe_ix ix_str (pv 1) (pv 2) (fun _ _ => rfl)) (pe_ix ix_tup (pv 0) pe_int (fun _ _ => rfl)) (nomark _))))) (pss_cons (ps_if (pt_cmpR op_eq (pe_op op_add (pv 2) pe_int) (pe_callB call_len_str (by rfl) T.b_len PySem.boot_len (pa_cons (pv 1) pa_nil)) (nomark _)) (pss_one (ps_ret (pe_tup (pa_cons pe_non (pa_cons (pv 2) pa_nil))))) pss_nil)
    (pss_one (ps_par (i := 3) (j := 2) (by rfl) sc__law_word.nd rfl rfl (by decide) rfl rfl (pa_cons (pe_op op_add_str (pv 3) (pe_ix ix_str (pv 1) (pe_op op_add (pv 2) pe_int) (fun _ _ => rfl))) (pa_cons (pe_op op_add (pv 2) pe_int) pa_nil)) (by rfl)))) (pss_one (ps_par (i := 3) (j := 2) (by rfl) sc__law_word.nd rfl rfl (by decide) rfl rfl (pa_cons (pe_op op_add_str (pv 3) (pe_ix ix_str (pv 1) (pv 2) (fun _ _ => rfl))) (pa_cons (pe_op op_add (pv 2) pe_int) pa_nil)) (by rfl))))))))
    (pss_one (ps_ret (pe_tup (pa_cons (pv 3) (pa_cons (pv 2) pa_nil)))))))
      , ?_⟩
    rw [show start N__law_word [V.ref tp, V.str (S t), V.int k] = [some (.ref tp), some (.str (S t)), some (.int k), none, none] from rfl]
    have sz : t.length ≤ sizeLine := Nat.le_trans hl (by decide)
    have szb : r.breaks.length + r.note.length ≤ sizeLine := Nat.le_trans (show r.breaks.length + r.note.length ≤ 5 by have h1 := ok.l1; have h5 := ok.l5; omega) (by decide)
    have szq : r.hard.length + r.soft.length ≤ sizeLine := Nat.le_trans (show r.hard.length + r.soft.length ≤ 4 by have h1 := ok.l2; have h5 := ok.l3; omega) (by decide)
    walk_at "rd"
    refine while_rule (fun n σ H' => Same H H' ∧ ∃ (i m : Nat) (f : Tx) (v : Option V), σ = [some (.ref tp), some (.str (S t)), some (.int i), some (.str (S f)), v] ∧ n = t.length - i ∧ i ≤ t.length ∧ f.length ≤ i ∧ t.length ≤ m + i ∧
      lw r t m i f = lw r t t.length k []) _ ⟨Same.refl _, k, t.length, [], _, rfl, rfl, hk, Nat.zero_le _, by omega, rfl⟩ ?_
    rintro n σ1 H1 R ⟨s1, i, m, f, v, rfl, rfl, hi, hf, hm, inv⟩ hT hF
    have ht1 := s1 _ _ ht
    walk_at "rd"
    refine ⟨sz, ?_⟩
    have fin : lw r t m i f = .ok (f, i) → R false H1 := fun e => by
      refine hF _ ?_
      rw [← inv, e] at kk
      walk_at "rd"
      exact fun p hp => kk p _ (s1.free hp) (s1.trans (same_new hp)) upd_same
    by_cases hlt : i < t.length
    · have hc : t[i]? = some t[i] := List.getElem?_eq_getElem hlt
      have a1 := atI_nat hc
      generalize t[i] = c at *
      obtain ⟨m, rfl⟩ : ∃ m', m = m' + 1 := ⟨m - 1, by omega⟩
      rw [if_pos (by omega)]
      refine ⟨sz, c, a1, _, .inl (.inl ht1), _, rfl, _, .inl (.inl ht1), _, rfl, _, rfl, _, rfl, szb, ?_⟩
      rw [S_app, S_tl]
      by_cases c1 : c ∈ r.breaks ++ r.note
      · rw [decide_eq_true c1]
        exact fin (by simp only [lw, hc, if_pos c1])
      · rw [decide_eq_false c1]
        refine hT _ ?_
        walk_at "rd"
        have hc1 : c ∉ r.breaks ++ r.note := c1
        have sf : f.length + 1 ≤ sizeLine := Nat.le_trans (show f.length + 1 ≤ 1001 by omega) (by decide)
        refine ⟨sz, c, a1, _, .inl (.inl ht1), _, rfl, _, .inl (.inl ht1), _, rfl, _, rfl, _, rfl, szq, ?_⟩
        rw [S_app, S_tl]
        refine ite2 (fun c2 => ?_) (fun c2 => ?_)
        · refine ⟨tp, r, t, i, c, rfl, ht1, hl, hc, fun p H2 hp s2 res => ?_⟩
          have bd := lq_bd r c i (t.drop (i + 1)) (i + 1) []
          rw [List.length_drop] at bd
          have s02 := s1.trans s2
          have ht2 := s2 _ _ ht1
          cases e : lq r c i (t.drop (i + 1)) (i + 1) [] with
          | error b =>
            rw [e] at res bd
            have inv2 : lw r t (m + 1) i f = .error b := by simp only [lw, hc, if_neg hc1, if_pos c2, e]
            rw [← inv, inv2] at kk
            dsimp only at res
            refine ⟨p, rfl, _, .inl (.inl res), rfl, _, _, rfl, _, _, rfl, rfl, ?_⟩
            refine ite2 (fun _ p2 hp2 => ?_) (fun h => absurd rfl h)
            exact kk p2 _ (s02.free hp2) (s02.trans (same_new hp2)) upd_same
          | ok z =>
            obtain ⟨g, e2⟩ := z
            rw [e] at res bd
            dsimp only at res bd
            simp only [List.length_nil] at bd
            have inv2 : lw r t (m + 1) i f = lw r t m e2 (f ++ g) := by simp only [lw, hc, if_neg hc1, if_pos c2, e]
            refine ⟨p, rfl, _, .inl (.inl res), rfl, _, _, rfl, _, _, rfl, rfl, ?_⟩
            refine ite2 (fun h => by cases h) (fun _ => ?_)
            refine ⟨_, rfl, Nat.le_trans (show f.length + g.length ≤ 3000 by omega) (by decide), ?_⟩
            exact ⟨t.length - e2, by omega, s02, e2, rfl, m, f ++ g, S_app _ _, rfl, by omega, by rw [List.length_append]; omega, by omega, by rw [← inv2, inv]⟩
        have plain : r.bend ≠ [c] → t.length ≤ sizeLine ∧ ∃ x, atI t (i : Int) = some x ∧ f.length + 1 ≤ sizeLine ∧ ∃ n', n' < t.length - i ∧ Same H H1 ∧ ∃ j : Nat, (i : Int) + 1 = j ∧ n' = t.length - j ∧ j ≤ t.length ∧ (f ++ [x]).length ≤ j ∧
            ∃ m2, t.length ≤ m2 + j ∧ lw r t m2 j (f ++ [x]) = lw r t t.length k [] := fun h2 => by
          refine ⟨sz, c, a1, sf, t.length - (i + 1), by omega, s1, i + 1, rfl, rfl, by omega, by rw [List.length_append]; simp only [List.length_cons, List.length_nil]; omega, m, by omega, ?_⟩
          rw [← inv]
          simp only [lw, hc, if_neg hc1, if_neg c2, if_neg h2]
        refine ⟨_, .inl (.inl ht1), _, rfl, rfl, ite2 (fun c3 => ?_) (fun c3 => plain fun h => c3 (by rw [h]; simp [S_inj]))⟩
        refine ⟨sz, c, a1, _, .inl (.inl ht1), _, rfl, rfl, ite2 (fun c4 => ?_) (fun c4 => plain fun h => c4 (decide_eq_true (by rw [h])))⟩
        have hb : r.bend = [c] := by simpa [S_inj] using (of_decide_eq_true c4).symm
        refine ⟨sz, ite2 (fun c5 p hp => ?_) (fun c5 => ?_)⟩
        · have hn : t[i + 1]? = none := List.getElem?_eq_none_iff.mpr (by omega)
          have inv2 : lw r t (m + 1) i f = .error i := by simp only [lw, hc, if_neg hc1, if_neg c2, if_pos hb, hn]
          rw [← inv, inv2] at kk
          exact kk p _ (s1.free hp) (s1.trans (same_new hp)) upd_same
        · have hd : t[i + 1]? = some (t[i + 1]'(by omega)) := List.getElem?_eq_getElem (by omega)
          have a2 := atI_nat hd
          generalize t[i + 1]'(by omega) = d at *
          have inv2 : lw r t (m + 1) i f = lw r t m (i + 2) (f ++ [d]) := by simp only [lw, hc, if_neg hc1, if_neg c2, if_pos hb, hd]
          refine ⟨sz, d, a2, sf, t.length - (i + 2), by omega, s1, i + 2, rfl, rfl, by omega, by rw [List.length_append]; simp only [List.length_cons, List.length_nil]; omega, m, by omega, by rw [← inv2, inv]⟩
    · rw [if_neg (by omega)]
      have hn : t[i]? = none := List.getElem?_eq_none_iff.mpr (by omega)
      refine fin ?_
      cases m with
      | zero => rfl
      | succ m => simp only [lw, hn]
/-- what the law's own reading tells -/
def LRes (H H' : Hp) (v : V) (x : Except Nat (List W3)) : Prop := match x with
  | .error b => v = .int b
  | .ok ds => ∃ tp l1 l2 ys, v = .ref tp ∧ H tp = none ∧ H l1 = none ∧ H l2 = none ∧ l1 ≠ l2 ∧ H' tp = some (.tup [.ref l1, .ref l2]) ∧ H' l1 = some (.lst ((ds.map (·.1)).map sV)) ∧ H' l2 = some (.lst ys) ∧
    Paired (Pls H') ys (ds.map fun d => ((d.2.1 : Int), (d.2.2 : Int)))
def sp_law_read : Sp := fun vs H Q _ => ∃ (tp : Addr) (r : RS) (t : Tx), vs = [.ref tp, .str (S t)] ∧ H tp = some (.tup (RS.tup r)) ∧ r.Ok ∧ t.length ≤ 1000 ∧
  ∀ v H', Same H H' → LRes H H' v (lr r t (t.length + 1) 0 []) → Q v H'
theorem ok__law_read (T : Txt K mg a) : FnOk P w K mg base CX0 3 a.f__law_read a.d__law_read P__law_read sp_law_read := by
  refine T.F__law_read.ok sc__law_read (fun vs H Q E h => ?_) (fun cdv A outer s H vs Q E hr h => ?_)
  · obtain ⟨tp, r, t, rfl, _⟩ := h
    rfl
  · obtain ⟨tp, r, t, rfl, ht, ok, hl, kk⟩ := h
    have G__law_word := ok__law_word (P := P) (w := w) (base := base) T
    have B__law_word := bi__law_word T
    refine ⟨_,
(pss_cons (ps_par3 (i := 2) (j := 3) (l := 4) (by rfl) sc__law_read.nd rfl rfl rfl (by decide) (by decide) (by decide) rfl rfl rfl (pa_cons (pe_lst pa_nil) (pa_cons (pe_lst pa_nil) (pa_cons pe_int pa_nil))) (by rfl))
    (pss_cons (ps_while PassesOwn.never (pt_cmpR op_lt (pv 4) (pe_callB call_len_str (by rfl) T.b_len PySem.boot_len (pa_cons (pv 1) pa_nil)) (nomark _)) (pss_cons (ps_if (PW.pt (pw_and (pt_cmpR op_ne (pe_ix ix_tup (pv 0) pe_int (fun _ _ => rfl)) pe_str (nomark _)) (pw_and1 (pt_cmpR op_eq (pe_ix ix_str (pv 1) (pv 4) (fun _ _ => rfl)) (pe_ix ix_tup (pv 0) pe_int (fun _ _ => rfl)) (nomark _))))) (pss_cons (ps_set (i := 5) sc__law_read.nd rfl (by first | exact Or.inl rfl | exact Or.inr rfl) (pe_bm PySem.F.plainAttrs_str PySem.F.slot_str_find PySem.F.type_str_find mt_find3 (pv 1) (pa_cons pe_str (pa_cons (pe_op op_add (pv 4) pe_int) pa_nil))))
    (pss_one (ps_set (i := 4) sc__law_read.nd rfl (by first | exact Or.inl rfl | exact Or.inr rfl) (pe_ifExp (pt_cmpR op_ge (pv 5) pe_int (nomark _)) (pv 5) (pe_callB call_len_str (by rfl) T.b_len PySem.boot_len (pa_cons (pv 1) pa_nil)))))) pss_nil)
    (pss_one (ps_if (PW.pt (pw_and (pt_cmpR op_lt (pv 4) (pe_callB call_len_str (by rfl) T.b_len PySem.boot_len (pa_cons (pv 1) pa_nil)) (nomark _)) (pw_and1 (pt_cmpR op_in_sign (pe_ix ix_str (pv 1) (pv 4) (fun _ _ => rfl)) (pe_ix ix_tup (pv 0) pe_int (fun _ _ => rfl)) rfl)))) (pss_one (ps_set (i := 4) sc__law_read.nd rfl (by first | exact Or.inl rfl | exact Or.inr rfl) (pe_op op_add (pv 4) pe_int))) (pss_one (ps_if (PW.pt (pw_and (pt_cmpR op_lt (pv 4) (pe_callB call_len_str (by rfl) T.b_len PySem.boot_len (pa_cons (pv 1) pa_nil)) (nomark _)) (pw_and1 (pt_cmpR op_notIn_sign (pe_ix ix_str (pv 1) (pv 4) (fun _ _ => rfl)) (pe_ix ix_tup (pv 0) pe_int (fun _ _ => rfl)) rfl)))) (pss_cons (ps_asg (pe_call G__law_word (hr.mono (by decide)) rfl T.f__law_word.g T.f__law_word.k B__law_word .nil pass0 (pa_cons (pv 0) (pa_cons (pv 1) (pa_cons (pv 4) pa_nil)))) (pg_tup rfl (pgs_cons (pg_name (i := 6) sc__law_read.nd rfl (Or.inl rfl)) (pgs_cons (pg_name (i := 5) sc__law_read.nd rfl (Or.inl rfl)) pgs_nil))))
    (pss_cons (ps_if (pt_cmpR op_isN (pv 6) pe_non (nomark _)) (pss_one (ps_ret (pv 5))) pss_nil)
    (pss_cons (ps_expr (pe_bm PySem.F.plainAttrs_list PySem.F.slot_list_append PySem.F.type_list_append mt_append (pv 2) (pa_cons (pv 6) pa_nil)))
    (pss_cons (ps_expr (pe_bm PySem.F.plainAttrs_list PySem.F.slot_list_append PySem.F.type_list_append mt_append (pv 3) (pa_cons (pe_tup (pa_cons (pv 4) (pa_cons (pv 5) pa_nil))) pa_nil)))
    (pss_one (ps_set (i := 4) sc__law_read.nd rfl (by first | exact Or.inl rfl | exact Or.inr rfl) (pv 5))))))) pss_nil))))))
    (pss_one (ps_ret (pe_tup (pa_cons (pv 2) (pa_cons (pv 3) pa_nil)))))))
      , ?_⟩
    rw [show start N__law_read [V.ref tp, V.str (S t)] = [some (.ref tp), some (.str (S t)), none, none, none, none, none] from rfl]
    have sz : t.length ≤ sizeLine := Nat.le_trans hl (by decide)
    walk_at "rd"
    intro l1 hl1
    have S1 := same_new (o := HO.lst []) hl1
    have e1 : upd H l1 (HO.lst []) l1 = some (HO.lst []) := upd_same
    generalize upd H l1 (HO.lst []) = H1 at *
    intro l2 hl2
    have S2 := same_new (o := HO.lst []) hl2
    have e2 : upd H1 l2 (HO.lst []) l2 = some (HO.lst []) := upd_same
    have e1' := S2 _ _ e1
    have n12 : l1 ≠ l2 := ne_of_none e1 hl2
    generalize upd H1 l2 (HO.lst []) = H2 at *
    have S02 := S1.trans S2
    have hl2' := S1.free hl2
    refine while_rule (fun n σ H' => Same H H' ∧ ∃ (i m : Nat) (acc : List W3) (ys : List V) (v5 v6 : Option V), σ = [some (.ref tp), some (.str (S t)), some (.ref l1), some (.ref l2), some (.int i), v5, v6] ∧ n = t.length - i ∧ i ≤ t.length ∧ t.length < m + i ∧ acc.length ≤ i ∧
      H' l1 = some (.lst ((acc.map (·.1)).map sV)) ∧ H' l2 = some (.lst ys) ∧ Paired (Pls H') ys (acc.map fun d => ((d.2.1 : Int), (d.2.2 : Int))) ∧ lr r t m i acc = lr r t (t.length + 1) 0 [])
      _ ⟨S02, 0, t.length + 1, [], [], _, _, rfl, rfl, by omega, by omega, by simp, e1', e2, .nil, rfl⟩ ?_
    rintro n σ1 H3 R ⟨s3, i, m, acc, ys, v5, v6, rfl, rfl, hi, hm, ha, f1, f2, f3, inv⟩ hT hF
    have ht3 := s3 _ _ ht
    walk_at "rd"
    refine ⟨sz, ?_⟩
    by_cases hlt : i < t.length
    · rw [decide_eq_true (by omega)]
      refine hT _ ?_
      have hc : t[i]? = some t[i] := List.getElem?_eq_getElem hlt
      have a1 := atI_nat hc
      generalize t[i] = c at *
      obtain ⟨m, rfl⟩ : ∃ m', m = m' + 1 := ⟨m - 1, by omega⟩
      refine tseq_split (fun σ' H' => H' = H3 ∧ ∃ v5, σ' = [some (.ref tp), some (.str (S t)), some (.ref l1), some (.ref l2), some (.int (if r.note = [c] then nlAt t (i + 1) else i : Nat)), v5, v6]) (fun N hN => ?_) ?_
      · walk_at "rd"
        refine ⟨_, .inl (.inl ht3), _, rfl, rfl, ite2 (fun c1 => ?_) (fun c1 => ?_)⟩
        · refine ⟨sz, c, a1, _, .inl (.inl ht3), _, rfl, rfl, ite2 (fun c2 => ?_) (fun c2 => ?_)⟩
          · have hb : r.note = [c] := by simpa [S_inj] using (of_decide_eq_true c2).symm
            have fn := find_nl (t := t) (i := i + 1) (by omega)
            refine ⟨rfl, ?_⟩
            rcases fn with ⟨g1, g2⟩ | ⟨g1, g2⟩
            · have g1 : Txt.find3 (S t) (S [LE]) ((i : Int) + 1) = -1 := g1
              refine ite2 (fun h => absurd h (by omega)) (fun _ => ⟨sz, hN _ _ ⟨rfl, some (.int (Txt.find3 (S t) (S [LE]) ((i : Int) + 1))), ?_⟩⟩)
              rw [if_pos hb, g2]
            · have g1 : Txt.find3 (S t) (S [LE]) ((i : Int) + 1) = (nlAt t (i + 1) : Int) := g1
              refine ite2 (fun _ => hN _ _ ⟨rfl, some (.int (Txt.find3 (S t) (S [LE]) ((i : Int) + 1))), ?_⟩) (fun h => absurd h (by omega))
              rw [if_pos hb, g1]
          · refine hN _ _ ⟨rfl, v5, ?_⟩
            rw [if_neg (fun h => c2 (decide_eq_true (by rw [h])))]
        · refine hN _ _ ⟨rfl, v5, ?_⟩
          rw [if_neg (fun h => c1 (by rw [h]; simp [S_inj]))]
      · rintro σ' H' ⟨rfl, v5', rfl⟩
        generalize hk1 : (if r.note = [c] then nlAt t (i + 1) else i) = k1
        have ns := nlAt_spec (t := t) (i := i + 1) (by omega)
        have k1i : i ≤ k1 := by rw [← hk1]; split <;> omega
        have k1l : k1 ≤ t.length := by rw [← hk1]; split <;> omega
        walk_at "rd"
        refine ⟨sz, ?_⟩
        by_cases hk : k1 < t.length
        · have hc' : t[k1]? = some t[k1] := List.getElem?_eq_getElem hk
          have a2 := atI_nat hc'
          generalize t[k1] = c' at *
          rw [if_pos (by omega)]
          refine ⟨sz, c', a2, _, .inl (.inl ht3), _, rfl, _, rfl, ite2 (fun (d1 : c' ∈ r.breaks) => ?_) (fun (d1 : ¬ c' ∈ r.breaks) => ?_)⟩
          · have il : lr r t (m + 1) i acc = lr r t m (k1 + 1) acc := by simp only [lr, hc, hk1, hc', if_pos d1]
            exact ⟨t.length - (k1 + 1), by omega, s3, k1 + 1, rfl, rfl, by omega, m, by omega, acc, by omega, f1, ys, f2, f3, by rw [← il, inv]⟩
          · rw [if_pos (by omega)]
            refine ⟨sz, ?_⟩
            refine ⟨sz, c', a2, _, .inl (.inl ht3), _, rfl, _, rfl, ite2 (fun (d2 : ¬ c' ∈ r.note) => ?_) (fun d2 => ?_)⟩
            · refine ⟨tp, r, t, k1, rfl, ht3, ok, hl, k1l, fun p0 H4 hp0 s4 res => ?_⟩
              have d3 : c' ∉ r.breaks ++ r.note := fun h => (List.mem_append.mp h).elim d1 d2
              have bd := lw_bd r t t.length k1 [] k1l
              have s04 := s3.trans s4
              cases e : lw r t t.length k1 [] with
              | error b =>
                rw [e] at res
                dsimp only at res
                refine ⟨p0, rfl, _, .inl (.inl res), rfl, _, _, rfl, _, _, rfl, rfl, ?_⟩
                refine ite2 (fun _ => ?_) (fun h => absurd rfl h)
                have il : lr r t (m + 1) i acc = .error b := by simp only [lr, hc, hk1, hc', if_neg d1, if_neg d2, e]
                rw [← inv, il] at kk
                exact kk _ _ s04 rfl
              | ok z =>
                obtain ⟨g, e2⟩ := z
                rw [e] at res bd
                dsimp only at res bd
                have ps : k1 + 1 ≤ e2 := by
                  obtain ⟨n', hn'⟩ : ∃ n', t.length = n' + 1 := ⟨t.length - 1, by omega⟩
                  rw [hn'] at e
                  exact lw_pos hc' d3 e
                have il : lr r t (m + 1) i acc = lr r t m e2 (acc ++ [(g, k1, e2)]) := by simp only [lr, hc, hk1, hc', if_neg d1, if_neg d2, e]
                have g1 := s4 _ _ f1
                have g2 := s4 _ _ f2
                refine ⟨p0, rfl, _, .inl (.inl res), rfl, _, _, rfl, _, _, rfl, rfl, ?_⟩
                refine ite2 (fun h => by cases h) (fun _ => ?_)
                refine ⟨.inl ⟨rfl, _, .inl (.inl g1)⟩, _, g1, ?_, ?_⟩
                · rw [List.length_map, List.length_map]
                  exact Nat.lt_of_le_of_lt (show acc.length ≤ 1000 by omega) (by decide)
                have S5 : Same H (upd H4 l1 (HO.lst ((acc.map (·.1)).map sV ++ [V.str (S g)]))) := Same.mut s04 hl1
                have T5 : Tk H4 (upd H4 l1 (HO.lst ((acc.map (·.1)).map sV ++ [V.str (S g)]))) := kp_upd.tk g1 fun _ z => by cases z
                have h51 : upd H4 l1 (HO.lst ((acc.map (·.1)).map sV ++ [V.str (S g)])) l1 = some (HO.lst ((acc.map (·.1)).map sV ++ [V.str (S g)])) := upd_same
                have h52 : upd H4 l1 (HO.lst ((acc.map (·.1)).map sV ++ [V.str (S g)])) l2 = some (HO.lst ys) := by rw [upd_ne (Ne.symm n12)]; exact g2
                generalize upd H4 l1 (HO.lst ((acc.map (·.1)).map sV ++ [V.str (S g)])) = H5 at *
                refine ⟨.inl ⟨rfl, _, .inl (.inl h52)⟩, fun p hp => ?_⟩
                have S6 := same_new (o := HO.tup [V.int k1, V.int e2]) hp
                have hp0' : H p = none := S5.free hp
                have h6p : upd H5 p (HO.tup [V.int k1, V.int e2]) p = some (HO.tup [V.int k1, V.int e2]) := upd_same
                have h61 := S6 _ _ h51
                have h62 := S6 _ _ h52
                have n2p : l2 ≠ p := ne_of_none h52 hp
                generalize upd H5 p (HO.tup [V.int k1, V.int e2]) = H6 at *
                have S06 : Same H H6 := S5.trans S6
                have T7 : Tk H6 (upd H6 l2 (HO.lst (ys ++ [V.ref p]))) := kp_upd.tk h62 fun _ z => by cases z
                refine ⟨_, h62, ?_, t.length - e2, by omega, Same.mut S06 hl2', e2, rfl, rfl, by omega, m, by omega, acc ++ [(g, k1, e2)], ?_, ?_, ?_, by rw [← il, inv]⟩
                · rw [f3.length, List.length_map]
                  exact Nat.lt_of_le_of_lt (show acc.length ≤ 1000 by omega) (by decide)
                · rw [List.length_append]
                  simp only [List.length_cons, List.length_nil]
                  omega
                · rw [upd_ne n12, h61, List.map_append, List.map_append]
                  rfl
                · rw [List.map_append]
                  refine Paired.app (Paired.mapP f3 fun _ _ z => z.mono fun b xs q => T7 _ _ (S6 _ _ (T5 _ _ (s4 _ _ q)))) (.cons ⟨p, rfl, T7 _ _ h6p⟩ .nil)
            · have d2 : c' ∈ r.note := Classical.byContradiction d2
              have il : lr r t (m + 1) i acc = lr r t m k1 acc := by simp only [lr, hc, hk1, hc', if_neg d1, if_pos d2]
              have ki : i < k1 := by
                by_cases h : r.note = [c]
                · rw [if_pos h] at hk1; omega
                · rw [if_neg h] at hk1
                  subst hk1
                  rw [hc] at hc'
                  cases hc'
                  have l5 := ok.l5
                  match hnn : r.note, d2, l5 with
                  | [x], d2, _ => rw [List.mem_singleton.mp d2] at h; exact absurd hnn h
              exact ⟨t.length - k1, by omega, s3, k1, rfl, rfl, by omega, m, by omega, acc, by omega, f1, ys, f2, f3, by rw [← il, inv]⟩
        · rw [if_neg (by omega)]
          refine ⟨sz, ?_⟩
          rw [if_neg (by omega)]
          have hn : t[k1]? = none := List.getElem?_eq_none_iff.mpr (by omega)
          have il : lr r t (m + 1) i acc = lr r t m k1 acc := by
            simp only [lr, hc, hk1, hn]
            cases m <;> simp [lr, hn]
          exact ⟨t.length - k1, by omega, s3, k1, rfl, rfl, by omega, m, by omega, acc, by omega, f1, ys, f2, f3, by rw [← il, inv]⟩
    · rw [decide_eq_false (by omega)]
      refine hF _ ?_
      have hn : t[i]? = none := List.getElem?_eq_none_iff.mpr (by omega)
      have e : lr r t m i acc = .ok acc := by cases m <;> simp [lr, hn]
      rw [← inv, e] at kk
      walk_at "rd"
      intro p hp
      have s4 := same_new (o := HO.tup [V.ref l1, V.ref l2]) hp
      exact kk _ _ (s3.trans s4) ⟨p, l1, l2, ys, rfl, s3.free hp, hl1, hl2', n12, upd_same, s4 _ _ f1, s4 _ _ f2, Paired.mapP f3 fun _ _ z => z.mono fun b xs => s4 b _⟩
theorem ty_Words (T : Txt K mg a) {H : Hp} {p dx : Addr} {fs : List (Str × V)} (h : H p = some (.ins a.c_Words dx fs)) : TyX K H (.ref p) (.ref a.c_Words) :=
  .base (.ins h T.c_Words.cl T.i_Words.ha T.i_Words.hn T.i_Words.ht T.i_Words.hm)
theorem ty_Fault (T : Txt K mg a) {H : Hp} {p dx : Addr} {fs : List (Str × V)} (h : H p = some (.ins a.c_Fault dx fs)) : TyX K H (.ref p) (.ref a.c_Fault) :=
  .base (.ins h T.c_Fault.cl T.i_Fault.ha T.i_Fault.hn T.i_Fault.ht T.i_Fault.hm)
def sp_law_said (a : Ad) : Sp := fun vs H Q _ => ∃ p dx, vs = [.ref p] ∧ ((∃ n, H p = some (.ins a.c_Fault dx [("place", .int n)]) ∧ ∀ H', Same H H' → Q (.int n) H') ∨
  ∃ l1 l2, H p = some (.ins a.c_Words dx (WF l1 l2)) ∧ ∀ tp H', H tp = none → Same H H' → H' tp = some (.tup [.ref l1, .ref l2]) → Q (.ref tp) H')
theorem ok__law_said (T : Txt K mg a) : FnOk P w K mg base CX0 1 a.f__law_said a.d__law_said P__law_said (sp_law_said a) := by
  refine T.F__law_said.ok sc__law_said (fun vs H Q E h => ?_) (fun cdv A outer s H vs Q E hr h => ?_)
  · obtain ⟨p, dx, rfl, _⟩ := h
    rfl
  · obtain ⟨p, dx, rfl, h⟩ := h
    refine ⟨_,
(pss_cons (ps_set (i := 1) sc__law_said.nd rfl (by first | exact Or.inl rfl | exact Or.inr rfl) (pe_lst (pa_cons (pe_callB (call_isi) (by rfl) T.b_isinstance (by decide +kernel) (pa_cons (pv 0) (pa_cons (pe_glob (v := .ref a.c_Words) rfl T.c_Words.g rfl) pa_nil))) (pa_cons (pe_callB (call_isi) (by rfl) T.b_isinstance (by decide +kernel) (pa_cons (pv 0) (pa_cons (pe_glob (v := .ref a.c_Fault) rfl T.c_Fault.g rfl) pa_nil))) pa_nil))))
    (pss_cons (ps_if (PW.pt (pw_or (pt_cmpR op_ne (pe_bm PySem.F.plainAttrs_list PySem.F.slot_list_count PySem.F.type_list_count mt_lcountB (pv 1) (pa_cons pe_bl pa_nil)) pe_int (nomark _)) (pw_or1 (pt_not (pt_val (pe_callB (call_isi) (by rfl) T.b_isinstance (by decide +kernel) (pa_cons (pv 0) (pa_cons (pe_glob (v := .ref a.c_Answer) rfl T.c_Answer.g rfl) pa_nil)))))))) (pss_one (ps_ret pe_non)) pss_nil)
    (pss_one (ps_ret (pe_ifExp (pt_val (pe_ix ix_list (pv 1) pe_int (fun _ _ => rfl))) (pe_tup (pa_cons (pe_fld (pv 0) rfl) (pa_cons (pe_fld (pv 0) rfl) pa_nil))) (pe_fld (pv 0) rfl))))))
      , ?_⟩
    rw [show start N__law_said [V.ref p] = [some (.ref p), none] from rfl]
    have c1 := T.c_Words.cl
    have c2 := T.c_Fault.cl
    rcases h with ⟨n, h, q⟩ | ⟨l1, l2, h, q⟩
    · walk_at "rd"
      refine ⟨_, _, .own _, ty_Fault T h, _, T.k_FW, ?_⟩
      refine ⟨_, _, .own _, ty_Fault T h, _, T.k_FF, fun l hl => ?_⟩
      have S1 := same_new (o := HO.lst [V.bl false, V.bl true]) hl
      have e1 : upd H l (HO.lst [V.bl false, V.bl true]) l = some (HO.lst [V.bl false, V.bl true]) := upd_same
      generalize upd H l (HO.lst [V.bl false, V.bl true]) = H1 at *
      have h1 := S1 _ _ h
      refine ⟨.inl ⟨rfl, _, .inl (.inl e1)⟩, [false, true], .inl (.inl e1), ite2 (fun c => absurd (by decide) c) (fun _ => ?_)⟩
      refine ⟨_, _, .own _, ty_Fault T h1, _, T.k_FA, ite2 (fun c => by cases c) (fun _ => ?_)⟩
      refine ⟨_, .inl (.inl e1), _, rfl, false, rfl, ite2 (fun c => by cases c) (fun _ => ?_)⟩
      exact ⟨_, _, _, h1, c2, T.n_Fault_place, _, rfl, q _ S1⟩
    · walk_at "rd"
      refine ⟨_, _, .own _, ty_Words T h, _, T.k_WW, ?_⟩
      refine ⟨_, _, .own _, ty_Words T h, _, T.k_WF, fun l hl => ?_⟩
      have S1 := same_new (o := HO.lst [V.bl true, V.bl false]) hl
      have e1 : upd H l (HO.lst [V.bl true, V.bl false]) l = some (HO.lst [V.bl true, V.bl false]) := upd_same
      generalize upd H l (HO.lst [V.bl true, V.bl false]) = H1 at *
      have h1 := S1 _ _ h
      refine ⟨.inl ⟨rfl, _, .inl (.inl e1)⟩, [true, false], .inl (.inl e1), ite2 (fun c => absurd (by decide) c) (fun _ => ?_)⟩
      refine ⟨_, _, .own _, ty_Words T h1, _, T.k_WA, ite2 (fun c => by cases c) (fun _ => ?_)⟩
      refine ⟨_, .inl (.inl e1), _, rfl, true, rfl, ite2 (fun _ => ?_) (fun c => absurd rfl c)⟩
      refine ⟨_, _, _, h1, c1, T.n_Words_words, _, rfl, _, _, _, h1, c1, T.n_Words_places, _, rfl, fun tp htp => ?_⟩
      exact q tp _ (S1.free htp) (S1.trans (same_new htp)) upd_same
end
end Qw

set_option Elab.async false
set_option linter.all false
set_option maxRecDepth 100000
set_option maxHeartbeats 4000000
namespace Qw
open PySem L2
local macro_rules | `(tactic| walk_at "rd") => `(tactic| simp only [tRevL, rSlS, rSlL, gSub, rSetL, wipe, List.map_cons, List.map_nil, rAll, rAny, rIsi, tM1, tM0, iZipLT, iZip, iRng2, tLenSetS, rListStr, rMulS, rCntB, tRevS, rNeD, rEqD, tSeq, tNext, tAsg, tRet, tRetN, tDrop, tIfS, sFld, sFldAug, tVar, tC, tOp, tUn, tTest, tB, tAnd, tOr, tNot, tAndV, tOrV, tNotV, tIf, tTup, tLst, tCons, tNil, tCB, tCall, tMeth, tMake, tFld, rI, rI0, rU, rEq, rNe, rCat, gName, gTup, gCons, gNil, tPar, tPar3, tBM, tBM0, rAppend, rExtend, rPopAt, rIxL, rIxT, rIxS, tSl, rSlS, rSlL, tPart, tNoPart, iStr, iTup, iList, iRng1, tAug, ipI, L2.rAdd, L2.rSub, L2.rAddS, tChain, rIsB, rNotB, scal_ss, scal_ii, scal_bb, scal_nn, scal_in, scal_ni, tYes,
  cx_K, cx_N, List.getElem?_cons_zero, List.getElem?_cons_succ, List.set_cons_zero, List.set_cons_succ, List.nil_append, List.cons_append, List.append_nil, List.length_cons, List.length_nil, Nat.zero_add,
  Option.some.injEq, V.ref.injEq, V.int.injEq, V.str.injEq, V.bl.injEq, HO.ins.injEq, HO.lst.injEq, HO.tup.injEq, List.cons.injEq, exists_eq_left, exists_eq_left', exists_eq_right, exists_eq_right', and_true, true_and, exists_and_left, exists_and_right, and_assoc, decide_eq_true_eq, Bool.not_eq_true', decide_eq_false_iff_not, reduceCtorEq, exists_const, forall_const, if_true, if_false, false_and, and_false, ite_true, ite_false, Bool.true_eq_false, Bool.false_eq_true, Nat.reduceLeDiff, Nat.reduceAdd, small_line, small_lt, upd_ne, ne_eq, not_false_eq_true, Nat.zero_le, Prod.mk.injEq, upd_same, upd_upd, S_tl, S_len, S_app, S_one, S_inj,
  lk_breaks, lk_hard, lk_soft, lk_bend, lk_note, lk_rules, lk_state, lk_bent, lk_word, lk_begun, lk_opened, lk_place, pt_state, pt_bent, pt_word, pt_wordS, pt_wordN, pt_begun, pt_opened, pt_place, pt_place1, len_mf, litv_empty, litv_note, litv_nl, mf_inj, rf_inj, lkn_begin, lkn_ended, lkn_plain, lkn_quoted, lkn_step, lkn_fault, lkn_key, lkn_told, lkn_quotes, lkn_special, pt_open1, not_true_eq_false, not_false_eq_true])
local macro_rules | `(tactic| walk_at "rdh") => `(tactic| simp only [tRevL, rSlS, rSlL, gSub, rSetL, wipe, List.map_cons, List.map_nil, rAll, rAny, rIsi, tM1, tM0, iZipLT, iZip, iRng2, tLenSetS, rListStr, rMulS, rCntB, tRevS, rNeD, rEqD, tSeq, tNext, tAsg, tRet, tRetN, tDrop, tIfS, sFld, sFldAug, tVar, tC, tOp, tUn, tTest, tB, tAnd, tOr, tNot, tAndV, tOrV, tNotV, tIf, tTup, tLst, tCons, tNil, tCB, tCall, tMeth, tMake, tFld, rI, rI0, rU, rEq, rNe, rCat, gName, gTup, gCons, gNil, tPar, tPar3, tBM, tBM0, rAppend, rExtend, rPopAt, rIxL, rIxT, rIxS, tSl, rSlS, rSlL, tPart, tNoPart, iStr, iTup, iList, iRng1, tAug, ipI, L2.rAdd, L2.rSub, L2.rAddS, tChain, rIsB, rNotB, scal_ss, scal_ii, scal_bb, scal_nn, scal_in, scal_ni, tYes,
  cx_K, cx_N, List.getElem?_cons_zero, List.getElem?_cons_succ, List.set_cons_zero, List.set_cons_succ, List.nil_append, List.cons_append, List.append_nil, List.length_cons, List.length_nil, Nat.zero_add,
  Option.some.injEq, V.ref.injEq, V.int.injEq, V.str.injEq, V.bl.injEq, HO.ins.injEq, HO.lst.injEq, HO.tup.injEq, List.cons.injEq, exists_eq_left, exists_eq_left', exists_eq_right, exists_eq_right', and_true, true_and, exists_and_left, exists_and_right, and_assoc, decide_eq_true_eq, Bool.not_eq_true', decide_eq_false_iff_not, reduceCtorEq, exists_const, forall_const, if_true, if_false, false_and, and_false, ite_true, ite_false, Bool.true_eq_false, Bool.false_eq_true, Nat.reduceLeDiff, Nat.reduceAdd, small_line, small_lt, upd_ne, ne_eq, not_false_eq_true, Nat.zero_le, Prod.mk.injEq, upd_same, upd_upd, S_tl, S_len, S_app, S_one, S_inj,
  lk_breaks, lk_hard, lk_soft, lk_bend, lk_note, lk_rules, lk_state, lk_bent, lk_word, lk_begun, lk_opened, lk_place, pt_state, pt_bent, pt_word, pt_wordS, pt_wordN, pt_begun, pt_opened, pt_place, pt_place1, len_mf, litv_empty, litv_note, litv_nl, mf_inj, rf_inj, lkn_begin, lkn_ended, lkn_plain, lkn_quoted, lkn_step, lkn_fault, lkn_key, lkn_told, lkn_quotes, lkn_special, pt_open1, not_true_eq_false, not_false_eq_true, *])
local macro_rules | `(tactic| walk_at "pl") => `(tactic| (first | decide | (refine Nat.lt_of_le_of_lt (length_putF _ _ _) ?_; repeat (first | decide | refine pl2 ?_))))
local macro_rules | `(tactic| walk_at "al") => `(tactic| (intro p hp; generalize hH : upd _ p _ = H1; obtain ⟨S, e⟩ := gen_new hH hp; clear hH))
/-- what rules read of a text -/
def readT (r : RS) (t : Tx) : Told := told3 (lr r t (t.length + 1) 0 [])
theorem readT_all {r : RS} (ok : r.Ok) (t : Tx) (rp : Addr) : told3 (readAll r t rp) = readT r t := by rw [readAll_lr ok, readT]
theorem readT_ok {r : RS} (ok : r.Ok) {t : Tx} (h : t.all sgn = true) (hn : t.length ≤ 400) : TOk (t.length + 1) (readT r t) := by
  rw [← readT_all ok t default]
  exact told3_ok1 (ok8_of h) (by omega)
theorem Tld.same {H H' H2 : Hp} {v : V} {x : Except Nat (List W3)} (h : LRes H H' v x) (s : Same H' H2) : LRes H H2 v x := by
  cases x with
  | error b => exact h
  | ok ds =>
    obtain ⟨tp, l1, l2, ys, h1, h2, h3, h4, h5, h6, h7, h8, h9⟩ := h
    exact ⟨tp, l1, l2, ys, h1, h2, h3, h4, h5, s _ _ h6, s _ _ h7, s _ _ h8, Paired.mapP h9 fun _ _ z => z.mono fun b xs => s b _⟩
theorem SqT.same {K : PySem.W.Frag} {H H' : Hp} {p : Addr} {xs : List V} (s : Same H H') (h : SqT K H p xs) : SqT K H' p xs := by
  rcases h with (h | ⟨o, h⟩) | h
  · exact .inl (.inl (s _ _ h))
  · exact .inl (.inr ⟨o, s _ _ h⟩)
  · exact .inr h
mutual
theorem Dp.same {K : PySem.W.Frag} {H H' : Hp} (s : Same H H') : ∀ (d : PyData) (v : V), Dp K H v d → Dp K H' v d
  | .none, _, h => by cases h; exact .non
  | .bool _, _, h => by cases h; exact .bl _
  | .int _, _, h => by cases h; exact .int _
  | .str _, _, h => by cases h; exact .str _
  | .list ds, _, h => by
    cases h with
    | lst hs ha => exact .lst (s.seq hs) (DpAll.same s ds _ ha)
  | .tuple ds, _, h => by
    cases h with
    | tup hs ha => exact .tup (SqT.same s hs) (DpAll.same s ds _ ha)
  | .dict _, _, h => by cases h
theorem DpAll.same {K : PySem.W.Frag} {H H' : Hp} (s : Same H H') : ∀ (ds : List PyData) (vs : List V), DpAll K H vs ds → DpAll K H' vs ds
  | [], _, h => by cases h; exact .nil
  | d :: ds, _, h => by
    cases h with
    | cons h1 h2 => exact .cons (Dp.same s d _ h1) (DpAll.same s ds _ h2)
end
section
variable {P : Program} {w : World} {K : PySem.W.Frag} {mg : Str → Option Value} {base : Heap} {a : Ad}
theorem dp_res {H H' : Hp} {v : V} {x : Except Nat (List W3)} (h : LRes H H' v x) : Dp K H' v (tD (told3 x)) := by
  cases x with
  | error b =>
    cases h
    exact .int _
  | ok ds =>
    obtain ⟨tp, l1, l2, ys, rfl, h2, h3, h4, h5, h6, h7, h8, h9⟩ := h
    exact .tup (.inl (.inl h6)) (.cons (dp_ws (.inl (.inl h7))) (.cons (dp_ps (.inl (.inl h8)) h9) .nil))
theorem tD1_tame {n : Nat} {x : Told} (h : TOk n x) : tame (.list [tD x]) = true := by simp [tame, tameAll, tD_tame h]
theorem tD1_depth (x : Told) : (PyData.list [tD x]).depth ≤ 32 := by
  simp only [PyData.depth, PyData.depthAll]
  have := tD_depth x
  omega
theorem tD1_shown {n : Nat} (hn : n ≤ 900) {x : Told} (h : TOk n x) : (PyData.list [tD x]).shown.length ≤ sizeLine := by
  refine shown_of (tD1_tame h) (tD1_depth x) ?_
  rw [PyData.weight]
  simp only [PyData.weightAll]
  have := tD_weight hn h
  omega
/-- another pair of rules and text -/
def Oth (H : Hp) (x : V) (d : RS × Tx) : Prop := ∃ q tq, x = .ref q ∧ H q = some (.tup [.ref tq, .str (S d.2)]) ∧ H tq = some (.tup (RS.tup d.1)) ∧ d.1.Ok ∧ d.2.all sgn = true ∧ d.2.length ≤ 400
/-- an answer at p -/
def Ans (a : Ad) (H : Hp) (p : Addr) (x : Told) : Prop := match x with
  | .error n => ∃ dx, H p = some (.ins a.c_Fault dx [("place", .int n)])
  | .ok (ws, ps) => ∃ dx l1 l2 ys, H p = some (.ins a.c_Words dx (WF l1 l2)) ∧ H l1 = some (.lst (ws.map fun w => .str (S w))) ∧ H l2 = some (.lst ys) ∧ Paired (Pls H) ys ps
theorem Ansd.ans {H H' : Hp} {p : Addr} {x : Told} (h : Ansd a H H' p x) : Ans a H' p x := by
  cases x with
  | error n => exact h
  | ok z =>
    obtain ⟨ws, ps⟩ := z
    obtain ⟨dx, l1, l2, ys, h1, h2, h3, h4, _⟩ := h
    exact ⟨dx, l1, l2, ys, h1, h2, h3, h4⟩
theorem Ans.same {H H' : Hp} {p : Addr} {x : Told} (h : Ans a H p x) (s : Same H H') : Ans a H' p x := by
  cases x with
  | error n =>
    obtain ⟨dx, h⟩ := h
    exact ⟨dx, s _ _ h⟩
  | ok z =>
    obtain ⟨ws, ps⟩ := z
    obtain ⟨dx, l1, l2, ys, h1, h2, h3, h4⟩ := h
    exact ⟨dx, l1, l2, ys, s _ _ h1, s _ _ h2, s _ _ h3, Paired.mapP h4 fun _ _ z => z.mono fun b xs => s b _⟩
def isOk : Told → Bool
  | .error _ => false
  | .ok _ => true
def clsOf (a : Ad) : Told → Addr
  | .error _ => a.c_Fault
  | .ok _ => a.c_Words
def fOf (a : Ad) : Told → Addr
  | .error _ => a.f_Fault_shows
  | .ok _ => a.f_Words_shows
def dOf (a : Ad) : Told → FuncData
  | .error _ => a.d_Fault_shows
  | .ok _ => a.d_Words_shows
def spOf (a : Ad) : Told → Sp
  | .error _ => sp_Fault_shows a
  | .ok _ => sp_Words_shows a
theorem clsOf_cl (T : Txt K mg a) (x : Told) : Cls K (clsOf a x) := by
  cases x
  · exact T.c_Fault.cl
  · exact T.c_Words.cl
theorem clsOf_m (T : Txt K mg a) (x : Told) : Meth K (clsOf a x) "shows" (fOf a x) := by
  cases x
  · exact T.m_Fault_shows
  · exact T.m_Words_shows
theorem clsOf_g (T : Txt K mg a) (x : Told) : FnOk P w K mg base CX0 5 (fOf a x) (dOf a x) P_Words_shows (spOf a x) := by
  cases x
  · exact ok_Fault_shows T
  · exact ok_Words_shows T
theorem clsOf_b (T : Txt K mg a) (x : Told) : Binds K (dOf a x) P_Words_shows [] := by
  cases x
  · exact bi_Fault_shows T
  · exact bi_Words_shows T
theorem clsOf_k (T : Txt K mg a) (x : Told) : PySem.W.kitOne K (.ref (clsOf a x)) (.ref a.c_Words) = some (isOk x) := by
  cases x
  · exact T.k_FW
  · exact T.k_WW
theorem lkn_fault_shows (v : V) : List.lookup ("shows" : Str) ([("place", v)] : List (Str × V)) = none := by kernel_rfl
theorem lkn_words_shows (p q : Addr) : List.lookup ("shows" : Str) (WF p q) = none := by kernel_rfl
theorem Ans.ins {H : Hp} {p : Addr} {x : Told} (h : Ans a H p x) : ∃ dx fs, H p = some (.ins (clsOf a x) dx fs) ∧ List.lookup ("shows" : Str) fs = none := by
  cases x with
  | error n =>
    obtain ⟨dx, h⟩ := h
    exact ⟨dx, _, h, lkn_fault_shows _⟩
  | ok z =>
    obtain ⟨dx, l1, l2, ys, h1, _⟩ := h
    exact ⟨dx, _, h1, lkn_words_shows _ _⟩
theorem Ans.ty (T : Txt K mg a) {H : Hp} {p : Addr} {x : Told} (h : Ans a H p x) : TyX K H (.ref p) (.ref (clsOf a x)) := by
  cases x with
  | error n =>
    obtain ⟨dx, h⟩ := h
    exact ty_Fault T h
  | ok z =>
    obtain ⟨dx, l1, l2, ys, h1, _⟩ := h
    exact ty_Words T h1
theorem few_quotes {r : RS} (ok : r.Ok) : r.hard.length + r.soft.length ≤ 100 := by have h1 := ok.l2; have h2 := ok.l3; omega
theorem shows_ok {H : Hp} {p rp dr : Addr} {x : Told} {r : RS} {u : Tx} {Q : VK} (h : Ans a H p x) (tx : TOk 900 x) (hR : H rp = some (.ins a.c_Rules dr r.f)) (ok : r.Ok) (hu : u.all sgn = true) (hl : u.length ≤ 800)
    (q : ∀ H', Same H H' → Q (.bl (decide (readT r u = x))) H') : spOf a x [.ref p, .ref rp, .str (S u)] H Q E0 := by
  cases x with
  | error n =>
    obtain ⟨dx, h⟩ := h
    refine ⟨p, dx, n, rp, dr, r, u, rfl, h, hR, few_quotes ok, by omega, fun H' s => ?_⟩
    have := q H' s
    rw [← readT_all ok u rp] at this
    cases e : readAll r u rp with
    | error m =>
      rw [e] at this
      rw [show decide (told3 (.error m) = .error n) = decide ((m : Int) = n) by rw [Bool.eq_iff_iff, decide_eq_true_eq, decide_eq_true_eq]; simp [told3]] at this
      exact this
    | ok ds =>
      rw [e] at this
      rw [decide_eq_false (by simp [told3])] at this
      exact this
  | ok z =>
    obtain ⟨ws, ps⟩ := z
    obtain ⟨dx, l1, l2, ys, h1, h2, h3, h4⟩ := h
    refine ⟨p, dx, l1, l2, ws, ys, ps, rp, dr, r, u, rfl, h1, h2, h3, h4, hR, few_quotes ok, hl, ok8_of hu, tx, fun H' s => ?_⟩
    have := q H' s
    rw [← readT_all ok u rp] at this
    exact this
theorem said_ok {H : Hp} {p : Addr} {x : Told} {Q : VK} (h : Ans a H p x) (q : ∀ v H', Same H H' → Dp K H' v (tD x) → Q v H') : sp_law_said a [.ref p] H Q E0 := by
  cases x with
  | error n =>
    obtain ⟨dx, h⟩ := h
    exact ⟨p, dx, rfl, .inl ⟨n, h, fun H' s => q _ H' s (.int _)⟩⟩
  | ok z =>
    obtain ⟨ws, ps⟩ := z
    obtain ⟨dx, l1, l2, ys, h1, h2, h3, h4⟩ := h
    refine ⟨p, dx, rfl, .inr ⟨l1, l2, h1, fun tp H' ht s e => q _ H' s ?_⟩⟩
    exact .tup (.inl (.inl e)) (.cons (dp_ws (.inl (.inl (s _ _ h2)))) (.cons (dp_ps (.inl (.inl (s _ _ h3))) (Paired.mapP h4 fun _ _ z => z.mono fun b xs => s b _)) .nil))
theorem shown_bool (b : Bool) : (PyData.list [.bool b]).showable = true ∧ (PyData.list [.bool b]).hasDict = false ∧ (PyData.list [.bool b]).depth ≤ 32 ∧ (PyData.list [.bool b]).shown.length ≤ sizeLine := by
  cases b <;> exact ⟨by decide, by decide, by decide, by decide +kernel⟩
def rD (r : RS) : PyData := .tuple [.str (S r.breaks), .str (S r.hard), .str (S r.soft), .str (S r.bend), .str (S r.note)]
theorem rD_dp {H : Hp} {p : Addr} {r : RS} (h : H p = some (.tup r.tup)) : Dp K H (.ref p) (rD r) := .tup (.inl (.inl h)) (.cons (.str _) (.cons (.str _) (.cons (.str _) (.cons (.str _) (.cons (.str _) .nil)))))
theorem rD_tame {r : RS} (ok : r.Ok) : tame (rD r) = true := by
  have h := Ok_sgn ok
  have m : ∀ {l : Tx}, (∀ c ∈ l, c ∈ r.every) → PyData.strOk (S l) = true := fun hl => strOk_S fun c hc => h c (hl c hc)
  simp only [rD, tame, tameAll, Bool.and_true, Bool.and_eq_true]
  refine ⟨m fun c hc => ?_, m fun c hc => ?_, m fun c hc => ?_, m fun c hc => ?_, m fun c hc => ?_⟩ <;> simp [RS.every, hc]
def sp_law_right : Sp := fun vs H Q _ => ∃ tp r t ol os ds, vs = [.ref tp, .str (S t), .ref ol] ∧ H tp = some (.tup (RS.tup r)) ∧ r.Ok ∧ t.all sgn = true ∧ t.length ≤ 400 ∧ H ol = some (.lst os) ∧ Paired (Oth H) os ds ∧ ds.length ≤ 10 ∧
  ∀ H', Same H H' → Q (.bl true) H'
theorem ok__law_right (T : Txt K mg a) : FnG P w K mg base 7 a.f__law_right a.d__law_right P__law_right sp_law_right := by
  refine fnG_of T.F__law_right sc__law_right (fun vs H Q E h => ?_) (fun cdv A outer s H vs Q E hfr hr h => ?_)
  · obtain ⟨tp, r, t, ol, os, ds, rfl, _⟩ := h
    rfl
  · obtain ⟨tp, r, t, ol, os, ds, rfl, ht, ok, hs, hl, ho, hos, hd, q⟩ := h
    have rT := readT_ok ok hs hl
    generalize hE : readT r t = E at rT
    have cC := clsOf_cl T E
    have mC := clsOf_m T E
    have gC := clsOf_g (P := P) (w := w) (base := base) T E
    have bC := clsOf_b T E
    have G__law_read := ok__law_read (P := P) (w := w) (base := base) T
    have B__law_read := bi__law_read T
    have G__law_rules := ok__law_rules (P := P) (w := w) (base := base) T
    have B__law_rules := bi__law_rules T
    have G_split := ok_split (P := P) (w := w) (base := base) T
    have B_split := bi_split T
    have G_Fault_shows := ok_Fault_shows (P := P) (w := w) (base := base) T
    have B_Fault_shows := bi_Fault_shows T
    have G__law_said := ok__law_said (P := P) (w := w) (base := base) T
    have B__law_said := bi__law_said T
    have G_Rules_told := ok_Rules_told (P := P) (w := w) (base := base) T
    have B_Rules_told := bi_Rules_told T
    refine ⟨_,
(pss_cons (ps_par (i := 3) (j := 4) (by rfl) sc__law_right.nd rfl rfl (by decide) rfl rfl (pa_cons (pe_call G__law_rules (hr.mono (by decide)) rfl T.f__law_rules.g T.f__law_rules.k B__law_rules .nil pass0 (pa_cons (pv 0) pa_nil)) (pa_cons (pe_call G__law_read (hr.mono (by decide)) rfl T.f__law_read.g T.f__law_read.k B__law_read .nil pass0 (pa_cons (pv 0) (pa_cons (pv 1) pa_nil))) pa_nil)) (by rfl))
    (pss_cons (ps_for PassesOwn.never rfl (pi_range1 rfl T.b_range (pa_cons pe_int pa_nil)) (pg_name (i := 5) sc__law_right.nd rfl (Or.inl rfl))
    (pss_cons (ps_set (i := 6) sc__law_right.nd rfl (by first | exact Or.inl rfl | exact Or.inr rfl) (pe_call G_split (hr.mono (by decide)) rfl T.f_split.g T.f_split.k B_split .nil pass0 (pa_cons (pv 3) (pa_cons (pv 1) pa_nil))))
    (pss_cons (ps_if (PW.pt (pw_or (pt_cmpR op_ne (pe_callTy (call_str_data hfr hr.units) (by rfl) T.b_str (by decide +kernel) (pa_cons (pe_lst (pa_cons (pe_call G__law_said (hr.mono (by decide)) rfl T.f__law_said.g T.f__law_said.k B__law_said .nil pass0 (pa_cons (pv 6) pa_nil)) pa_nil)) pa_nil)) (pe_callTy (call_str_data hfr hr.units) (by rfl) T.b_str (by decide +kernel) (pa_cons (pe_lst (pa_cons (pv 4) pa_nil)) pa_nil)) (nomark _)) (pw_or1 (pt_cmpR op_notBl (pe_meth (pv 6) cC mC gC (hr.mono (by decide)) bC .nil pass0 (pa_cons (pv 3) (pa_cons (pv 1) pa_nil))) pe_bl (nomark _))))) (pss_one (ps_ret pe_bl)) pss_nil)
    (pss_cons (ps_for PassesOwn.never rfl (pi_list (pv 2)) (pg_tup rfl (pgs_cons (pg_name (i := 7) sc__law_right.nd rfl (Or.inl rfl)) (pgs_cons (pg_name (i := 8) sc__law_right.nd rfl (Or.inl rfl)) pgs_nil)))
    (pss_one (ps_if (pt_cmpR op_ne (pe_callTy (call_str_data hfr hr.units) (by rfl) T.b_str (by decide +kernel) (pa_cons (pe_lst (pa_cons (pe_meth (pv 6) cC mC gC (hr.mono (by decide)) bC .nil pass0 (pa_cons (pe_call G__law_rules (hr.mono (by decide)) rfl T.f__law_rules.g T.f__law_rules.k B__law_rules .nil pass0 (pa_cons (pv 7) pa_nil)) (pa_cons (pv 8) pa_nil))) pa_nil)) pa_nil)) (pe_callTy (call_str_data hfr hr.units) (by rfl) T.b_str (by decide +kernel) (pa_cons (pe_lst (pa_cons (pe_cmpR (op_eqD hr.units) (pe_call G__law_read (hr.mono (by decide)) rfl T.f__law_read.g T.f__law_read.k B__law_read .nil pass0 (pa_cons (pv 7) (pa_cons (pv 8) pa_nil))) (pv 4) (nomark _)) pa_nil)) pa_nil)) (nomark _)) (pss_one (ps_ret pe_bl)) pss_nil)))
    (pss_one (ps_if (pt_val (pe_callB (call_isi) (by rfl) T.b_isinstance (by decide +kernel) (pa_cons (pv 6) (pa_cons (pe_glob (v := .ref a.c_Words) rfl T.c_Words.g rfl) pa_nil)))) (pss_cons (ps_expr (pe_bm PySem.F.plainAttrs_list PySem.F.slot_list_append PySem.F.type_list_append mt_append (pe_fld (pv 6) rfl) (pa_cons (pe_tup (pa_cons pe_int (pa_cons pe_int pa_nil))) pa_nil)))
    (pss_cons (ps_if (pt_cmpR op_notBl (pe_meth (pv 6) cC mC gC (hr.mono (by decide)) bC .nil pass0 (pa_cons (pv 3) (pa_cons (pv 1) pa_nil))) pe_bl (nomark _)) (pss_one (ps_ret pe_bl)) pss_nil)
    (pss_one (ps_expr (pe_bm PySem.F.plainAttrs_list PySem.F.slot_list_append PySem.F.type_list_append mt_append (pe_fld (pv 6) rfl) (pa_cons pe_str pa_nil)))))) pss_nil))))))
    (pss_one (ps_ret (pe_cmpR (op_eqD hr.units) (pe_meth0 (pv 3) T.c_Rules.cl T.m_Rules_told G_Rules_told (hr.mono (by decide)) B_Rules_told .nil pass0) (pv 0) (nomark _))))))
      , ?_⟩
    rw [show start N__law_right [V.ref tp, V.str (S t), V.ref ol] = [some (.ref tp), some (.str (S t)), some (.ref ol), none, none, none, none, none, none] from rfl]
    walk_at "rd"
    refine ⟨tp, r, rfl, ht, ok, fun rp dr H1 hrp hR s1 => ?_⟩
    refine ⟨tp, r, t, rfl, s1 _ _ ht, ok, by omega, fun v H2 s2 res => ?_⟩
    have s02 := s1.trans s2
    have ho2 := s02 _ _ ho
    have hos2 : Paired (Oth H2) os ds := Paired.mapP hos fun _ _ ⟨q, tq, e1, e2, e3, e4⟩ => ⟨q, tq, e1, s02 _ _ e2, s02 _ _ e3, e4⟩
    have hR2 := s2 _ _ hR
    have tx : TOk 900 E := rT.mono (by omega)
    refine tfor_it (J := Itr 0 2) (H1 := H2) (fun R hR => ?_) walk_range (fun i σ H' => Same H2 H' ∧ ∃ v5 v6 v7 v8, σ = [some (.ref tp), some (.str (S t)), some (.ref ol), some (.ref rp), some v, v5, v6, v7, v8]) ⟨Same.refl _, _, _, _, _, rfl⟩ (fun _ _ _ _ _ => trivial) ?_ ?_
    · exact ⟨2, rfl, by decide, by decide, hR⟩
    · rintro i x σ H3 H3' hi ⟨s3, v5, v6, v7, v8, rfl⟩ ⟨rfl, rfl⟩
      walk_at "rd"
      refine ⟨rp, dr, r, t, rfl, s3 _ _ hR2, few_quotes ok, hl, hs, fun p H4 hp s4 ans => ?_⟩
      rw [readT_all ok, hE] at ans
      have an4 := ans.ans
      have s24 := s3.trans s4
      refine said_ok (K := K) an4 fun u H5 s5 du l5 hl5 => ?_
      have S5 := same_new (o := HO.lst [u]) hl5
      have d5 : Dp K (upd H5 l5 (HO.lst [u])) (V.ref l5) (.list [tD E]) := .lst (.inl (.inl upd_same)) (.cons (Dp.same S5 _ _ du) .nil)
      have s25 := (s24.trans s5).trans S5
      have an5 := an4.same (s5.trans S5)
      generalize upd H5 l5 (HO.lst [u]) = H6 at *
      have tm := tame_has _ (tD1_tame tx)
      have dE : told3 (lr r t (t.length + 1) 0 []) = E := hE
      refine ⟨_, d5, tm.2.1, tm.2.2.1, tD1_depth E, tD1_shown (by decide) tx, fun l7 hl7 => ?_⟩
      have S7 := same_new (o := HO.lst [v]) hl7
      have s27 := s25.trans S7
      have d7 : Dp K (upd H6 l7 (HO.lst [v])) (V.ref l7) (.list [tD E]) := .lst (.inl (.inl upd_same)) (.cons (by rw [← dE]; exact dp_res (Tld.same res s27)) .nil)
      have an7 := an5.same S7
      generalize upd H6 l7 (HO.lst [v]) = H7 at *
      refine ⟨_, d7, tm.2.1, tm.2.2.1, tD1_depth E, tD1_shown (by decide) tx, ite2 (fun c => absurd rfl c) (fun _ => ?_)⟩
      obtain ⟨dxp, fs, hp1, hp2⟩ := an7.ins
      refine ⟨p, rfl, dxp, fs, hp1, hp2, shows_ok an7 tx (s27 _ _ hR2) ok hs (by omega) fun H8 s8 => ?_⟩
      rw [decide_eq_true hE]
      refine ⟨true, rfl, ite2 (fun c => absurd rfl c) (fun _ => ?_)⟩
      have s28 := s27.trans s8
      have an8 := an7.same s8
      refine tfor_it (J := Itl K ol) (H1 := H8) (n := os.length) (G := fun H => SqL K H ol os) (fun R hR => ?_) walk_list (fun j σ H' => Same H8 H' ∧ ∃ v7 v8, σ = [some (.ref tp), some (.str (S t)), some (.ref ol), some (.ref rp), some v, some (.int (0 + i)), some (.ref p), v7, v8])
        ⟨Same.refl _, _, _, rfl⟩ (fun j σ H h hj => .inl (.inl ((s28.trans hj.1) _ _ ho2))) ?_ ?_
      · exact ⟨_, rfl, ol, rfl, ⟨_, .inl (.inl (s28 _ _ ho2))⟩, hR⟩
      · rintro j x σ H9 H9' hj ⟨s9, w7, w8, rfl⟩ ⟨rfl, hx⟩
        have hdj : j < ds.length := by rw [← hos2.length]; exact hj
        obtain ⟨q1, tq, rfl, o1, o2, o3, o4, o5⟩ := Paired.at' hos2 (List.getElem?_eq_getElem hdj) hx
        generalize ds[j] = dj at *
        have s29 := s28.trans s9
        walk_at "rd"
        refine ⟨_, .inl (.inl ((s29 _ _ o1))), rfl, _, _, rfl, _, _, rfl, rfl, ?_⟩
        have an9 := an8.same s9
        obtain ⟨dx9, fs9, p91, p92⟩ := an9.ins
        refine ⟨_, _, p91, p92, ?_⟩
        refine ⟨tq, dj.1, rfl, s29 _ _ o2, o3, fun rp' dr' H10 hrp' hR' s10 => ?_⟩
        refine shows_ok (an9.same s10) tx hR' o3 o4 (by omega) fun H11 s11 => ?_
        intro l12 hl12
        have S12 := same_new (o := HO.lst [V.bl (decide (readT dj.1 dj.2 = E))]) hl12
        have d12 : Dp K (upd H11 l12 (HO.lst [V.bl (decide (readT dj.1 dj.2 = E))])) (V.ref l12) (.list [.bool (decide (readT dj.1 dj.2 = E))]) := .lst (.inl (.inl upd_same)) (.cons (.bl _) .nil)
        generalize upd H11 l12 (HO.lst [V.bl (decide (readT dj.1 dj.2 = E))]) = H12 at *
        have s212 := ((s29.trans s10).trans s11).trans S12
        have sb := shown_bool (decide (readT dj.1 dj.2 = E))
        refine ⟨_, d12, sb.1, sb.2.1, sb.2.2.1, sb.2.2.2, ?_⟩
        refine ⟨tq, dj.1, dj.2, rfl, s212 _ _ o2, o3, by omega, fun v' H13 s13 res' => ?_⟩
        have tx' : TOk 900 (readT dj.1 dj.2) := (readT_ok o3 o4 o5).mono (by omega)
        have dv : Dp K H13 v (tD E) := by rw [← dE]; exact dp_res (Tld.same res (s212.trans s13))
        have dv' : Dp K H13 v' (tD (readT dj.1 dj.2)) := dp_res res'
        refine ⟨_, dv', _, dv, shaped_of (tD_tame tx') (Nat.le_trans (tD_depth _) (by decide)), shaped_of (tD_tame tx) (Nat.le_trans (tD_depth _) (by decide)), fun l14 hl14 => ?_⟩
        rw [eqv_dec (tD_tame tx') (tD_tame tx) tD_inj]
        have d14 : Dp K (upd H13 l14 (HO.lst [V.bl (decide (readT dj.1 dj.2 = E))])) (V.ref l14) (.list [.bool (decide (readT dj.1 dj.2 = E))]) := .lst (.inl (.inl upd_same)) (.cons (.bl _) .nil)
        refine ⟨_, d14, sb.1, sb.2.1, sb.2.2.1, sb.2.2.2, ite2 (fun c => absurd rfl c) (fun _ => ?_)⟩
        exact ⟨(((s9.trans s10).trans s11).trans S12).trans (s13.trans (same_new hl14)), _, rfl⟩
      · rintro σ H9 ⟨s9, w7, w8, rfl⟩
        walk_at "rd"
        have an9 := an8.same s9
        have s29 := s28.trans s9
        refine ⟨_, _, .own _, an9.ty T, _, clsOf_k T E, ?_⟩
        rcases E with n | ⟨ws, ps⟩
        · exact ite2 (fun c => by cases c) (fun _ => ⟨s29, _, rfl⟩)
        refine ite2 (fun _ => ?_) (fun c => absurd rfl c)
        obtain ⟨dx, l1, l2, ys, b1, b2, b3, b4, f1, f2, n12⟩ := ans
        have s49 : Same H4 H9 := ((((s5.trans S5).trans S7).trans s8).trans s9)
        have c1 := s49 _ _ b1
        have c2 := s49 _ _ b2
        have c3 := s49 _ _ b3
        have c4 : Paired (Pls H9) ys ps := Paired.mapP b4 fun _ _ z => z.mono fun b xs => s49 b _
        have lps := (rT.ps _ _ rfl).2
        have npl : p ≠ l2 := fun z => by rw [z, b3] at b1; cases b1
        have npl1 : p ≠ l1 := fun z => by rw [z, b2] at b1; cases b1
        refine ⟨_, _, _, c1, T.c_Words.cl, T.n_Words_places, _, rfl, .inl ⟨rfl, _, .inl (.inl c3)⟩, fun qa hqa => ?_⟩
        have S10 := same_new (o := HO.tup [V.int 0, V.int 1]) hqa
        have q10 : upd H9 qa (HO.tup [V.int 0, V.int 1]) qa = some (HO.tup [V.int 0, V.int 1]) := upd_same
        have s210 := s29.trans S10
        generalize upd H9 qa (HO.tup [V.int 0, V.int 1]) = H10 at *
        have e3 := S10 _ _ c3
        refine ⟨l2, rfl, ys, e3, ?_, ?_⟩
        · rw [c4.length]
          exact Nat.lt_of_le_of_lt (show ps.length ≤ 401 by omega) (by decide)
        have f2' : H2 l2 = none := s3.free f2
        have f1' : H2 l1 = none := s3.free f1
        have S11 : Same H2 (upd H10 l2 (HO.lst (ys ++ [V.ref qa]))) := Same.mut s210 f2'
        have T11 : Tk H10 (upd H10 l2 (HO.lst (ys ++ [V.ref qa]))) := kp_upd.tk e3 fun _ z => by cases z
        have g1 : upd H10 l2 (HO.lst (ys ++ [V.ref qa])) p = some (HO.ins a.c_Words dx (WF l1 l2)) := by rw [upd_ne npl]; exact S10 _ _ c1
        have g2 : upd H10 l2 (HO.lst (ys ++ [V.ref qa])) l1 = some (HO.lst (ws.map fun w => V.str (S w))) := by rw [upd_ne n12]; exact S10 _ _ c2
        have g3 : upd H10 l2 (HO.lst (ys ++ [V.ref qa])) l2 = some (HO.lst (ys ++ [V.ref qa])) := upd_same
        have g4 : Paired (Pls (upd H10 l2 (HO.lst (ys ++ [V.ref qa])))) (ys ++ [V.ref qa]) (ps ++ [(0, 1)]) :=
          Paired.app (Paired.mapP c4 fun _ _ z => z.mono fun b xs q => T11 _ _ (S10 _ _ q)) (.cons ⟨qa, rfl, T11 _ _ q10⟩ .nil)
        generalize upd H10 l2 (HO.lst (ys ++ [V.ref qa])) = H11 at *
        have tx2 : TOk 900 (.ok (ws, ps ++ [(0, 1)])) := by
          refine ⟨fun i z => (nomatch z), fun l q z => ?_, fun l q z => ?_⟩
          · cases z
            exact tx.ws _ _ rfl
          · cases z
            refine ⟨fun z hz => ?_, by rw [List.length_append]; simp only [List.length_cons, List.length_nil]; omega⟩
            rcases List.mem_append.mp hz with h | h
            · exact (tx.ps _ _ rfl).1 z h
            · cases List.mem_singleton.mp h
              exact ⟨by show (0 : Int).natAbs < _; decide, by show (1 : Int).natAbs < _; decide⟩
        refine ⟨_, _, g1, lkn_words_shows _ _, shows_ok (x := .ok (ws, ps ++ [(0, 1)])) ⟨dx, l1, l2, _, g1, g2, g3, g4⟩ tx2 (S11 _ _ hR2) ok hs (by omega) fun H12 s12 => ?_⟩
        rw [decide_eq_false (by rw [hE]; intro z; simp at z)]
        refine ⟨false, rfl, ite2 (fun c => absurd rfl c) (fun _ => ?_)⟩
        have h2 := s12 _ _ g2
        refine ⟨_, _, _, s12 _ _ g1, T.c_Words.cl, T.n_Words_words, _, rfl, ?_⟩
        refine ⟨.inl ⟨rfl, _, .inl (.inl h2)⟩, l1, rfl, _, h2, ?_, Same.mut (S11.trans s12) f1', _, rfl⟩
        rw [List.length_map]
        exact Nat.lt_of_le_of_lt (tx.ws _ _ rfl).2 (by decide)
    · rintro σ H3 ⟨s3, v5, v6, v7, v8, rfl⟩
      walk_at "rd"
      refine ⟨_, _, s3 _ _ hR2, lkn_told _, rp, dr, r, rfl, s3 _ _ hR2, fun t' H' ht' e => ?_⟩
      subst e
      have S4 := same_new (o := HO.tup r.tup) ht'
      refine ⟨rD r, rD_dp upd_same, rD r, rD_dp (S4 _ _ (s3 _ _ (s02 _ _ ht))), shaped_of (rD_tame ok) (by simp [rD, PyData.depth, PyData.depthAll]), shaped_of (rD_tame ok) (by simp [rD, PyData.depth, PyData.depthAll]), ?_⟩
      rw [(eqv_iff _ _ (rD_tame ok) (rD_tame ok)).mpr rfl]
      exact q _ ((s02.trans s3).trans S4)
end
end Qw

set_option Elab.async false
set_option linter.all false
set_option maxRecDepth 100000
set_option maxHeartbeats 4000000
namespace Qw
open PySem L2
local macro_rules | `(tactic| walk_at "rd") => `(tactic| simp only [tRevL, rSlS, rSlL, gSub, rSetL, wipe, List.map_cons, List.map_nil, rAll, rAny, rIsi, tM1, tM0, iZipLT, iZip, iRng2, tLenSetS, rListStr, rMulS, rCntB, tRevS, rNeD, rEqD, tSeq, tNext, tAsg, tRet, tRetN, tDrop, tIfS, sFld, sFldAug, tVar, tC, tOp, tUn, tTest, tB, tAnd, tOr, tNot, tAndV, tOrV, tNotV, tIf, tTup, tLst, tCons, tNil, tCB, tCall, tMeth, tMake, tFld, rI, rI0, rU, rEq, rNe, rCat, gName, gTup, gCons, gNil, tPar, tPar3, tBM, tBM0, rAppend, rExtend, rPopAt, rIxL, rIxT, rIxS, tSl, rSlS, rSlL, tPart, tNoPart, iStr, iTup, iList, iRng1, tAug, ipI, L2.rAdd, L2.rSub, L2.rAddS, tChain, rIsB, rNotB, scal_ss, scal_ii, scal_bb, scal_nn, scal_in, scal_ni, tYes,
  cx_K, cx_N, List.getElem?_cons_zero, List.getElem?_cons_succ, List.set_cons_zero, List.set_cons_succ, List.nil_append, List.cons_append, List.append_nil, List.length_cons, List.length_nil, Nat.zero_add,
  Option.some.injEq, V.ref.injEq, V.int.injEq, V.str.injEq, V.bl.injEq, HO.ins.injEq, HO.lst.injEq, HO.tup.injEq, List.cons.injEq, exists_eq_left, exists_eq_left', exists_eq_right, exists_eq_right', and_true, true_and, exists_and_left, exists_and_right, and_assoc, decide_eq_true_eq, Bool.not_eq_true', decide_eq_false_iff_not, reduceCtorEq, exists_const, forall_const, if_true, if_false, false_and, and_false, ite_true, ite_false, Bool.true_eq_false, Bool.false_eq_true, Nat.reduceLeDiff, Nat.reduceAdd, small_line, small_lt, upd_ne, ne_eq, not_false_eq_true, Nat.zero_le, Prod.mk.injEq, upd_same, upd_upd, S_tl, S_len, S_app, S_one, S_inj,
  lk_breaks, lk_hard, lk_soft, lk_bend, lk_note, lk_rules, lk_state, lk_bent, lk_word, lk_begun, lk_opened, lk_place, pt_state, pt_bent, pt_word, pt_wordS, pt_wordN, pt_begun, pt_opened, pt_place, pt_place1, len_mf, litv_empty, litv_note, litv_nl, mf_inj, rf_inj, lkn_begin, lkn_ended, lkn_plain, lkn_quoted, lkn_step, lkn_fault, lkn_key, lkn_told, lkn_quotes, lkn_special, pt_open1, not_true_eq_false, not_false_eq_true])
local macro_rules | `(tactic| walk_at "rdh") => `(tactic| simp only [tRevL, rSlS, rSlL, gSub, rSetL, wipe, List.map_cons, List.map_nil, rAll, rAny, rIsi, tM1, tM0, iZipLT, iZip, iRng2, tLenSetS, rListStr, rMulS, rCntB, tRevS, rNeD, rEqD, tSeq, tNext, tAsg, tRet, tRetN, tDrop, tIfS, sFld, sFldAug, tVar, tC, tOp, tUn, tTest, tB, tAnd, tOr, tNot, tAndV, tOrV, tNotV, tIf, tTup, tLst, tCons, tNil, tCB, tCall, tMeth, tMake, tFld, rI, rI0, rU, rEq, rNe, rCat, gName, gTup, gCons, gNil, tPar, tPar3, tBM, tBM0, rAppend, rExtend, rPopAt, rIxL, rIxT, rIxS, tSl, rSlS, rSlL, tPart, tNoPart, iStr, iTup, iList, iRng1, tAug, ipI, L2.rAdd, L2.rSub, L2.rAddS, tChain, rIsB, rNotB, scal_ss, scal_ii, scal_bb, scal_nn, scal_in, scal_ni, tYes,
  cx_K, cx_N, List.getElem?_cons_zero, List.getElem?_cons_succ, List.set_cons_zero, List.set_cons_succ, List.nil_append, List.cons_append, List.append_nil, List.length_cons, List.length_nil, Nat.zero_add,
  Option.some.injEq, V.ref.injEq, V.int.injEq, V.str.injEq, V.bl.injEq, HO.ins.injEq, HO.lst.injEq, HO.tup.injEq, List.cons.injEq, exists_eq_left, exists_eq_left', exists_eq_right, exists_eq_right', and_true, true_and, exists_and_left, exists_and_right, and_assoc, decide_eq_true_eq, Bool.not_eq_true', decide_eq_false_iff_not, reduceCtorEq, exists_const, forall_const, if_true, if_false, false_and, and_false, ite_true, ite_false, Bool.true_eq_false, Bool.false_eq_true, Nat.reduceLeDiff, Nat.reduceAdd, small_line, small_lt, upd_ne, ne_eq, not_false_eq_true, Nat.zero_le, Prod.mk.injEq, upd_same, upd_upd, S_tl, S_len, S_app, S_one, S_inj,
  lk_breaks, lk_hard, lk_soft, lk_bend, lk_note, lk_rules, lk_state, lk_bent, lk_word, lk_begun, lk_opened, lk_place, pt_state, pt_bent, pt_word, pt_wordS, pt_wordN, pt_begun, pt_opened, pt_place, pt_place1, len_mf, litv_empty, litv_note, litv_nl, mf_inj, rf_inj, lkn_begin, lkn_ended, lkn_plain, lkn_quoted, lkn_step, lkn_fault, lkn_key, lkn_told, lkn_quotes, lkn_special, pt_open1, not_true_eq_false, not_false_eq_true, *])
local macro_rules | `(tactic| walk_at "pl") => `(tactic| (first | decide | (refine Nat.lt_of_le_of_lt (length_putF _ _ _) ?_; repeat (first | decide | refine pl2 ?_))))
local macro_rules | `(tactic| walk_at "al") => `(tactic| (intro p hp; generalize hH : upd _ p _ = H1; obtain ⟨S, e⟩ := gen_new hH hp; clear hH))
/-! ### small words and places -/
structure Sm (n : Nat) (ws : List Tx) (ps : List (Int × Int)) : Prop where
  w : ∀ t ∈ ws, ok8 t ∧ t.length ≤ n
  wl : ws.length ≤ n
  p : ∀ d ∈ ps, d.1.natAbs ≤ n ∧ d.2.natAbs ≤ n
  pl : ps.length ≤ n
theorem Sm.tok {n : Nat} {ws : List Tx} {ps : List (Int × Int)} (h : Sm n ws ps) (hn : n ≤ 900) : TOk 900 (.ok (ws, ps)) := by
  refine ⟨fun i z => (nomatch z), fun l q z => ?_, fun l q z => ?_⟩
  · cases z
    exact ⟨fun t ht => ⟨(h.w t ht).1, Nat.le_trans (h.w t ht).2 hn⟩, Nat.le_trans h.wl hn⟩
  · cases z
    refine ⟨fun d hd => ?_, Nat.le_trans h.pl hn⟩
    have := h.p d hd
    simp only [okI]
    omega
/-- all that is tracked stays, but where it is hot -/
def Kq (hot : List Addr) (H H' : Hp) : Prop := ∀ b o, H b = some o → b ∉ hot → H' b = some o
theorem _root_.L2.Same.kq {hot : List Addr} {H H' : Hp} (h : Same H H') : Kq hot H H' := fun b o e _ => h b o e
theorem Kp.kq {hot : List Addr} {p : Addr} {H H' : Hp} (h : Kp p H H') (hp : p ∈ hot) : Kq hot H H' := fun b o e n => h b o e fun z => n (z ▸ hp)
/-- the hot ones are lists -/
def HotL (hot : List Addr) (H : Hp) : Prop := ∀ b ∈ hot, ∃ xs, H b = some (.lst xs)
theorem Kq.tup {hot : List Addr} {H H' : Hp} (k : Kq hot H H') (hl : HotL hot H) : ∀ b xs, H b = some (.tup xs) → H' b = some (.tup xs) := fun b xs e => k _ _ e fun z => by
  obtain ⟨ys, e2⟩ := hl b z
  rw [e] at e2
  cases e2
def WL (hot : List Addr) (H : Hp) (p : Addr) (ws : List Tx) : Prop := p ∉ hot ∧ H p = some (.lst (ws.map sV))
def PL (hot : List Addr) (H : Hp) (p : Addr) (ps : List (Int × Int)) : Prop := p ∉ hot ∧ ∃ ys, H p = some (.lst ys) ∧ Paired (Pls H) ys ps
theorem WL.kp {hot : List Addr} {p : Addr} {H H' : Hp} {ws : List Tx} (h : WL hot H p ws) (k : Kq hot H H') : WL hot H' p ws := ⟨h.1, k _ _ h.2 h.1⟩
theorem PL.kp {hot : List Addr} {p : Addr} {H H' : Hp} {ps : List (Int × Int)} (h : PL hot H p ps) (k : Kq hot H H') (hl : HotL hot H) : PL hot H' p ps := by
  obtain ⟨h1, ys, h2, h3⟩ := h
  exact ⟨h1, ys, k _ _ h2 h1, Paired.mapP h3 fun _ _ z => z.mono (k.tup hl)⟩
theorem WL.hot {hot : List Addr} {p q : Addr} {H H' : Hp} {ws : List Tx} (h : WL hot H p ws) (s : Same H H') (hq : H q = none) : WL (q :: hot) H' p ws :=
  ⟨fun z => (List.mem_cons.mp z).elim (ne_of_none h.2 hq) h.1, s _ _ h.2⟩
theorem PL.hot {hot : List Addr} {p q : Addr} {H H' : Hp} {ps : List (Int × Int)} (h : PL hot H p ps) (s : Same H H') (hq : H q = none) : PL (q :: hot) H' p ps := by
  obtain ⟨h1, ys, h2, h3⟩ := h
  exact ⟨fun z => (List.mem_cons.mp z).elim (ne_of_none h2 hq) h1, ys, s _ _ h2, Paired.mapP h3 fun _ _ z => z.mono fun b xs => s b _⟩
def DU (hot : List Addr) (H : Hp) (v : V) (x : Told) : Prop := match x with
  | .error n => v = .int n
  | .ok (ws, ps) => ∃ t l1 l2, v = .ref t ∧ H t = some (.tup [.ref l1, .ref l2]) ∧ WL hot H l1 ws ∧ PL hot H l2 ps
theorem DU.kp {hot : List Addr} {H H' : Hp} {v : V} {x : Told} (h : DU hot H v x) (k : Kq hot H H') (hl : HotL hot H) : DU hot H' v x := by
  cases x with
  | error n => exact h
  | ok z =>
    obtain ⟨ws, ps⟩ := z
    obtain ⟨t, l1, l2, h1, h2, h3, h4⟩ := h
    exact ⟨t, l1, l2, h1, k.tup hl _ _ h2, h3.kp k, h4.kp k hl⟩
theorem DU.hot {hot : List Addr} {q : Addr} {H H' : Hp} {v : V} {x : Told} (h : DU hot H v x) (s : Same H H') (hq : H q = none) : DU (q :: hot) H' v x := by
  cases x with
  | error n => exact h
  | ok z =>
    obtain ⟨ws, ps⟩ := z
    obtain ⟨t, l1, l2, h1, h2, h3, h4⟩ := h
    exact ⟨t, l1, l2, h1, s _ _ h2, h3.hot s hq, h4.hot s hq⟩
theorem DU.of {st : Addr} {H H' : Hp} {v : V} {x : Except Nat (List W3)} (h : LRes H H' v x) {o : HO} (hs : H st = some o) : DU [st] H' v (told3 x) := by
  cases x with
  | error b => exact h
  | ok ds =>
    obtain ⟨tp, l1, l2, ys, h1, h2, h3, h4, h5, h6, h7, h8, h9⟩ := h
    exact ⟨tp, l1, l2, h1, h6, ⟨fun z => ne_of_none hs h3 (List.mem_singleton.mp z).symm, h7⟩, fun z => ne_of_none hs h4 (List.mem_singleton.mp z).symm, ys, h8, h9⟩
def Lot (hot : List Addr) (H : Hp) (x : V) (d : List Tx × List (Int × Int)) : Prop := ∃ q wl pl, x = .ref q ∧ H q = some (.tup [.ref wl, .ref pl]) ∧ WL hot H wl d.1 ∧ PL hot H pl d.2 ∧ Sm 500 d.1 d.2
theorem Lot.kp {hot : List Addr} {H H' : Hp} {x : V} {d : List Tx × List (Int × Int)} (h : Lot hot H x d) (k : Kq hot H H') (hl : HotL hot H) : Lot hot H' x d := by
  obtain ⟨q, wl, pl, h1, h2, h3, h4, h5⟩ := h
  exact ⟨q, wl, pl, h1, k.tup hl _ _ h2, h3.kp k, h4.kp k hl, h5⟩
theorem Lot.hot {hot : List Addr} {q : Addr} {H H' : Hp} {x : V} {d : List Tx × List (Int × Int)} (h : Lot hot H x d) (s : Same H H') (hq : H q = none) : Lot (q :: hot) H' x d := by
  obtain ⟨t, wl, pl, h1, h2, h3, h4, h5⟩ := h
  exact ⟨t, wl, pl, h1, s _ _ h2, h3.hot s hq, h4.hot s hq, h5⟩
theorem cut_from (xs : List V) (k : Nat) : cutV xs (some (k : Int)) none = xs.drop k := by
  unfold cutV
  rw [HT.sIx_nat, HT.sIx_none]
  rcases Nat.le_total k xs.length with h | h
  · rw [Nat.min_eq_left h]
    exact List.take_of_length_le (by rw [List.length_drop]; exact Nat.le_refl _)
  · rw [Nat.min_eq_right h, List.drop_eq_nil_of_le (Nat.le_refl _), List.drop_eq_nil_of_le h]
    simp
theorem cutS_from (l : Tx) (k : Nat) : cutS (S l) (some (k : Int)) none = S (l.drop k) := by
  unfold cutS
  rw [S_len, HT.sIx_nat, HT.sIx_none]
  rcases Nat.le_total k l.length with h | h
  · rw [Nat.min_eq_left h]
    refine congrArg S ?_
    exact List.take_of_length_le (by rw [List.length_drop]; exact Nat.le_refl _)
  · rw [Nat.min_eq_right h]
    refine congrArg S ?_
    show (l.drop l.length).take _ = _
    rw [List.drop_eq_nil_of_le (Nat.le_refl _), List.drop_eq_nil_of_le h]
    simp
theorem cut_to (xs : List V) (k : Nat) : cutV xs none (some (k : Int)) = xs.take k := by
  unfold cutV
  rw [HT.sIx_nat, HT.sIx_none, List.drop_zero, Nat.sub_zero]
  rcases Nat.le_total k xs.length with h | h
  · rw [Nat.min_eq_left h]
  · rw [Nat.min_eq_right h, List.take_of_length_le (Nat.le_refl _), List.take_of_length_le h]
theorem Paired.rev {α β : Type} {F : α → β → Prop} : ∀ {l : List α} {m : List β}, Paired F l m → Paired F l.reverse m.reverse
  | _, _, .nil => .nil
  | _, _, .cons r t => by
    rw [List.reverse_cons, List.reverse_cons]
    exact Paired.app (Paired.rev t) (.cons r .nil)
theorem Paired.drop' {α β : Type} {F : α → β → Prop} : ∀ {l : List α} {m : List β} (k : Nat), Paired F l m → Paired F (l.drop k) (m.drop k)
  | _, _, 0, h => h
  | _, _, _ + 1, .nil => .nil
  | _, _, k + 1, .cons _ t => Paired.drop' k t
theorem Paired.take' {α β : Type} {F : α → β → Prop} : ∀ {l : List α} {m : List β} (k : Nat), Paired F l m → Paired F (l.take k) (m.take k)
  | _, _, 0, _ => by simp only [List.take_zero]; exact .nil
  | _, _, _ + 1, .nil => .nil
  | _, _, k + 1, .cons r t => .cons r (Paired.take' k t)
theorem kp_free {st p : Addr} {H H' : Hp} {o : HO} (k : Kp st H H') (hs : H' st = some o) (hp : H' p = none) : H p = none := by
  cases e : H p with
  | none => rfl
  | some u =>
    have := k _ _ e fun z => by rw [z, hs] at hp; cases hp
    rw [hp] at this; cases this
theorem fresh_ne {H : Hp} {p st : Addr} {o : HO} (hs : H st = some o) (hp : H p = none) : p ≠ st := Ne.symm (ne_of_none hs hp)
theorem Sm.of {n m : Nat} {ws ws' : List Tx} {ps ps' : List (Int × Int)} (h : Sm n ws ps) (hm : n + 2 ≤ m) (w : ∀ t ∈ ws', t ∈ ws ∨ (ok8 t ∧ t.length ≤ m)) (wl : ws'.length ≤ ws.length + 2)
    (p : ∀ d ∈ ps', d ∈ ps ∨ (d.1.natAbs ≤ m ∧ d.2.natAbs ≤ m)) (pl : ps'.length ≤ ps.length + 2) : Sm m ws' ps' := by
  refine ⟨fun t ht => ?_, by have := h.wl; omega, fun d hd => ?_, by have := h.pl; omega⟩
  · rcases w t ht with z | z
    · exact ⟨(h.w t z).1, by have := (h.w t z).2; omega⟩
    · exact z
  · rcases p d hd with z | z
    · have := h.p d z; omega
    · exact z
section
variable {P : Program} {w : World} {K : PySem.W.Frag} {mg : Str → Option Value} {base : Heap} {a : Ad}
theorem words_ok {H : Hp} {p rp dr : Addr} {ws : List Tx} {ps : List (Int × Int)} {r : RS} {u : Tx} {Q : VK} (h : Ans a H p (.ok (ws, ps))) (tx : TOk 900 (.ok (ws, ps))) (hR : H rp = some (.ins a.c_Rules dr r.f)) (ok : r.Ok) (hu : u.all sgn = true) (hl : u.length ≤ 800)
    (q : ∀ H', Same H H' → Q (.bl (decide (readT r u = .ok (ws, ps)))) H') : sp_Words_shows a [.ref p, .ref rp, .str (S u)] H Q E0 := shows_ok h tx hR ok hu hl q
theorem fault_ok {H : Hp} {p rp dr : Addr} {n : Int} {r : RS} {u : Tx} {Q : VK} (h : Ans a H p (.error n)) (tx : TOk 900 (.error n)) (hR : H rp = some (.ins a.c_Rules dr r.f)) (ok : r.Ok) (hu : u.all sgn = true) (hl : u.length ≤ 800)
    (q : ∀ H', Same H H' → Q (.bl (decide (readT r u = .error n))) H') : sp_Fault_shows a [.ref p, .ref rp, .str (S u)] H Q E0 := shows_ok h tx hR ok hu hl q
theorem DU.dp {hot : List Addr} {H : Hp} {v : V} {x : Told} (h : DU hot H v x) : Dp K H v (tD x) := by
  cases x with
  | error n =>
    cases h
    exact .int _
  | ok z =>
    obtain ⟨ws, ps⟩ := z
    obtain ⟨t, l1, l2, rfl, h2, h3, h4, ys, h5, h6⟩ := h
    exact .tup (.inl (.inl h2)) (.cons (dp_ws (.inl (.inl h3.2))) (.cons (dp_ps (.inl (.inl h5)) h6) .nil))
/-- what stays while the hand-made answers are made -/
structure BI (K : PySem.W.Frag) (a : Ad) (ns : List Int) (hot : List Addr) (st rp dr : Addr) (r : RS) (v : V) (x : Told) (H0 H : Hp) : Prop where
  stt : Stt K ns H st
  mem : st ∈ hot
  hl : HotL hot H
  kp : Kp st H0 H
  ru : H rp = some (.ins a.c_Rules dr r.f)
  du : DU hot H v x
theorem HotL.no {hot : List Addr} {H : Hp} {p : Addr} {o : HO} (h : HotL hot H) (e : H p = some o) (no : ∀ xs, o ≠ .lst xs) : p ∉ hot := fun z => by
  obtain ⟨xs, e2⟩ := h p z
  rw [e] at e2
  exact no xs (Option.some.inj e2)
theorem HotL.new {hot : List Addr} {H : Hp} {p : Addr} (h : HotL hot H) (e : H p = none) : p ∉ hot := fun z => by
  obtain ⟨xs, e2⟩ := h p z
  rw [e] at e2
  cases e2
theorem HotL.same {hot : List Addr} {H H' : Hp} (h : HotL hot H) (s : Same H H') : HotL hot H' := fun b hb => by
  obtain ⟨xs, e⟩ := h b hb
  exact ⟨xs, s _ _ e⟩
theorem BI.same {ns : List Int} {hot : List Addr} {st rp dr : Addr} {r : RS} {v : V} {x : Told} {H0 H H' : Hp} (b : BI K a ns hot st rp dr r v x H0 H) (s : Same H H') : BI K a ns hot st rp dr r v x H0 H' :=
  ⟨b.stt.same s, b.mem, b.hl.same s, b.kp.trans (s.kp st), s _ _ b.ru, b.du.kp s.kq b.hl⟩
/-- a number is drawn -/
theorem BI.draw {ns : List Int} {hot : List Addr} {st rp dr : Addr} {r : RS} {v : V} {x : Told} {H0 H H' : Hp} (b : BI K a ns hot st rp dr r v x H0 H) (k : Kp st H H') (t : Stt K ns H' st) : BI K a ns hot st rp dr r v x H0 H' := by
  refine ⟨t, b.mem, fun c hc => ?_, b.kp.trans k, k _ _ b.ru (fun z => b.hl.no b.ru (fun _ z => by cases z) (z ▸ b.mem)), b.du.kp (k.kq b.mem) b.hl⟩
  obtain ⟨xs, e⟩ := b.hl c hc
  by_cases h : c = st
  · rw [h]; exact t.has
  · exact ⟨xs, k _ _ e h⟩
/-- a hot list gets another item -/
theorem BI.put {ns : List Int} {hot : List Addr} {st rp dr : Addr} {r : RS} {v : V} {x : Told} {H0 H : Hp} (b : BI K a ns hot st rp dr r v x H0 H) {lo : Addr} (hlo : lo ∈ hot) (ne : st ≠ lo) (h0 : H0 lo = none) (zs : List V) : BI K a ns hot st rp dr r v x H0 (upd H lo (.lst zs)) := by
  obtain ⟨xs, e⟩ := b.hl lo hlo
  have k : Kp lo H (upd H lo (.lst zs)) := kp_upd
  refine ⟨b.stt.kp k e (fun _ _ z => by cases z) ne, b.mem, fun c hc => ?_, b.kp.mut h0, k _ _ b.ru (fun z => b.hl.no b.ru (fun _ z => by cases z) (z ▸ hlo)), b.du.kp (k.kq hlo) b.hl⟩
  by_cases h : c = lo
  · rw [h]; exact ⟨_, upd_same⟩
  · obtain ⟨ys, e2⟩ := b.hl c hc
    exact ⟨ys, k _ _ e2 h⟩
/-- a new list becomes hot -/
theorem BI.hot {ns : List Int} {hot : List Addr} {st rp dr : Addr} {r : RS} {v : V} {x : Told} {H0 H H' : Hp} (b : BI K a ns hot st rp dr r v x H0 H) (s : Same H H') {lo : Addr} (h : H lo = none) {xs : List V} (e : H' lo = some (.lst xs)) : BI K a ns (lo :: hot) st rp dr r v x H0 H' := by
  refine ⟨b.stt.same s, List.mem_cons_of_mem _ b.mem, fun c hc => ?_, b.kp.trans (s.kp st), s _ _ b.ru, b.du.hot s h⟩
  rcases List.mem_cons.mp hc with z | z
  · rw [z]; exact ⟨_, e⟩
  · exact b.hl.same s c z
theorem put_lot {ns : List Int} {st rp dr lo wl pl q : Addr} {r : RS} {v : V} {x : Told} {H0 G : Hp} {os : List V} {LL : List (List Tx × List (Int × Int))} {d : List Tx × List (Int × Int)} {ws : List Tx} {ps : List (Int × Int)}
    (b : BI K a ns [lo, st] st rp dr r v x H0 G) (nsl : st ≠ lo) (lo0 : H0 lo = none) (l : Paired (Lot [lo, st] G) os LL) (w : WL [lo, st] G wl ws) (p : PL [lo, st] G pl ps) (L : Lot [lo, st] G (.ref q) d) :
    BI K a ns [lo, st] st rp dr r v x H0 (upd G lo (.lst (os ++ [.ref q]))) ∧ WL [lo, st] (upd G lo (.lst (os ++ [.ref q]))) wl ws ∧ PL [lo, st] (upd G lo (.lst (os ++ [.ref q]))) pl ps ∧
      Paired (Lot [lo, st] (upd G lo (.lst (os ++ [.ref q])))) (os ++ [.ref q]) (LL ++ [d]) := by
  have kq : Kq [lo, st] G (upd G lo (.lst (os ++ [V.ref q]))) := Kp.kq kp_upd (.head _)
  exact ⟨b.put (.head _) nsl lo0 _, w.kp kq, p.kp kq b.hl, Paired.app (Paired.mapP l fun _ _ z => z.kp kq b.hl) (.cons (L.kp kq b.hl) .nil)⟩
/-- the words and places that the hand-made answers begin with -/
def wpOf : Told → List Tx × List (Int × Int)
  | .error _ => ([[97]], [(0, 1)])
  | .ok z => z
def sp_law_by_hand_right (K : PySem.W.Frag) : Sp := fun vs H Q _ => ∃ (ns : List Int) (st tp : Addr) (r : RS) (t : Tx), vs = [.ref st, .ref tp, .str (S t)] ∧ Stt K ns H st ∧ H tp = some (.tup (RS.tup r)) ∧ r.Ok ∧ t.all sgn = true ∧ t.length ≤ 400 ∧
  ∀ H', Stt K ns H' st → Kp st H H' → Q (.bl true) H'
theorem ok__law_by_hand_right (T : Txt K mg a) : FnG P w K mg base 7 a.f__law_by_hand_right a.d__law_by_hand_right P__law_by_hand_right (sp_law_by_hand_right K) := by
  refine fnG_of T.F__law_by_hand_right sc__law_by_hand_right (fun vs H Q E h => ?_) (fun cdv A outer s H vs Q E hfr hr h => ?_)
  · obtain ⟨ns, st, tp, r, t, rfl, _⟩ := h
    rfl
  · obtain ⟨ns, st, tp, r, t, rfl, hst, ht, ok, hs, hl, q⟩ := h
    have G__law_read := ok__law_read (P := P) (w := w) (base := base) T
    have B__law_read := bi__law_read T
    have G__law_rules := ok__law_rules (P := P) (w := w) (base := base) T
    have B__law_rules := bi__law_rules T
    have G__law_next := ok__law_next (P := P) (w := w) (base := base) T
    have B__law_next := bi__law_next T
    have G_Words_init := ok_Words_init (P := P) (w := w) (base := base) T
    have B_Words_init := bi_Words_init T
    have G_Words_shows := ok_Words_shows (P := P) (w := w) (base := base) T
    have B_Words_shows := bi_Words_shows T
    have G_Fault_init := ok_Fault_init (P := P) (w := w) (base := base) T
    have B_Fault_init := bi_Fault_init T
    have G_Fault_shows := ok_Fault_shows (P := P) (w := w) (base := base) T
    have B_Fault_shows := bi_Fault_shows T
    refine ⟨_,
(pss_cons (ps_par (i := 3) (j := 4) (by rfl) sc__law_by_hand_right.nd rfl rfl (by decide) rfl rfl (pa_cons (pe_call G__law_rules (hr.mono (by decide)) rfl T.f__law_rules.g T.f__law_rules.k B__law_rules .nil pass0 (pa_cons (pv 1) pa_nil)) (pa_cons (pe_call G__law_read (hr.mono (by decide)) rfl T.f__law_read.g T.f__law_read.k B__law_read .nil pass0 (pa_cons (pv 1) (pa_cons (pv 2) pa_nil))) pa_nil)) (by rfl))
    (pss_cons (ps_asg (pe_ifExp (pt_val (pe_callB (call_isi) (by rfl) T.b_isinstance (by decide +kernel) (pa_cons (pv 4) (pa_cons (pe_bltn (v := .ty "tuple") (u := .type "tuple") rfl T.b_tuple (by decide +kernel) rfl) pa_nil)))) (pv 4) (pe_tup (pa_cons (pe_lst (pa_cons pe_str pa_nil)) (pa_cons (pe_lst (pa_cons (pe_tup (pa_cons pe_int (pa_cons pe_int pa_nil))) pa_nil)) pa_nil)))) (pg_tup rfl (pgs_cons (pg_name (i := 5) sc__law_by_hand_right.nd rfl (Or.inl rfl)) (pgs_cons (pg_name (i := 6) sc__law_by_hand_right.nd rfl (Or.inl rfl)) pgs_nil))))
    (pss_cons (ps_set (i := 7) sc__law_by_hand_right.nd rfl (by first | exact Or.inl rfl | exact Or.inr rfl) (pe_lst (pa_cons (pe_tup (pa_cons (pv 5) (pa_cons (pv 6) pa_nil))) (pa_cons (pe_tup (pa_cons (pv 5) (pa_cons (pe_revL (pv 6)) pa_nil))) (pa_cons (pe_tup (pa_cons (pe_slice sl_list (pv 5) (po_some pe_int) po_none) (pa_cons (pe_slice sl_list (pv 6) (po_some pe_int) po_none) pa_nil))) (pa_cons (pe_tup (pa_cons (pe_op op_cat (pv 5) (pe_lst (pa_cons pe_str pa_nil))) (pa_cons (pe_op op_cat (pv 6) (pe_lst (pa_cons (pe_tup (pa_cons pe_int (pa_cons pe_int pa_nil))) pa_nil))) pa_nil))) pa_nil))))))
    (pss_cons (ps_expr (pe_bm PySem.F.plainAttrs_list PySem.F.slot_list_append PySem.F.type_list_append mt_append (pv 7) (pa_cons (pe_tup (pa_cons (pe_revL (pv 5)) (pa_cons (pv 6) pa_nil))) pa_nil)))
    (pss_cons (ps_if (pt_cmpR (op_neD hr.units) (pv 6) (pe_lst pa_nil) (nomark _)) (pss_cons (ps_set (i := 8) sc__law_by_hand_right.nd rfl (by first | exact Or.inl rfl | exact Or.inr rfl) (pe_call G__law_next (hr.mono (by decide)) rfl T.f__law_next.g T.f__law_next.k B__law_next .nil pass0 (pa_cons (pv 0) (pa_cons (pe_callB call_len_seq (by rfl) T.b_len PySem.boot_len (pa_cons (pv 6) pa_nil)) pa_nil))))
    (pss_cons (ps_asg (pe_ix ix_list (pv 6) (pv 8) (fun _ _ => rfl)) (pg_tup rfl (pgs_cons (pg_name (i := 9) sc__law_by_hand_right.nd rfl (Or.inl rfl)) (pgs_cons (pg_name (i := 10) sc__law_by_hand_right.nd rfl (Or.inl rfl)) pgs_nil))))
    (pss_cons (ps_for PassesOwn.never rfl (pi_tup (pe_tup (pa_cons (pe_tup (pa_cons (pv 9) (pa_cons (pe_op op_add (pv 10) pe_int) pa_nil))) (pa_cons (pe_tup (pa_cons (pv 9) (pa_cons (pe_op op_sub (pv 10) pe_int) pa_nil))) (pa_cons (pe_tup (pa_cons (pe_op op_add (pv 9) pe_int) (pa_cons (pv 10) pa_nil))) (pa_cons (pe_tup (pa_cons (pe_op op_sub (pv 9) pe_int) (pa_cons (pv 10) pa_nil))) (pa_cons (pe_tup (pa_cons (pv 10) (pa_cons (pv 9) pa_nil))) pa_nil))))))) (pg_name (i := 11) sc__law_by_hand_right.nd rfl (Or.inl rfl))
    (pss_one (ps_expr (pe_bm PySem.F.plainAttrs_list PySem.F.slot_list_append PySem.F.type_list_append mt_append (pv 7) (pa_cons (pe_tup (pa_cons (pv 5) (pa_cons (pe_op op_cat (pe_op op_cat (pe_slice sl_list (pv 6) po_none (po_some (pv 8))) (pe_lst (pa_cons (pv 11) pa_nil))) (pe_slice sl_list (pv 6) (po_some (pe_op op_add (pv 8) pe_int)) po_none)) pa_nil))) pa_nil)))))
    (pss_cons (ps_expr (pe_bm PySem.F.plainAttrs_list PySem.F.slot_list_append PySem.F.type_list_append mt_append (pv 7) (pa_cons (pe_tup (pa_cons (pe_op op_cat (pe_op op_cat (pe_slice sl_list (pv 5) po_none (po_some (pv 8))) (pe_lst (pa_cons (pe_op op_add_str (pe_ix ix_list (pv 5) (pv 8) (fun _ _ => rfl)) pe_str) pa_nil))) (pe_slice sl_list (pv 5) (po_some (pe_op op_add (pv 8) pe_int)) po_none)) (pa_cons (pv 6) pa_nil))) pa_nil)))
    (pss_one (ps_expr (pe_bm PySem.F.plainAttrs_list PySem.F.slot_list_append PySem.F.type_list_append mt_append (pv 7) (pa_cons (pe_tup (pa_cons (pe_op op_cat (pe_op op_cat (pe_slice sl_list (pv 5) po_none (po_some (pv 8))) (pe_lst (pa_cons (pe_slice sl_str (pe_ix ix_list (pv 5) (pv 8) (fun _ _ => rfl)) (po_some pe_int) po_none) pa_nil))) (pe_slice sl_list (pv 5) (po_some (pe_op op_add (pv 8) pe_int)) po_none)) (pa_cons (pv 6) pa_nil))) pa_nil)))))))) pss_nil)
    (pss_cons (ps_for PassesOwn.never rfl (pi_list (pv 7)) (pg_tup rfl (pgs_cons (pg_name (i := 12) sc__law_by_hand_right.nd rfl (Or.inl rfl)) (pgs_cons (pg_name (i := 13) sc__law_by_hand_right.nd rfl (Or.inl rfl)) pgs_nil)))
    (pss_cons (ps_set (i := 14) sc__law_by_hand_right.nd rfl (by first | exact Or.inl rfl | exact Or.inr rfl) (pe_callTy call_list_of (by rfl) T.b_list (by decide +kernel) (pa_cons (pv 12) pa_nil)))
    (pss_cons (ps_set (i := 15) sc__law_by_hand_right.nd rfl (by first | exact Or.inl rfl | exact Or.inr rfl) (pe_make T.c_Words.mc G_Words_init (hr.mono (by decide)) rfl T.c_Words.g B_Words_init .nil pass0 (pa_cons (pv 14) (pa_cons (pv 13) pa_nil))))
    (pss_cons (ps_expr (pe_bm PySem.F.plainAttrs_list PySem.F.slot_list_append PySem.F.type_list_append mt_append (pv 14) (pa_cons pe_str pa_nil)))
    (pss_cons (ps_if (pt_cmpR (op_neD hr.units) (pe_fld (pv 15) rfl) (pv 12) (nomark _)) (pss_one (ps_ret pe_bl)) pss_nil)
    (pss_one (ps_if (pt_cmpR op_ne (pe_callTy (call_str_data hfr hr.units) (by rfl) T.b_str (by decide +kernel) (pa_cons (pe_lst (pa_cons (pe_meth (pv 15) T.c_Words.cl T.m_Words_shows G_Words_shows (hr.mono (by decide)) B_Words_shows .nil pass0 (pa_cons (pv 3) (pa_cons (pv 2) pa_nil))) pa_nil)) pa_nil)) (pe_callTy (call_str_data hfr hr.units) (by rfl) T.b_str (by decide +kernel) (pa_cons (pe_lst (pa_cons (pe_cmpR (op_eqD hr.units) (pe_tup (pa_cons (pv 12) (pa_cons (pv 13) pa_nil))) (pv 4) (nomark _)) pa_nil)) pa_nil)) (nomark _)) (pss_one (ps_ret pe_bl)) pss_nil)))))))
    (pss_cons (ps_set (i := 16) sc__law_by_hand_right.nd rfl (by first | exact Or.inl rfl | exact Or.inr rfl) (pe_ifExp (pt_not (pt_val (pe_callB (call_isi) (by rfl) T.b_isinstance (by decide +kernel) (pa_cons (pv 4) (pa_cons (pe_bltn (v := .ty "tuple") (u := .type "tuple") rfl T.b_tuple (by decide +kernel) rfl) pa_nil))))) (pv 4) pe_int))
    (pss_cons (ps_for PassesOwn.never rfl (pi_tup (pe_tup (pa_cons (pv 16) (pa_cons (pe_op op_add (pv 16) pe_int) (pa_cons (pe_op op_sub (pv 16) pe_int) (pa_cons (pe_callB call_len_str (by rfl) T.b_len PySem.boot_len (pa_cons (pv 2) pa_nil)) (pa_cons (pe_un un_neg pe_int) pa_nil))))))) (pg_name (i := 17) sc__law_by_hand_right.nd rfl (Or.inl rfl))
    (pss_one (ps_if (pt_cmpR op_ne (pe_callTy (call_str_data hfr hr.units) (by rfl) T.b_str (by decide +kernel) (pa_cons (pe_lst (pa_cons (pe_meth (pe_make T.c_Fault.mc G_Fault_init (hr.mono (by decide)) rfl T.c_Fault.g B_Fault_init .nil pass0 (pa_cons (pv 17) pa_nil)) T.c_Fault.cl T.m_Fault_shows G_Fault_shows (hr.mono (by decide)) B_Fault_shows .nil pass0 (pa_cons (pv 3) (pa_cons (pv 2) pa_nil))) pa_nil)) pa_nil)) (pe_callTy (call_str_data hfr hr.units) (by rfl) T.b_str (by decide +kernel) (pa_cons (pe_lst (pa_cons (pe_cmpR (op_eqD hr.units) (pv 17) (pv 4) (nomark _)) pa_nil)) pa_nil)) (nomark _)) (pss_one (ps_ret pe_bl)) pss_nil)))
    (pss_one (ps_ret pe_bl))))))))))
      , ?_⟩
    rw [show start N__law_by_hand_right [V.ref st, V.ref tp, V.str (S t)] = [some (.ref st), some (.ref tp), some (.str (S t)), none, none, none, none, none, none, none, none, none, none, none, none, none, none, none] from rfl]
    refine tseq_split (fun σ' H' => ∃ rp dr v, σ' = [some (.ref st), some (.ref tp), some (.str (S t)), some (.ref rp), some v, none, none, none, none, none, none, none, none, none, none, none, none, none] ∧ BI K a ns [st] st rp dr r v (readT r t) H H') (fun N hN => ?_) ?_
    · walk_at "rd"
      refine ⟨tp, r, rfl, ht, ok, fun rp dr H1 hrp hR s1 => ?_⟩
      refine ⟨tp, r, t, rfl, s1 _ _ ht, ok, by omega, fun v H2 s2 res => ?_⟩
      obtain ⟨xs, hs1⟩ := (hst.same s1).has
      exact hN _ _ ⟨rp, dr, v, rfl, (hst.same s1).same s2, List.mem_singleton.mpr rfl, fun b hb => ⟨xs, by rw [List.mem_singleton.mp hb]; exact s2 _ _ hs1⟩, (s1.trans s2).kp st, s2 _ _ hR, DU.of res hs1⟩
    rintro σ1 H1 ⟨rp, dr, v, rfl, b1⟩
    have rT := readT_ok ok hs hl
    generalize hE : readT r t = E at rT b1
    refine tseq_split (fun σ' H' => ∃ wl pl, σ' = [some (.ref st), some (.ref tp), some (.str (S t)), some (.ref rp), some v, some (.ref wl), some (.ref pl), none, none, none, none, none, none, none, none, none, none, none] ∧ BI K a ns [st] st rp dr r v E H H' ∧
      WL [st] H' wl (wpOf E).1 ∧ PL [st] H' pl (wpOf E).2) (fun N hN => ?_) ?_
    · walk_at "rd"
      have la : Str.ofString "a" = S [97] := by decide +kernel
      have one : ∃ t, TyX K H1 v t ∧ PySem.W.kitOne K t (.type "tuple") = some (isOk E) := by
        have du := b1.du
        cases E with
        | error n => cases du; exact ⟨_, .base (.int _), kit_ty (b := "tuple") (r := false) (by decide +kernel)⟩
        | ok z =>
          obtain ⟨t0, l1, l2, rfl, h2, _⟩ := du
          exact ⟨_, .base (.tup h2), kit_ty (b := "tuple") (r := true) (by decide +kernel)⟩
      obtain ⟨ty, o1, o2⟩ := one
      refine ⟨ty, _, .ty _, o1, _, o2, ?_⟩
      have du := b1.du
      cases E with
      | ok z =>
        obtain ⟨t0, l1, l2, rfl, h2, h3, h4⟩ := du
        refine ite2 (fun _ => ?_) (fun c => absurd rfl c)
        exact ⟨t0, rfl, _, .inl (.inl h2), rfl, _, _, rfl, _, _, rfl, rfl, hN _ _ ⟨l1, l2, rfl, b1, h3, h4⟩⟩
      | error n =>
        refine ite2 (fun c => by cases c) (fun _ => ?_)
        rw [la]
        obtain ⟨xs, hs1⟩ := b1.stt.has
        walk_at "al"
        rename_i p hp H2 S2 e2
        walk_at "al"
        rename_i p3 hp3 H3 S3 e3
        walk_at "al"
        rename_i p4 hp4 H4 S4 e4
        walk_at "al"
        rename_i p5 hp5 H5 S5 e5
        refine ⟨_, .inl (.inl e5), rfl, _, _, rfl, _, _, rfl, rfl, ?_⟩
        have s5 := ((S2.trans S3).trans S4).trans S5
        refine hN _ _ ⟨p, p4, rfl, b1.same s5, ⟨b1.hl.new hp, S5 _ _ (S4 _ _ (S3 _ _ e2))⟩, (b1.hl.same (S2.trans S3)).new hp4, _, S5 _ _ e4, .cons ⟨p3, rfl, S5 _ _ (S4 _ _ e3)⟩ .nil⟩
    rintro σ2 H2 ⟨wl, pl, rfl, b2, w2, p2⟩
    have sm : Sm 401 (wpOf E).1 (wpOf E).2 := by
      cases E with
      | error n => exact ⟨fun t ht => by cases List.mem_singleton.mp ht; exact ⟨fun c hc => by cases List.mem_singleton.mp hc; decide, by decide⟩, Nat.le_of_ble_eq_true rfl, fun d hd => by cases List.mem_singleton.mp hd; decide, Nat.le_of_ble_eq_true rfl⟩
      | ok z =>
        obtain ⟨ws, ps⟩ := z
        have hb := readAll_bd r t default
        have e := readT_all ok t default
        rw [hE] at e
        cases e2 : readAll r t default with
        | error m => rw [e2] at e; cases e
        | ok ds =>
          rw [e2] at e hb
          cases e
          have h8 := ok8_of hs
          refine ⟨fun w hw => ?_, by show (ds.map _).length ≤ _; rw [List.length_map]; have := hb.1; omega, fun d hd => ?_, by show (ds.map _).length ≤ _; rw [List.length_map]; have := hb.1; omega⟩
          · obtain ⟨d1, hd1, rfl⟩ := List.mem_map.mp hw
            have := hb.2 d1 hd1
            exact ⟨fun c hc => h8 c (this.1 c hc), by have := this.2.1; omega⟩
          · obtain ⟨d1, hd1, rfl⟩ := List.mem_map.mp hd
            have := hb.2 d1 hd1
            have h1 := this.2.2.1
            have h2 := this.2.2.2
            dsimp only
            omega
    have hwl : (wpOf E).1.length = (wpOf E).2.length := by
      cases E with
      | error n => rfl
      | ok z =>
        have e := readT_all ok t default
        rw [hE] at e
        cases e2 : readAll r t default with
        | error m => rw [e2] at e; cases e
        | ok ds =>
          rw [e2] at e
          cases e
          show (ds.map _).length = (ds.map _).length
          rw [List.length_map, List.length_map]
    generalize (wpOf E).1 = ws at *
    generalize (wpOf E).2 = ps at *
    refine tseq_split (fun σ' H' => ∃ lo os LL, σ' = [some (.ref st), some (.ref tp), some (.str (S t)), some (.ref rp), some v, some (.ref wl), some (.ref pl), some (.ref lo), none, none, none, none, none, none, none, none, none, none] ∧ BI K a ns [lo, st] st rp dr r v E H H' ∧
      WL [lo, st] H' wl ws ∧ PL [lo, st] H' pl ps ∧ H lo = none ∧ st ≠ lo ∧ H' lo = some (.lst os) ∧ Paired (Lot [lo, st] H') os LL ∧ LL.length = 4) (fun N hN => ?_) ?_
    · walk_at "rd"
      have la : Str.ofString "a" = S [97] := by decide +kernel
      rw [la]
      obtain ⟨xs, hs2⟩ := b2.stt.has
      obtain ⟨np, ys, q1, q2⟩ := id p2
      have wh := w2.2
      walk_at "al"
      rename_i p3 hp3 H3 S3 e3
      refine ⟨ys, .inl (.inl (S3 _ _ q1)), ?_⟩
      walk_at "al"
      rename_i p4 hp4 H4 S4 e4
      walk_at "al"
      rename_i p5 hp5 H5 S5 e5
      have s25 := (S3.trans S4).trans S5
      refine ⟨_, .inl (.inl (s25 _ _ wh)), ?_⟩
      walk_at "al"
      rename_i p6 hp6 H6 S6 e6
      have s26 := s25.trans S6
      refine ⟨ys, .inl (.inl (s26 _ _ q1)), ?_⟩
      walk_at "al"
      rename_i p7 hp7 H7 S7 e7
      walk_at "al"
      rename_i p8 hp8 H8 S8 e8
      walk_at "al"
      rename_i p9 hp9 H9 S9 e9
      have s29 := ((s26.trans S7).trans S8).trans S9
      refine ⟨_, s29 _ _ wh, ?_, ?_⟩
      · rw [List.length_map]
        exact Nat.le_trans (Nat.succ_le_succ sm.wl) (by decide)
      walk_at "al"
      rename_i p10 hp10 H10 S10 e10
      walk_at "al"
      rename_i p11 hp11 H11 S11 e11
      walk_at "al"
      rename_i p12 hp12 H12 S12 e12
      have s212 := ((s29.trans S10).trans S11).trans S12
      refine ⟨ys, s212 _ _ q1, ?_, ?_⟩
      · rw [q2.length]
        exact Nat.le_trans (Nat.succ_le_succ sm.pl) (by decide)
      walk_at "al"
      rename_i p13 hp13 H13 S13 e13
      walk_at "al"
      rename_i p14 hp14 H14 S14 e14
      walk_at "al"
      rename_i p15 hp15 H15 S15 e15
      have z13 := S14
      have z12 := S13.trans z13
      have z11 := S12.trans z12
      have z10 := S11.trans z11
      have z9 := S10.trans z10
      have z8 := S9.trans z9
      have z7 := S8.trans z8
      have z6 := S7.trans z7
      have z5 := S6.trans z6
      have z4 := S5.trans z5
      have z3 := S4.trans z4
      have z2 := S3.trans z3
      have s213 := s212.trans S13
      have P2 : Paired (Pls H14) ys ps := Paired.mapP q2 fun _ _ z => z.mono fun b xs => z2 b _
      have sz : ∀ {ws' : List Tx} {ps' : List (Int × Int)}, (∀ t ∈ ws', t ∈ ws ∨ (ok8 t ∧ t.length ≤ 500)) → ws'.length ≤ ws.length + 2 → (∀ d ∈ ps', d ∈ ps ∨ (d.1.natAbs ≤ 500 ∧ d.2.natAbs ≤ 500)) → ps'.length ≤ ps.length + 2 → Sm 500 ws' ps' := fun h1 h2 h3 h4 => sm.of (by decide) h1 h2 h3 h4
      have W := w2.kp (z2.kq (hot := [st]))
      have PP := p2.kp z2.kq b2.hl
      have nw : ∀ {H' : Hp} {p : Addr}, Same H2 H' → H' p = none → p ∉ [st] := fun s h => (b2.hl.same s).new h
      have L1 : Lot [st] H14 (.ref p3) (ws, ps) := ⟨p3, wl, pl, rfl, z3 _ _ e3, W, PP, sz (fun t ht => .inl ht) (Nat.le_add_right _ 2) (fun d hd => .inl hd) (Nat.le_add_right _ 2)⟩
      have L2 : Lot [st] H14 (.ref p5) (ws, ps.reverse) := ⟨p5, wl, p4, rfl, z5 _ _ e5, W, ⟨nw S3 hp4, _, z4 _ _ e4, Paired.rev P2⟩, sz (fun t ht => .inl ht) (Nat.le_add_right _ 2) (fun d hd => .inl (List.mem_reverse.mp hd)) (by rw [List.length_reverse]; omega)⟩
      rw [show ((1 : Int)) = ((1 : Nat) : Int) from rfl, cut_from] at e6 e7
      have L3 : Lot [st] H14 (.ref p8) (ws.drop 1, ps.drop 1) := ⟨p8, p6, p7, rfl, z8 _ _ e8, ⟨nw s25 hp6, by rw [List.map_drop]; exact z6 _ _ e6⟩, ⟨nw s26 hp7, _, z7 _ _ e7, Paired.drop' 1 P2⟩,
        sz (fun t ht => .inl (List.mem_of_mem_drop ht)) (by rw [List.length_drop]; omega) (fun d hd => .inl (List.mem_of_mem_drop hd)) (by rw [List.length_drop]; omega)⟩
      have L4 : Lot [st] H14 (.ref p14) (ws ++ [[97]], ps ++ [(0, 1)]) := ⟨p14, p10, p13, rfl, e14, ⟨nw s29 hp10, by rw [List.map_append]; exact z10 _ _ e10⟩, ⟨nw s212 hp13, _, z13 _ _ e13, Paired.app P2 (.cons ⟨p11, rfl, z11 _ _ e11⟩ .nil)⟩,
        sz (fun t ht => (List.mem_append.mp ht).imp id fun h => by cases List.mem_singleton.mp h; exact ⟨fun c hc => by cases List.mem_singleton.mp hc; decide, by decide⟩) (by rw [List.length_append]; simp)
          (fun d hd => (List.mem_append.mp hd).imp id fun h => by cases List.mem_singleton.mp h; decide) (by rw [List.length_append]; simp)⟩
      refine hN _ _ ⟨p15, _, _, rfl, (b2.same z2).hot S15 hp15 e15, W.hot S15 hp15, PP.hot S15 hp15, kp_free b2.kp hs2 (((s213.trans S14).free hp15)), ne_of_none (z2 _ _ hs2) hp15, e15,
        .cons (L1.hot S15 hp15) (.cons (L2.hot S15 hp15) (.cons (L3.hot S15 hp15) (.cons (L4.hot S15 hp15) .nil))), rfl⟩
    rintro σ3 H3 ⟨lo, os, LL, rfl, b3, w3, p3, lo0, nsl, lo3, l3, ll3⟩
    refine tseq_split (fun σ' H' => ∃ os LL, σ' = [some (.ref st), some (.ref tp), some (.str (S t)), some (.ref rp), some v, some (.ref wl), some (.ref pl), some (.ref lo), none, none, none, none, none, none, none, none, none, none] ∧ BI K a ns [lo, st] st rp dr r v E H H' ∧
      WL [lo, st] H' wl ws ∧ PL [lo, st] H' pl ps ∧ H' lo = some (.lst os) ∧ Paired (Lot [lo, st] H') os LL ∧ LL.length = 5) (fun N hN => ?_) ?_
    · walk_at "rd"
      obtain ⟨xs, hs3⟩ := b3.stt.has
      refine ⟨.inl ⟨rfl, _, .inl (.inl lo3)⟩, _, .inl (.inl w3.2), ?_⟩
      walk_at "al"
      rename_i q1 hq1 G1 S1 e1
      walk_at "al"
      rename_i q2 hq2 G2 S2 e2
      have s2 := S1.trans S2
      refine ⟨_, s2 _ _ lo3, ?_, ?_⟩
      · rw [l3.length, ll3]
        decide
      have kq : Kq [lo, st] G2 (upd G2 lo (.lst (os ++ [V.ref q2]))) := Kp.kq kp_upd (.head _)
      have bG := b3.same s2
      have W := w3.kp s2.kq
      have PP := p3.kp s2.kq b3.hl
      have L : Lot [lo, st] G2 (.ref q2) (ws.reverse, ps) := ⟨q2, q1, pl, rfl, e2, ⟨b3.hl.new hq1, by rw [List.map_reverse]; exact S2 _ _ e1⟩, PP, sm.of (by decide) (fun t ht => .inl (List.mem_reverse.mp ht)) (by rw [List.length_reverse]; omega) (fun d hd => .inl hd) (Nat.le_add_right _ 2)⟩
      refine hN _ _ ⟨_, LL ++ [(ws.reverse, ps)], rfl, bG.put (.head _) nsl lo0 _, W.kp kq, PP.kp kq bG.hl, upd_same, ?_, by rw [List.length_append, ll3]; rfl⟩
      exact Paired.app (Paired.mapP l3 fun _ _ z => (z.kp s2.kq b3.hl).kp kq bG.hl) (.cons (L.kp kq bG.hl) .nil)
    rintro σ4 H4 ⟨os, LL, rfl, b4, w4, p4, lo4, l4, ll4⟩
    refine tseq_split (fun σ' H' => ∃ v8 v9 v10 v11 os LL, σ' = [some (.ref st), some (.ref tp), some (.str (S t)), some (.ref rp), some v, some (.ref wl), some (.ref pl), some (.ref lo), v8, v9, v10, v11, none, none, none, none, none, none] ∧ BI K a ns [lo, st] st rp dr r v E H H' ∧
      H' lo = some (.lst os) ∧ Paired (Lot [lo, st] H') os LL ∧ LL.length ≤ 12) (fun N hN => ?_) ?_
    · walk_at "rd"
      obtain ⟨xs, hs4⟩ := b4.stt.has
      walk_at "al"
      rename_i q1 hq1 G1 S1 e1
      have tps : tame (psD ps) = true := psD_tame fun d hd => by have := sm.p d hd; simp only [okI]; omega
      obtain ⟨np, ys, g1, g2⟩ := id p4
      have PP1 := p4.kp S1.kq b4.hl
      refine ⟨psD ps, dp_ps (.inl (.inl (S1 _ _ g1))) (Paired.mapP g2 fun _ _ z => z.mono fun b xs => S1 b _), .list [], .lst (.inl (.inl e1)) .nil, shaped_of tps (Nat.le_trans (psD_depth _) (by decide)), by decide, ?_⟩
      rw [show PyData.eqv (psD ps) (.list []) = decide (ps = []) from eqv_dec tps rfl (psD_inj (y := []))]
      have bG1 := b4.same S1
      have WG1 := w4.kp (S1.kq (hot := [lo, st]))
      have loG1 := S1 _ _ lo4
      have lG1 := Paired.mapP l4 fun _ _ z => Lot.kp z (S1.kq (hot := [lo, st])) b4.hl
      refine ite2 (fun c => ?_) (fun _ => hN _ _ ⟨_, _, _, _, _, _, rfl, bG1, loG1, lG1, by omega⟩)
      have pne : ps ≠ [] := fun z => by rw [z] at c; simp at c
      have pl0 : 0 < ps.length := List.length_pos_iff.mpr pne
      refine ⟨ys, .inl (.inl (.inl (S1 _ _ g1))), ?_⟩
      rw [g2.length]
      refine ⟨ns, st, _, rfl, bG1.stt, by omega, fun z G2 z1 z2 t2 k2 => ?_⟩
      have bG2 := bG1.draw k2 t2
      have kq2 : Kq [lo, st] G1 G2 := k2.kq bG1.mem
      have WG2 := WG1.kp kq2
      have PG2 := PP1.kp kq2 bG1.hl
      have loG2 := k2 _ _ loG1 (Ne.symm nsl)
      have lG2 := Paired.mapP lG1 fun _ _ z => Lot.kp z kq2 bG1.hl
      obtain ⟨j, hj, rfl⟩ : ∃ j : Nat, j < ps.length ∧ z = (j : Int) := ⟨z.toNat, by omega, by omega⟩
      obtain ⟨np2, ys2, h1, h2⟩ := id PG2
      have hjy : j < ys2.length := by rw [h2.length]; exact hj
      have hx := List.getElem?_eq_getElem hjy
      have hd := List.getElem?_eq_getElem hj
      obtain ⟨qt, eq1, eq2⟩ := Paired.at' h2 hd hx
      refine ⟨ys2, _, rfl, .inl (.inl h1), _, atI_nat hx, qt, eq1, _, .inl (.inl eq2), rfl, _, _, rfl, _, _, rfl, rfl, ?_⟩
      have pj := sm.p _ (List.getElem_mem hj)
      generalize ps[j] = pj0 at *
      obtain ⟨be, en⟩ := pj0
      dsimp only at pj eq2 ⊢
      refine tfor_all (ι := Addr × Hp × List V) (C := fun x => x.2.1 x.1 = some (.tup x.2.2) ∧ Same G2 x.2.1 ∧ Paired (Pls x.2.1) x.2.2 [(be, en + 1), (be, en - 1), (be + 1, en), (be - 1, en), (en, be)]) (J := fun x => Itt K x.1) (H1 := fun x => x.2.1) (fun R hR => ?_) fun x hx => ?_
      · walk_at "rd"
        walk_at "al"
        rename_i u1 hu1 F1 T1 d1
        walk_at "al"
        rename_i u2 hu2 F2 T2 d2
        walk_at "al"
        rename_i u3 hu3 F3 T3 d3
        walk_at "al"
        rename_i u4 hu4 F4 T4 d4
        walk_at "al"
        rename_i u5 hu5 F5 T5 d5
        walk_at "al"
        rename_i u6 hu6 F6 T6 d6
        have y5 := T6
        have y4 := T5.trans y5
        have y3 := T4.trans y4
        have y2 := T3.trans y3
        have y1 := T2.trans y2
        exact ⟨⟨_, .inl (.inl d6)⟩, hR (u6, F6, _) ⟨d6, T1.trans y1, .cons ⟨u1, rfl, y1 _ _ d1⟩ (.cons ⟨u2, rfl, y2 _ _ d2⟩ (.cons ⟨u3, rfl, y3 _ _ d3⟩ (.cons ⟨u4, rfl, y4 _ _ d4⟩ (.cons ⟨u5, rfl, y5 _ _ d5⟩ .nil))))⟩⟩
      obtain ⟨pt, G3, xt⟩ := x
      obtain ⟨x1, x2, x3⟩ := hx
      dsimp only at x1 x2 x3
      have five : ∀ d ∈ [(be, en + 1), (be, en - 1), (be + 1, en), (be - 1, en), (en, be)], d.1.natAbs ≤ 500 ∧ d.2.natAbs ≤ 500 := fun d hd => by
        simp only [List.mem_cons, List.not_mem_nil, or_false] at hd
        rcases hd with h | h | h | h | h <;> cases h <;> dsimp only <;> omega
      have l5x : xt.length = 5 := x3.length
      generalize [(be, en + 1), (be, en - 1), (be + 1, en), (be - 1, en), (en, be)] = fv at x3 five
      refine for_it (n := xt.length) (G := fun H => SqT K H pt xt) walk_tup (fun i σ H' => ∃ w11 os LL, σ = [some (.ref st), some (.ref tp), some (.str (S t)), some (.ref rp), some v, some (.ref wl), some (.ref pl), some (.ref lo), some (.int j), some (.int be), some (.int en), w11, none, none, none, none, none, none] ∧ BI K a ns [lo, st] st rp dr r v E H H' ∧
        WL [lo, st] H' wl ws ∧ PL [lo, st] H' pl ps ∧ H' lo = some (.lst os) ∧ Paired (Lot [lo, st] H') os LL ∧ LL.length = 5 + i ∧ H' pt = some (.tup xt) ∧ Paired (Pls H') xt fv) ?_ (fun i σ H' hi ⟨_, _, _, _, _, _, _, _, _, _, h, _⟩ => .inl (.inl h)) ?_ ?_
      · exact ⟨_, _, _, rfl, bG2.same x2, WG2.kp x2.kq, PG2.kp x2.kq bG2.hl, x2 _ _ loG2, Paired.mapP lG2 fun _ _ z => Lot.kp z x2.kq bG2.hl, by omega, x1, x3⟩
      · rintro i x σ H5 H5' hi ⟨w11, os, LL, rfl, b5, w5, p5, lo5, l5, ll5, t5, f5⟩ ⟨rfl, hx5⟩
        have hif : i < fv.length := by rw [← f5.length]; exact hi
        obtain ⟨qf, rfl, hqf⟩ := Paired.at' f5 (List.getElem?_eq_getElem hif) hx5
        have fok := five _ (List.getElem_mem hif)
        generalize fv[i] = fd at *
        have c1 : ∀ x, cutV x none (some (j : Int)) = x.take j := fun x => cut_to x j
        have c2 : ∀ x, cutV x (some ((j : Int) + 1)) none = x.drop (j + 1) := fun x => cut_from x (j + 1)
        obtain ⟨np5, ys5, g1, g2⟩ := id p5
        have ly5 : ys5.length ≤ 401 := by rw [g2.length]; exact sm.pl
        walk_at "rd"
        simp only [c1, c2]
        refine ⟨.inl ⟨rfl, _, .inl (.inl lo5)⟩, ys5, .inl (.inl g1), ?_⟩
        walk_at "al"
        rename_i u1 hu1 F1 T1 d1
        walk_at "al"
        rename_i u2 hu2 F2 T2 d2
        refine ⟨_, T2 _ _ d1, ?_, ?_⟩
        · rw [List.length_take]
          exact Nat.le_trans (show min j ys5.length + 1 ≤ 402 by omega) (by decide)
        walk_at "al"
        rename_i u3 hu3 F3 T3 d3
        have t3 := (T1.trans T2).trans T3
        refine ⟨ys5, .inl (.inl (t3 _ _ g1)), ?_⟩
        walk_at "al"
        rename_i u4 hu4 F4 T4 d4
        refine ⟨_, T4 _ _ d3, ?_, ?_⟩
        · rw [List.length_append, List.length_take, List.length_drop]
          exact Nat.le_trans (show min j ys5.length + 1 + (ys5.length - (j + 1)) ≤ 900 by omega) (by decide)
        walk_at "al"
        rename_i u5 hu5 F5 T5 d5
        walk_at "al"
        rename_i u6 hu6 F6 T6 d6
        have t6 := ((t3.trans T4).trans T5).trans T6
        have P6 : Paired (Pls F6) ys5 ps := Paired.mapP g2 fun _ _ z => z.mono fun b xs => t6 b _
        have L : Lot [lo, st] F6 (.ref u6) (ws, ps.take j ++ [fd] ++ ps.drop (j + 1)) := ⟨u6, wl, u5, rfl, d6, w5.kp t6.kq, ⟨(b5.hl.same (t3.trans T4)).new hu5, _, T6 _ _ d5, Paired.app (Paired.app (Paired.take' j P6) (.cons ⟨qf, rfl, t6 _ _ hqf⟩ .nil)) (Paired.drop' (j + 1) P6)⟩,
          sm.of (by decide) (fun t ht => .inl ht) (Nat.le_add_right _ 2) (fun d hd => by
            rcases List.mem_append.mp hd with h | h
            · rcases List.mem_append.mp h with h | h
              · exact .inl (List.mem_of_mem_take h)
              · rw [List.mem_singleton.mp h]; exact .inr fok
            · exact .inl (List.mem_of_mem_drop h)) (by simp only [List.length_append, List.length_take, List.length_drop, List.length_cons, List.length_nil]; omega)⟩
        obtain ⟨r1, r2, r3, r4⟩ := put_lot (b5.same t6) nsl lo0 (Paired.mapP l5 fun _ _ z => Lot.kp z t6.kq b5.hl) (w5.kp t6.kq) (p5.kp t6.kq b5.hl) L
        have npt : pt ≠ lo := fun z => by
          have := t6 _ _ t5
          rw [z] at t5
          rw [lo5] at t5
          cases t5
        refine ⟨os, t6 _ _ lo5, ?_, r1, r2, r3, _, r4, by rw [List.length_append]; simp only [List.length_cons, List.length_nil]; omega, by rw [upd_ne npt]; exact t6 _ _ t5, ?_⟩
        · rw [l5.length, ll5]
          exact Nat.lt_of_le_of_lt (show 5 + i ≤ 10 by omega) (by decide)
        · exact Paired.mapP f5 fun _ _ z => (z.mono fun b xs => t6 b _).mono fun b xs => (kp_upd (p := lo)).tk (t6 _ _ lo5) (fun _ z => by cases z) b xs
      · rintro σ H5 ⟨w11, os, LL, rfl, b5, w5, p5, lo5, l5, ll5, t5, f5⟩
        have c1 : ∀ x, cutV x none (some (j : Int)) = x.take j := fun x => cut_to x j
        have c2 : ∀ x, cutV x (some ((j : Int) + 1)) none = x.drop (j + 1) := fun x => cut_from x (j + 1)
        walk_at "rd"
        simp only [c1, c2]
        refine ⟨.inl ⟨rfl, _, .inl (.inl lo5)⟩, _, .inl (.inl w5.2), ?_⟩
        walk_at "al"
        rename_i u1 hu1 F1 T1 d1
        have la : Str.ofString "a" = S [97] := by decide +kernel
        simp only [la]
        have hjw : j < ws.length := by omega
        have hw1 : (ws.map sV)[j]? = some (sV ws[j]) := by rw [List.getElem?_map, List.getElem?_eq_getElem hjw]; rfl
        have ha1 := atI_nat hw1
        have wok := sm.w _ (List.getElem_mem hjw)
        generalize ws[j] = wj at *
        have wlen := sm.wl
        refine ⟨_, .inl (.inl (T1 _ _ w5.2)), _, ha1, S wj, rfl, ?_, ?_⟩
        · rw [S_len, S_len]
          exact Nat.le_trans (show wj.length + 1 ≤ 402 by have := wok.2; omega) (by decide)
        simp only [S_app]
        walk_at "al"
        rename_i u2 hu2 F2 T2 d2
        refine ⟨_, T2 _ _ d1, ?_, ?_⟩
        · rw [List.length_take, List.length_map]
          exact Nat.le_trans (show min j ws.length + 1 ≤ 402 by omega) (by decide)
        walk_at "al"
        rename_i u3 hu3 F3 T3 d3
        have t3 := (T1.trans T2).trans T3
        refine ⟨_, .inl (.inl (t3 _ _ w5.2)), ?_⟩
        walk_at "al"
        rename_i u4 hu4 F4 T4 d4
        refine ⟨_, T4 _ _ d3, ?_, ?_⟩
        · rw [List.length_append, List.length_take, List.length_drop, List.length_map]
          exact Nat.le_trans (show min j ws.length + 1 + (ws.length - (j + 1)) ≤ 900 by omega) (by decide)
        walk_at "al"
        rename_i u5 hu5 F5 T5 d5
        walk_at "al"
        rename_i u6 hu6 F6 T6 d6
        have t6 := ((t3.trans T4).trans T5).trans T6
        have mid : ∀ {G : Hp} {u uu : Addr} (w' : Tx), ok8 w' → w'.length ≤ 500 → u ∉ [lo, st] → G u = some (.lst (((ws.map sV).take j ++ [sV w']) ++ (ws.map sV).drop (j + 1))) → G uu = some (.tup [.ref u, .ref pl]) → PL [lo, st] G pl ps → Lot [lo, st] G (.ref uu) (ws.take j ++ [w'] ++ ws.drop (j + 1), ps) := fun w' h1 h2 h3 h4 h5 h6 => by
          refine ⟨_, _, pl, rfl, h5, ⟨h3, by rw [h4, List.map_append, List.map_append, List.map_take, List.map_drop]; rfl⟩, h6, sm.of (by decide) (fun t ht => ?_) (by simp only [List.length_append, List.length_take, List.length_drop, List.length_cons, List.length_nil]; omega) (fun d hd => .inl hd) (Nat.le_add_right _ 2)⟩
          rcases List.mem_append.mp ht with h | h
          · rcases List.mem_append.mp h with h | h
            · exact .inl (List.mem_of_mem_take h)
            · rw [List.mem_singleton.mp h]; exact .inr ⟨h1, h2⟩
          · exact .inl (List.mem_of_mem_drop h)
        have L6 := mid (G := F6) (u := u5) (uu := u6) (wj ++ [97]) (fun c hc => (List.mem_append.mp hc).elim (wok.1 c) fun h => by cases List.mem_singleton.mp h; decide) (by rw [List.length_append]; simp only [List.length_cons, List.length_nil]; have := wok.2; omega)
          ((b5.hl.same (t3.trans T4)).new hu5) (T6 _ _ d5) d6 (p5.kp t6.kq b5.hl)
        obtain ⟨r1, r2, r3, r4⟩ := put_lot (b5.same t6) nsl lo0 (Paired.mapP l5 fun _ _ z => Lot.kp z t6.kq b5.hl) (w5.kp t6.kq) (p5.kp t6.kq b5.hl) L6
        refine ⟨os, t6 _ _ lo5, ?_, ?_⟩
        · rw [l5.length, ll5]
          exact Nat.lt_of_le_of_lt (show 5 + xt.length ≤ 10 by omega) (by decide)
        have lo7 : upd F6 lo (HO.lst (os ++ [V.ref u6])) lo = some (HO.lst (os ++ [V.ref u6])) := upd_same
        generalize upd F6 lo (HO.lst (os ++ [V.ref u6])) = F7 at *
        refine ⟨.inl ⟨rfl, _, .inl (.inl lo7)⟩, _, .inl (.inl r2.2), ?_⟩
        walk_at "al"
        rename_i m1 hm1 E1 M1 f1
        refine ⟨_, .inl (.inl (M1 _ _ r2.2)), _, ha1, ?_⟩
        refine ⟨S wj, rfl, ?_, ?_⟩
        · rw [S_len]
          exact Nat.le_trans wok.2 (by decide)
        rw [show (1 : Int) = ((1 : Nat) : Int) from rfl, cutS_from]
        walk_at "al"
        rename_i m2 hm2 E2 M2 f2
        refine ⟨_, M2 _ _ f1, ?_, ?_⟩
        · rw [List.length_take, List.length_map]
          exact Nat.le_trans (show min j ws.length + 1 ≤ 402 by omega) (by decide)
        walk_at "al"
        rename_i m3 hm3 E3 M3 f3
        have n3 := (M1.trans M2).trans M3
        refine ⟨_, .inl (.inl (n3 _ _ r2.2)), ?_⟩
        walk_at "al"
        rename_i m4 hm4 E4 M4 f4
        refine ⟨_, M4 _ _ f3, ?_, ?_⟩
        · rw [List.length_append, List.length_take, List.length_drop, List.length_map]
          exact Nat.le_trans (show min j ws.length + 1 + (ws.length - (j + 1)) ≤ 900 by omega) (by decide)
        walk_at "al"
        rename_i m5 hm5 E5 M5 f5
        walk_at "al"
        rename_i m6 hm6 E6 M6 f6
        have n6 := ((n3.trans M4).trans M5).trans M6
        have L7 := mid (G := E6) (u := m5) (uu := m6) (wj.drop 1) (fun c hc => wok.1 c (List.mem_of_mem_drop hc)) (by rw [List.length_drop]; have := wok.2; omega)
          ((r1.hl.same (n3.trans M4)).new hm5) (M6 _ _ f5) f6 (r3.kp n6.kq r1.hl)
        obtain ⟨t1, t2, t3', t4⟩ := put_lot (r1.same n6) nsl lo0 (Paired.mapP r4 fun _ _ z => Lot.kp z n6.kq r1.hl) (r2.kp n6.kq) (r3.kp n6.kq r1.hl) L7
        refine ⟨_, n6 _ _ lo7, ?_, hN _ _ ⟨_, _, _, _, _, _, rfl, t1, upd_same, t4, ?_⟩⟩
        · rw [List.length_append, l5.length, ll5]
          exact Nat.lt_of_le_of_lt (show 5 + xt.length + 1 ≤ 12 by omega) (by decide)
        · rw [List.length_append, List.length_append, ll5]
          simp only [List.length_cons, List.length_nil]
          omega
    rintro σ5 H5 ⟨v8, v9, v10, v11, os, LL, rfl, b5, lo5, l5, ll5⟩
    have tx : TOk 900 E := rT.mono (by omega)
    refine tseq_split (fun σ' H' => ∃ v8 v9 v10 v11 v12 v13 v14 v15, σ' = [some (.ref st), some (.ref tp), some (.str (S t)), some (.ref rp), some v, some (.ref wl), some (.ref pl), some (.ref lo), v8, v9, v10, v11, v12, v13, v14, v15, none, none] ∧ BI K a ns [lo, st] st rp dr r v E H H') (fun N hN => ?_) ?_
    · refine tfor_it (J := Itl K lo) (H1 := H5) (n := os.length) (G := fun H => SqL K H lo os) (fun R hR => ?_) walk_list (fun i σ H' => Same H5 H' ∧ ∃ v12 v13 v14 v15, σ = [some (.ref st), some (.ref tp), some (.str (S t)), some (.ref rp), some v, some (.ref wl), some (.ref pl), some (.ref lo), v8, v9, v10, v11, v12, v13, v14, v15, none, none])
        ⟨Same.refl _, _, _, _, _, rfl⟩ (fun _ σ H _ h => .inl (.inl (h.1 _ _ lo5))) ?_ ?_
      · exact ⟨_, rfl, lo, rfl, ⟨_, .inl (.inl lo5)⟩, hR⟩
      · rintro i x σ H6 H6' hi ⟨s6, v12, v13, v14, v15, rfl⟩ ⟨rfl, hx⟩
        have hil : i < LL.length := by rw [← l5.length]; exact hi
        obtain ⟨qt, wl', pl', rfl, h1, h2, h3, h4⟩ := Paired.at' l5 (List.getElem?_eq_getElem hil) hx
        generalize LL[i] = dl at *
        obtain ⟨ws', ps'⟩ := dl
        dsimp only at h2 h3 h4
        walk_at "rd"
        have W6 := h2.kp (s6.kq (hot := [lo, st]))
        have P6 := h3.kp s6.kq b5.hl
        have b6 := b5.same s6
        obtain ⟨np, ys', g1, g2⟩ := id P6
        have tx' := h4.tok (by decide)
        refine ⟨_, .inl (.inl (s6 _ _ h1)), rfl, _, _, rfl, _, _, rfl, rfl, wl', rfl, _, .inl (.inl (.inl W6.2)), ?_⟩
        walk_at "al"
        rename_i l hl0 G1 S1 e1
        intro x1 dx hx1 hdx nedx
        have SM : Same G1 (upd (upd G1 dx (.own x1)) x1 (.ins a.c_Words dx [])) := Same.made hx1 hdx fun _ _ e _ => e
        refine ⟨x1, dx, l, pl', _, ys', rfl, upd_same, SM _ _ e1, SM _ _ (S1 _ _ g1), fun m1 m2 H7 f1 f2 f3 f4 f5 f6 f7 => ⟨rfl, ?_⟩⟩
        have SF : Same G1 H7 := Same.made hx1 hdx f7
        have nm1 : m1 ≠ l := fresh_ne (SM _ _ e1) f1
        have nm2 : m2 ≠ l := fresh_ne (SM _ _ e1) f2
        have nx1 : x1 ≠ l := fresh_ne e1 hx1
        refine ⟨.inl ⟨rfl, _, .inl (.inl (SF _ _ e1))⟩, _, SF _ _ e1, ?_, ?_⟩
        · rw [List.length_map]
          exact Nat.lt_of_le_of_lt h4.wl (by decide)
        have SX := Same.mut (o := HO.lst (ws'.map sV ++ [V.str (Str.ofString "x")])) (S1.trans SF) hl0
        have i1 : upd H7 l (HO.lst (ws'.map sV ++ [V.str (Str.ofString "x")])) x1 = some (HO.ins a.c_Words dx (WF m1 m2)) := by rw [upd_ne nx1]; exact f6
        have i2 : upd H7 l (HO.lst (ws'.map sV ++ [V.str (Str.ofString "x")])) m1 = some (HO.lst (ws'.map sV)) := by rw [upd_ne nm1]; exact f4
        have i3 : upd H7 l (HO.lst (ws'.map sV ++ [V.str (Str.ofString "x")])) m2 = some (HO.lst ys') := by rw [upd_ne nm2]; exact f5
        generalize upd H7 l (HO.lst (ws'.map sV ++ [V.str (Str.ofString "x")])) = H8 at *
        have i4 : Paired (Pls H8) ys' ps' := Paired.mapP g2 fun _ _ z => z.mono fun b xs => SX b _
        have tw : tame (wsD ws') = true := wsD_tame fun t ht => (h4.w t ht).1
        refine ⟨_, _, _, i1, T.c_Words.cl, T.n_Words_words, _, rfl, wsD ws', dp_ws (.inl (.inl i2)), wsD ws', dp_ws (.inl (.inl (SX _ _ W6.2))), shaped_of tw (Nat.le_trans (wsD_depth _) (by decide)), shaped_of tw (Nat.le_trans (wsD_depth _) (by decide)), ?_⟩
        rw [(eqv_iff _ _ tw tw).mpr rfl]
        refine ite2 (fun c => by cases c) (fun _ => ?_)
        have bX := b6.same SX
        refine ⟨_, _, i1, lkn_words_shows _ _, words_ok ⟨dx, m1, m2, ys', i1, i2, i3, i4⟩ tx' bX.ru ok hs (by omega) fun H9 s9 => ?_⟩
        rw [hE]
        have bY := bX.same s9
        walk_at "al"
        rename_i l10 hl10 H10 S10 e10
        have sb := shown_bool (decide (E = .ok (ws', ps')))
        refine ⟨_, .lst (.inl (.inl e10)) (.cons (.bl _) .nil), sb.1, sb.2.1, sb.2.2.1, sb.2.2.2, ?_⟩
        walk_at "al"
        rename_i t11 ht11 H11 S11 e11
        have s11 := ((SX.trans s9).trans S10).trans S11
        have bZ := (bY.same S10).same S11
        have dl : Dp K H11 (V.ref t11) (tD (.ok (ws', ps'))) := .tup (.inl (.inl e11)) (.cons (dp_ws (.inl (.inl (s11 _ _ W6.2)))) (.cons (dp_ps (.inl (.inl (s11 _ _ g1))) (Paired.mapP g2 fun _ _ z => z.mono fun b xs => s11 b _)) .nil))
        refine ⟨_, dl, _, bZ.du.dp, shaped_of (tD_tame tx') (Nat.le_trans (tD_depth _) (by decide)), shaped_of (tD_tame tx) (Nat.le_trans (tD_depth _) (by decide)), ?_⟩
        rw [eqv_dec (tD_tame tx') (tD_tame tx) tD_inj, show decide ((.ok (ws', ps') : Told) = E) = decide (E = .ok (ws', ps')) by rw [Bool.eq_iff_iff, decide_eq_true_eq, decide_eq_true_eq]; exact eq_comm]
        walk_at "al"
        rename_i l12 hl12 H12 S12 e12
        refine ⟨_, .lst (.inl (.inl e12)) (.cons (.bl _) .nil), sb.1, sb.2.1, sb.2.2.1, sb.2.2.2, ite2 (fun c => absurd rfl c) (fun _ => ?_)⟩
        exact ⟨s6.trans (s11.trans S12), _, rfl⟩
      · rintro σ H6 ⟨s6, v12, v13, v14, v15, rfl⟩
        exact hN _ _ ⟨_, _, _, _, _, _, _, _, rfl, b5.same s6⟩
    rintro σ6 H6 ⟨v8, v9, v10, v11, v12, v13, v14, v15, rfl, b6⟩
    refine tseq_split (fun σ' H' => H' = H6 ∧ ∃ n : Int, n.natAbs ≤ 1000 ∧ (E = .error n ∨ ∃ z, E = .ok z) ∧ σ' = [some (.ref st), some (.ref tp), some (.str (S t)), some (.ref rp), some v, some (.ref wl), some (.ref pl), some (.ref lo), v8, v9, v10, v11, v12, v13, v14, v15, some (.int n), none]) (fun N hN => ?_) ?_
    · walk_at "rd"
      have one : ∃ t, TyX K H6 v t ∧ PySem.W.kitOne K t (.type "tuple") = some (isOk E) := by
        have du := b6.du
        cases E with
        | error n => cases du; exact ⟨_, .base (.int _), kit_ty (b := "tuple") (r := false) (by decide +kernel)⟩
        | ok z =>
          obtain ⟨t0, l1, l2, rfl, h2, _⟩ := du
          exact ⟨_, .base (.tup h2), kit_ty (b := "tuple") (r := true) (by decide +kernel)⟩
      obtain ⟨ty, o1, o2⟩ := one
      refine ⟨ty, _, .ty _, o1, _, o2, ?_⟩
      have du := b6.du
      cases E with
      | error n =>
        have hn := rT.er n rfl
        cases du
        refine ite2 (fun _ => hN _ _ ⟨rfl, n, ?_, .inl rfl, rfl⟩) (fun c => absurd rfl c)
        have hb := readAll_bd r t default
        have e := readT_all ok t default
        rw [hE] at e
        cases e2 : readAll r t default with
        | ok m => rw [e2] at e; cases e
        | error m =>
          rw [e2] at e hb
          cases e
          have hb : m ≤ t.length := hb
          omega
      | ok z => exact ite2 (fun c => by cases c) (fun _ => hN _ _ ⟨rfl, 0, by decide, .inr ⟨z, rfl⟩, rfl⟩)
    rintro σ7 H7 ⟨rfl, n, n1, n2, rfl⟩
    have sz : t.length ≤ sizeLine := Nat.le_trans hl (by decide)
    refine tfor_all (ι := Addr × Hp) (C := fun x => x.2 x.1 = some (.tup [.int n, .int (n + 1), .int (n - 1), .int t.length, .int (-1)]) ∧ Same H7 x.2) (J := fun x => Itt K x.1) (H1 := fun x => x.2) (fun R hR => ?_) fun x hx => ?_
    · walk_at "rd"
      refine ⟨sz, ?_⟩
      walk_at "al"
      rename_i u1 hu1 F1 T1 d1
      exact ⟨⟨_, .inl (.inl d1)⟩, hR (u1, F1) ⟨d1, T1⟩⟩
    obtain ⟨pt, G3⟩ := x
    obtain ⟨x1, x2⟩ := hx
    dsimp only at x1 x2
    have spots : ∀ d ∈ ([n, n + 1, n - 1, (t.length : Int), -1] : List Int), okI d := fun d hd => by
      simp only [List.mem_cons, List.not_mem_nil, or_false] at hd
      simp only [okI]
      rcases hd with h | h | h | h | h <;> subst h <;> omega
    have xe : ([.int n, .int (n + 1), .int (n - 1), .int t.length, .int (-1)] : List V) = ([n, n + 1, n - 1, (t.length : Int), -1] : List Int).map V.int := rfl
    rw [xe] at x1
    generalize ([n, n + 1, n - 1, (t.length : Int), -1] : List Int) = sp at x1 spots
    refine for_it (n := (sp.map V.int).length) (G := fun H => SqT K H pt (sp.map V.int)) walk_tup (fun i σ H' => Same G3 H' ∧ ∃ v17, σ = [some (.ref st), some (.ref tp), some (.str (S t)), some (.ref rp), some v, some (.ref wl), some (.ref pl), some (.ref lo), v8, v9, v10, v11, v12, v13, v14, v15, some (.int n), v17])
      ⟨Same.refl _, _, rfl⟩ (fun _ σ H _ h => .inl (.inl (h.1 _ _ x1))) ?_ ?_
    · rintro i x σ H8 H8' hi ⟨s8, v17, rfl⟩ ⟨rfl, hx⟩
      rw [List.getElem?_map] at hx
      obtain ⟨d, hd, rfl⟩ := Option.map_eq_some_iff.mp hx
      have dok := spots d (List.mem_of_getElem? hd)
      have b8 := (b6.same x2).same s8
      walk_at "rd"
      intro x dx hx hdx nedx
      refine ⟨x, dx, d, rfl, upd_same, fun H9 f1 f2 => ⟨rfl, ?_⟩⟩
      have SF : Same H8' H9 := Same.made hx hdx f2
      have b9 := b8.same SF
      have txd : TOk 900 (.error d) := ⟨fun i z => by cases z; exact dok, fun _ _ z => (nomatch z), fun _ _ z => (nomatch z)⟩
      refine ⟨_, _, f1, lkn_fault_shows _, fault_ok ⟨dx, f1⟩ txd b9.ru ok hs (by omega) fun H10 s10 => ?_⟩
      rw [hE]
      walk_at "al"
      rename_i l11 hl11 H11 S11 e11
      have b11 := (b9.same s10).same S11
      have sb := shown_bool (decide (E = .error d))
      refine ⟨_, .lst (.inl (.inl e11)) (.cons (.bl _) .nil), sb.1, sb.2.1, sb.2.2.1, sb.2.2.2, ?_⟩
      refine ⟨tD (.error d), .int _, _, b11.du.dp, shaped_of (tD_tame txd) (Nat.le_trans (tD_depth _) (by decide)), shaped_of (tD_tame tx) (Nat.le_trans (tD_depth _) (by decide)), ?_⟩
      rw [eqv_dec (tD_tame txd) (tD_tame tx) tD_inj, show decide ((.error d : Told) = E) = decide (E = .error d) by rw [Bool.eq_iff_iff, decide_eq_true_eq, decide_eq_true_eq]; exact eq_comm]
      walk_at "al"
      rename_i l12 hl12 H12 S12 e12
      refine ⟨_, .lst (.inl (.inl e12)) (.cons (.bl _) .nil), sb.1, sb.2.1, sb.2.2.1, sb.2.2.2, ite2 (fun c => absurd rfl c) (fun _ => ?_)⟩
      exact ⟨s8.trans (SF.trans (s10.trans (S11.trans S12))), _, rfl⟩
    · rintro σ H8 ⟨s8, v17, rfl⟩
      have b8 := (b6.same x2).same s8
      exact q _ b8.stt b8.kp
end
end Qw

set_option Elab.async false
set_option linter.all false
set_option maxRecDepth 100000
set_option maxHeartbeats 4000000
namespace Qw
open PySem L2
local macro_rules | `(tactic| walk_at "rd") => `(tactic| simp only [iRng3, tRevL, rSlS, rSlL, gSub, rSetL, wipe, List.map_cons, List.map_nil, rAll, rAny, rIsi, tM1, tM0, iZipLT, iZip, iRng2, tLenSetS, rListStr, rMulS, rCntB, tRevS, rNeD, rEqD, tSeq, tNext, tAsg, tRet, tRetN, tDrop, tIfS, sFld, sFldAug, tVar, tC, tOp, tUn, tTest, tB, tAnd, tOr, tNot, tAndV, tOrV, tNotV, tIf, tTup, tLst, tCons, tNil, tCB, tCall, tMeth, tMake, tFld, rI, rI0, rU, rEq, rNe, rCat, gName, gTup, gCons, gNil, tPar, tPar3, tBM, tBM0, rAppend, rExtend, rPopAt, rIxL, rIxT, rIxS, tSl, rSlS, rSlL, tPart, tNoPart, iStr, iTup, iList, iRng1, tAug, ipI, L2.rAdd, L2.rSub, L2.rAddS, tChain, rIsB, rNotB, scal_ss, scal_ii, scal_bb, scal_nn, scal_in, scal_ni, tYes,
  cx_K, cx_N, List.getElem?_cons_zero, List.getElem?_cons_succ, List.set_cons_zero, List.set_cons_succ, List.nil_append, List.cons_append, List.append_nil, List.length_cons, List.length_nil, Nat.zero_add,
  Option.some.injEq, V.ref.injEq, V.int.injEq, V.str.injEq, V.bl.injEq, HO.ins.injEq, HO.lst.injEq, HO.tup.injEq, List.cons.injEq, exists_eq_left, exists_eq_left', exists_eq_right, exists_eq_right', and_true, true_and, exists_and_left, exists_and_right, and_assoc, decide_eq_true_eq, Bool.not_eq_true', decide_eq_false_iff_not, reduceCtorEq, exists_const, forall_const, if_true, if_false, false_and, and_false, ite_true, ite_false, Bool.true_eq_false, Bool.false_eq_true, Nat.reduceLeDiff, Nat.reduceAdd, small_line, small_lt, upd_ne, ne_eq, not_false_eq_true, Nat.zero_le, Prod.mk.injEq, upd_same, upd_upd, S_tl, S_len, S_app, S_one, S_inj,
  lk_breaks, lk_hard, lk_soft, lk_bend, lk_note, lk_rules, lk_state, lk_bent, lk_word, lk_begun, lk_opened, lk_place, pt_state, pt_bent, pt_word, pt_wordS, pt_wordN, pt_begun, pt_opened, pt_place, pt_place1, len_mf, litv_empty, litv_note, litv_nl, mf_inj, rf_inj, lkn_begin, lkn_ended, lkn_plain, lkn_quoted, lkn_step, lkn_fault, lkn_key, lkn_told, lkn_quotes, lkn_special, pt_open1, not_true_eq_false, not_false_eq_true])
local macro_rules | `(tactic| walk_at "rdh") => `(tactic| simp only [iRng3, tRevL, rSlS, rSlL, gSub, rSetL, wipe, List.map_cons, List.map_nil, rAll, rAny, rIsi, tM1, tM0, iZipLT, iZip, iRng2, tLenSetS, rListStr, rMulS, rCntB, tRevS, rNeD, rEqD, tSeq, tNext, tAsg, tRet, tRetN, tDrop, tIfS, sFld, sFldAug, tVar, tC, tOp, tUn, tTest, tB, tAnd, tOr, tNot, tAndV, tOrV, tNotV, tIf, tTup, tLst, tCons, tNil, tCB, tCall, tMeth, tMake, tFld, rI, rI0, rU, rEq, rNe, rCat, gName, gTup, gCons, gNil, tPar, tPar3, tBM, tBM0, rAppend, rExtend, rPopAt, rIxL, rIxT, rIxS, tSl, rSlS, rSlL, tPart, tNoPart, iStr, iTup, iList, iRng1, tAug, ipI, L2.rAdd, L2.rSub, L2.rAddS, tChain, rIsB, rNotB, scal_ss, scal_ii, scal_bb, scal_nn, scal_in, scal_ni, tYes,
  cx_K, cx_N, List.getElem?_cons_zero, List.getElem?_cons_succ, List.set_cons_zero, List.set_cons_succ, List.nil_append, List.cons_append, List.append_nil, List.length_cons, List.length_nil, Nat.zero_add,
  Option.some.injEq, V.ref.injEq, V.int.injEq, V.str.injEq, V.bl.injEq, HO.ins.injEq, HO.lst.injEq, HO.tup.injEq, List.cons.injEq, exists_eq_left, exists_eq_left', exists_eq_right, exists_eq_right', and_true, true_and, exists_and_left, exists_and_right, and_assoc, decide_eq_true_eq, Bool.not_eq_true', decide_eq_false_iff_not, reduceCtorEq, exists_const, forall_const, if_true, if_false, false_and, and_false, ite_true, ite_false, Bool.true_eq_false, Bool.false_eq_true, Nat.reduceLeDiff, Nat.reduceAdd, small_line, small_lt, upd_ne, ne_eq, not_false_eq_true, Nat.zero_le, Prod.mk.injEq, upd_same, upd_upd, S_tl, S_len, S_app, S_one, S_inj,
  lk_breaks, lk_hard, lk_soft, lk_bend, lk_note, lk_rules, lk_state, lk_bent, lk_word, lk_begun, lk_opened, lk_place, pt_state, pt_bent, pt_word, pt_wordS, pt_wordN, pt_begun, pt_opened, pt_place, pt_place1, len_mf, litv_empty, litv_note, litv_nl, mf_inj, rf_inj, lkn_begin, lkn_ended, lkn_plain, lkn_quoted, lkn_step, lkn_fault, lkn_key, lkn_told, lkn_quotes, lkn_special, pt_open1, not_true_eq_false, not_false_eq_true, *])
local macro_rules | `(tactic| walk_at "pl") => `(tactic| (first | decide | (refine Nat.lt_of_le_of_lt (length_putF _ _ _) ?_; repeat (first | decide | refine pl2 ?_))))
local macro_rules | `(tactic| walk_at "al") => `(tactic| (intro p hp; generalize hH : upd _ p _ = H1; obtain ⟨S, e⟩ := gen_new hH hp; clear hH))
theorem cutS_to (l : Tx) (k : Nat) : cutS (S l) none (some (k : Int)) = S (l.take k) := by
  unfold cutS
  rw [S_len, HT.sIx_nat, HT.sIx_none]
  rcases Nat.le_total k l.length with h | h
  · rw [Nat.min_eq_left h]
    rfl
  · rw [Nat.min_eq_right h]
    refine congrArg S ?_
    show (l.drop 0).take _ = _
    rw [List.drop_zero, Nat.sub_zero, List.take_of_length_le (Nat.le_refl _), List.take_of_length_le h]
def faultsT : List (Tx × Nat) := [([97, 32, 39, 98], 2), ([97, 92], 1), ([34, 92], 0), ([39, 39, 92], 2), ([39, 34, 39, 34], 3), ([97, 10, 34, 98, 92, 34], 2)]
/-- a comprehension whose items are told by a relation -/
theorem lc_rel {α : Type} {J : It} {G : Hp → Prop} {Y : Nat → Hp → V → Hp → Prop} {g : TG} {tt : TT} {te : TE} {vs : List Nat} {σ : St} {H1 : Hp} {D : Addr} {Qd : Hp → Prop}
    (as : List α) (F : Hp → V → α → Prop) (mono : ∀ {p : Addr} {H H' : Hp} {v : V} {x : α}, Kp p H H' → (∃ xs, H p = some (.lst xs)) → F H v x → F H' v x)
    (w : Walk J as.length G Y) (hz : as.length ≤ 1000000) (h1 : H1 D = none) (hG : ∀ H, Same H1 H → G H)
    (hs : ∀ (R : VK) (R' : Hp → Prop) i a x H H', as[i]? = some a → Same H1 H → Y i H x H' → (∀ y H4, Same H H4 → F H4 y a → R y H4) →
      g x (wipe σ vs) H' fun σ2 H2 => wipe σ2 vs = wipe σ vs ∧ tt σ2 H2 fun b H3 => if b = true then te σ2 H3 R else R' H3)
    (hd : ∀ H ys, Same H1 H → H D = some (.lst ys) → Paired (F H) ys as → Qd H) :
    ∃ W : Nat → Nat → Hp → Prop, (∃ m, W 0 m (upd H1 D (.lst []))) ∧ ∀ i m H, W i m H →
      (J.stop i H ∧ Qd H) ∨ (J.go i H ∧ ∃ Nx : Hp → Prop, (∀ H', Nx H' → ∃ m', m' < m ∧ W (i + 1) m' H') ∧ ∀ x H', J.yld i H x H' → g x (wipe σ vs) H' fun σ2 H2 => wipe σ2 vs = wipe σ vs ∧ tt σ2 H2 fun b H3 =>
        if b = true then te σ2 H3 fun y H4 => ∃ acc, H4 D = some (.lst acc) ∧ acc.length < sizeLine ∧ Nx (upd H4 D (.lst (acc ++ [y]))) else Nx H3) := by
  refine lc_it w (fun i H => Same H1 H ∧ ∃ ys, H D = some (.lst ys) ∧ Paired (F H) ys (as.take i)) ⟨same_new h1, [], upd_same, by simp only [List.take_zero]; exact .nil⟩ (fun _ H _ p => hG H p.1) ?_ fun H p => by
    obtain ⟨p1, ys, p2, p3⟩ := p
    rw [List.take_length] at p3
    exact hd H ys p1 p2 p3
  rintro i x H H' hi ⟨p1, ys, p2, p3⟩ y
  obtain ⟨a, ha⟩ : ∃ a, as[i]? = some a := ⟨as[i], List.getElem?_eq_getElem hi⟩
  refine hs _ _ i a x H H' ha p1 y fun z H4 s4 f4 => ⟨_, s4 _ _ p2, ?_, ?_, _, upd_same, ?_⟩
  · rw [p3.length, List.length_take]
    exact Nat.lt_of_lt_of_le (show min i as.length < 1000001 by omega) (by decide)
  · exact Same.mut (p1.trans s4) h1
  · have kq : Kp D H4 (upd H4 D (.lst (ys ++ [z]))) := kp_upd
    rw [take_at ha]
    exact Paired.app (Paired.mapP p3 fun _ _ f => mono kq ⟨_, s4 _ _ p2⟩ (mono (s4.kp D) ⟨_, p2⟩ f)) (.cons (mono kq ⟨_, s4 _ _ p2⟩ f4) .nil)
theorem tlc_all {ι : Type} {C : ι → Prop} {J : ι → It} {H1 : ι → Hp} {wi : TI} {g : TG} {tt : TT} {te : TE} {vs : List Nat} {σ : St} {H : Hp} {Q : VK} (hw : ∀ R : It → Hp → Prop, (∀ x, C x → R (J x) (H1 x)) → wi σ H R)
    (h2 : ∀ x, C x → ∀ D, H1 x D = none → ∃ W : Nat → Nat → Hp → Prop, (∃ m, W 0 m (upd (H1 x) D (.lst []))) ∧ ∀ i m H, W i m H →
      ((J x).stop i H ∧ Q (.ref D) H) ∨ ((J x).go i H ∧ ∃ Nx : Hp → Prop, (∀ H', Nx H' → ∃ m', m' < m ∧ W (i + 1) m' H') ∧ ∀ y H', (J x).yld i H y H' → g y (wipe σ vs) H' fun σ2 H2 => wipe σ2 vs = wipe σ vs ∧ tt σ2 H2 fun b H3 =>
        if b = true then te σ2 H3 fun y H4 => ∃ acc, H4 D = some (.lst acc) ∧ acc.length < sizeLine ∧ Nx (upd H4 D (.lst (acc ++ [y]))) else Nx H3)) : tLc wi g tt te vs σ H Q := hw _ h2
section
variable {P : Program} {w : World} {K : PySem.W.Frag} {mg : Str → Option Value} {base : Heap} {a : Ad}
def sp_law (K : PySem.W.Frag) : Sp := fun vs H Q _ => ∃ (ns : List Int) (p : Addr), vs = [.ref p] ∧ Only H ∧ SqL K H p (ns.map V.int) ∧ ns.length ≤ 63 ∧ ∀ H', Q (.bl true) H'
theorem ok_law (T : Txt K mg a) : FnG P w K mg base 8 a.f_law a.d_law P_law (sp_law K) := by
  refine fnG_of T.F_law sc_law (fun vs H Q E h => ?_) (fun cdv A outer s H vs Q E hfr hr h => ?_)
  · obtain ⟨ns, p, rfl, _⟩ := h
    rfl
  · obtain ⟨ns, p, rfl, hO, hp, hl, q⟩ := h
    have G__law_told := ok__law_told (P := P) (w := w) (base := base) T
    have B__law_told := bi__law_told T
    have G__law_text := ok__law_text (P := P) (w := w) (base := base) T
    have B__law_text := bi__law_text T
    have G__law_right := ok__law_right (P := P) (w := w) (base := base) T
    have B__law_right := bi__law_right T
    have G__law_by_hand_right := ok__law_by_hand_right (P := P) (w := w) (base := base) T
    have B__law_by_hand_right := bi__law_by_hand_right T
    have G_Rules_init := ok_Rules_init (P := P) (w := w) (base := base) T
    have B_Rules_init := bi_Rules_init T
    obtain ⟨Ds_Rules_init0, D_Rules_init0, B_Rules_init0⟩ := bi_Rules_init0 T
    have G_split := ok_split (P := P) (w := w) (base := base) T
    have B_split := bi_split T
    have G__law_said := ok__law_said (P := P) (w := w) (base := base) T
    have B__law_said := bi__law_said T
    refine ⟨_,
(pss_cons (ps_for PassesOwn.never rfl (pi_range3 rfl T.b_range (pa_cons pe_int (pa_cons (pe_callB ((call_max2 rfl)) (by rfl) T.b_max (by decide +kernel) (pa_cons pe_int (pa_cons (pe_callB ((call_min2 rfl)) (by rfl) T.b_min (by decide +kernel) (pa_cons pe_int (pa_cons (pe_callB call_len_seq (by rfl) T.b_len PySem.boot_len (pa_cons (pv 0) pa_nil)) pa_nil))) pa_nil))) (pa_cons pe_int pa_nil)))) (pg_name (i := 1) sc_law.nd rfl (Or.inl rfl))
    (pss_cons (ps_set (i := 2) sc_law.nd rfl (by first | exact Or.inl rfl | exact Or.inr rfl) (pe_lst (pa_cons (pv 0) (pa_cons (pv 1) (pa_cons pe_int pa_nil)))))
    (pss_cons (ps_par (i := 3) (j := 4) (by rfl) sc_law.nd rfl rfl (by decide) rfl rfl (pa_cons (pe_call G__law_told (hr.mono (by decide)) rfl T.f__law_told.g T.f__law_told.k B__law_told .nil pass0 (pa_cons (pv 2) pa_nil)) (pa_cons (pe_call G__law_told (hr.mono (by decide)) rfl T.f__law_told.g T.f__law_told.k B__law_told .nil pass0 (pa_cons (pv 2) pa_nil)) pa_nil)) (by rfl))
    (pss_cons (ps_for PassesOwn.never rfl (pi_tup (pe_tup (pa_cons pe_int (pa_cons pe_int (pa_cons pe_int (pa_cons pe_int pa_nil)))))) (pg_name (i := 5) sc_law.nd rfl (Or.inl rfl))
    (pss_cons (ps_par (i := 6) (j := 7) (by rfl) sc_law.nd rfl rfl (by decide) rfl rfl (pa_cons (pe_call G__law_text (hr.mono (by decide)) rfl T.f__law_text.g T.f__law_text.k B__law_text .nil pass0 (pa_cons (pv 2) (pa_cons (pv 3) (pa_cons (pv 5) pa_nil)))) (pa_cons (pe_call G__law_text (hr.mono (by decide)) rfl T.f__law_text.g T.f__law_text.k B__law_text .nil pass0 (pa_cons (pv 2) (pa_cons (pv 3) (pa_cons (pv 5) pa_nil)))) pa_nil)) (by rfl))
    (pss_cons (ps_if (pt_not (pt_val (pe_callG G__law_right hfr (hr.mono (by decide)) rfl T.f__law_right.g T.f__law_right.k B__law_right (pa_cons (pv 3) (pa_cons (pv 6) (pa_cons (pe_lst (pa_cons (pe_tup (pa_cons (pv 4) (pa_cons (pv 6) pa_nil))) (pa_cons (pe_tup (pa_cons (pv 3) (pa_cons (pv 7) pa_nil))) (pa_cons (pe_tup (pa_cons (pv 3) (pa_cons (pe_op op_add_str (pe_slice sl_str (pv 6) po_none (po_some pe_int)) pe_str) pa_nil))) pa_nil)))) pa_nil)))))) (pss_one (ps_ret pe_bl)) pss_nil)
    (pss_one (ps_if (PW.pt (pw_or (pt_not (pt_val (pe_callG G__law_by_hand_right hfr (hr.mono (by decide)) rfl T.f__law_by_hand_right.g T.f__law_by_hand_right.k B__law_by_hand_right (pa_cons (pv 2) (pa_cons (pv 3) (pa_cons (pv 6) pa_nil)))))) (pw_or1 (pt_not (pt_val (pe_callG G__law_by_hand_right hfr (hr.mono (by decide)) rfl T.f__law_by_hand_right.g T.f__law_by_hand_right.k B__law_by_hand_right (pa_cons (pv 2) (pa_cons (pv 3) (pa_cons (pe_op op_add_str (pe_slice sl_str (pv 7) po_none (po_some pe_int)) pe_str) pa_nil))))))))) (pss_one (ps_ret pe_bl)) pss_nil)))))
    (pss_one (ps_if (PW.pt (pw_or (pt_not (pt_val (pe_callG G__law_right hfr (hr.mono (by decide)) rfl T.f__law_right.g T.f__law_right.k B__law_right (pa_cons (pv 3) (pa_cons (pe_revS (pv 6)) (pa_cons (pe_lst pa_nil) pa_nil)))))) (pw_or1 (pt_not (pt_val (pe_callG G__law_right hfr (hr.mono (by decide)) rfl T.f__law_right.g T.f__law_right.k B__law_right (pa_cons (pv 3) (pa_cons (pe_op op_mul_str (pe_slice sl_str (pe_op op_add_str (pe_ix ix_tup (pv 3) pe_int (fun _ _ => rfl)) (pv 6)) po_none (po_some pe_int)) pe_int) (pa_cons (pe_lst pa_nil) pa_nil))))))))) (pss_one (ps_ret pe_bl)) pss_nil))))))
    (pss_cons (ps_set (i := 8) sc_law.nd rfl (by first | exact Or.inl rfl | exact Or.inr rfl) (pe_make0 T.c_Rules.mc G_Rules_init (hr.mono (by decide)) rfl T.c_Rules.g B_Rules_init0 D_Rules_init0 pass0))
    (pss_cons (ps_set (i := 9) sc_law.nd rfl (by first | exact Or.inl rfl | exact Or.inr rfl) (pe_call G_split (hr.mono (by decide)) rfl T.f_split.g T.f_split.k B_split .nil pass0 (pa_cons (pv 8) (pa_cons pe_str pa_nil))))
    (pss_cons (ps_set (i := 10) sc_law.nd rfl (by first | exact Or.inl rfl | exact Or.inr rfl) (pe_tup (pa_cons (pe_lst (pa_cons pe_str (pa_cons pe_str (pa_cons pe_str (pa_cons pe_str pa_nil))))) (pa_cons (pe_lst (pa_cons (pe_tup (pa_cons pe_int (pa_cons pe_int pa_nil))) (pa_cons (pe_tup (pa_cons pe_int (pa_cons pe_int pa_nil))) (pa_cons (pe_tup (pa_cons pe_int (pa_cons pe_int pa_nil))) (pa_cons (pe_tup (pa_cons pe_int (pa_cons pe_int pa_nil))) pa_nil))))) pa_nil))))
    (pss_cons (ps_if (pt_cmpR op_ne (pe_callTy (call_str_data hfr hr.units) (by rfl) T.b_str (by decide +kernel) (pa_cons (pe_call G__law_said (hr.mono (by decide)) rfl T.f__law_said.g T.f__law_said.k B__law_said .nil pass0 (pa_cons (pv 9) pa_nil)) pa_nil)) (pe_callTy (call_str_data hfr hr.units) (by rfl) T.b_str (by decide +kernel) (pa_cons (pv 10) pa_nil)) (nomark _)) (pss_one (ps_ret pe_bl)) pss_nil)
    (pss_cons (ps_setLc (i := 11) (own := [("_law_text_here", 6)]) (g := gName 6) (tt := tYes) rfl sc_law.nd rfl rfl (sw_true rfl rfl rfl (by decide +kernel)) (pi_tup (pe_tup (pa_cons pe_str (pa_cons pe_str (pa_cons pe_str (pa_cons pe_str (pa_cons pe_str (pa_cons pe_str pa_nil)))))))) (blkOk_by (own := [("_law_text_here", 6)]) (N := N_law) (sc := defScope st_law) (by decide +kernel)) (fun _ _ _ _ _ => (pg_name (i := 6) sc_law.nd rfl (Or.inl rfl))) (fun _ _ _ _ _ => pts_nil) (fun _ _ _ _ _ => (pe_call G_split (hr.mono (by decide)) rfl T.f_split.g T.f_split.k B_split .nil pass0 (pa_cons (pv 8) (pa_cons (pv 6) pa_nil)))))
    (pss_one (ps_ret (pe_cmpR (op_eqD hr.units) (pe_lc (own := [("_law_one", 12)]) (g := gName 12) (tt := tYes) rfl sc_law.nd (pi_list (pv 11)) (blkOk_by (own := [("_law_one", 12)]) (N := N_law) (sc := defScope st_law) (by decide +kernel)) (fun _ _ _ _ _ => (pg_name (i := 12) sc_law.nd rfl (Or.inl rfl))) (fun _ _ _ _ _ => pts_nil) (fun _ _ _ _ _ => (pe_call G__law_said (hr.mono (by decide)) rfl T.f__law_said.g T.f__law_said.k B__law_said .nil pass0 (pa_cons (pv 12) pa_nil)))) (pe_lst (pa_cons pe_int (pa_cons pe_int (pa_cons pe_int (pa_cons pe_int (pa_cons pe_int (pa_cons pe_int pa_nil))))))) (nomark _))))))))))
      , ?_⟩
    rw [show start N_law [V.ref p] = [some (.ref p), none, none, none, none, none, none, none, none, none, none, none, none] from rfl]
    have scr : Scr K ns H p := by
      rcases hp with (h | ⟨o, h⟩) | h
      · rcases hO p with z | ⟨o, xs, z⟩ <;> rw [z] at h <;> cases h
      · exact .inl ⟨o, h⟩
      · exact .inr (.inr h)
    refine tseq_split (fun σ' H' => ∃ v1 v2 v3 v4 v5 v6 v7, σ' = [some (.ref p), v1, v2, v3, v4, v5, v6, v7, none, none, none, none, none]) (fun N hN => ?_) ?_
    · refine tfor_all (ι := Nat) (C := fun n => True) (J := fun n => Itc 0 15 n) (H1 := fun _ => H) (fun R hR => ?_) fun n _ => ?_
      · walk_at "rd"
        have smalls : ∀ k : Nat, k < 31 → Builtin.Range.small 0 (k : Int) 15 = true ∧ Builtin.Range.rangeSize 0 (k : Int) 15 = ((Builtin.Range.rangeSize 0 (k : Int) 15).toNat : Int) := by decide +kernel
        refine ⟨ns.map V.int, .inl hp, ?_⟩
        obtain ⟨k, hk, e⟩ : ∃ k : Nat, k < 31 ∧ (if (if ((ns.map V.int).length : Int) < 30 then ((ns.map V.int).length : Int) else 30) > 1 then (if ((ns.map V.int).length : Int) < 30 then ((ns.map V.int).length : Int) else 30) else 1) = (k : Int) := by
          by_cases h1 : ((ns.map V.int).length : Int) < 30
          · rw [if_pos h1]
            by_cases h2 : ((ns.map V.int).length : Int) > 1
            · rw [if_pos h2]; exact ⟨_, by omega, rfl⟩
            · rw [if_neg h2]; exact ⟨1, by decide, rfl⟩
          · rw [if_neg h1, if_pos (by decide)]; exact ⟨30, by decide, rfl⟩
        rw [e]
        exact ⟨(Builtin.Range.rangeSize 0 (k : Int) 15).toNat, ⟨by decide, by decide, (smalls k hk).1, (smalls k hk).2⟩, hR _ trivial⟩
      refine for_it (n := n) walk_rangeC (fun i σ H' => Scr K ns H' p ∧ ∃ v1 v2 v3 v4 v5 v6 v7, σ = [some (.ref p), v1, v2, v3, v4, v5, v6, v7, none, none, none, none, none]) ⟨scr, _, _, _, _, _, _, _, rfl⟩ (fun _ _ _ _ _ => trivial) ?_ ?_
      · rintro i x σ H1 H1' hi ⟨sc, v1, v2, v3, v4, v5, v6, v7, rfl⟩ ⟨rfl, rfl⟩
        walk_at "rd"
        walk_at "al"
        rename_i st hst0 H2 S2 e2
        have T2 : Stt K ns H2 st := ⟨p, 0 + (i : Int) * 15, 0, e2, sc.same S2, by omega, by decide⟩
        refine ⟨ns, st, rfl, T2, fun r tp H3 ok hp3 tr T3 k3 => ?_⟩
        refine ⟨ns, st, rfl, T3, fun r' tp' H4 ok' hp4 tr' T4 k4 => ?_⟩
        obtain ⟨xs4, hs4⟩ := T4.has
        obtain ⟨xs3, hs3⟩ := T3.has
        have tr4 := k4.tk hs3 (fun _ z => by cases z) _ _ tr
        have k24 := k3.trans k4
        refine tfor_all (ι := Addr × Hp) (C := fun x => x.2 x.1 = some (.tup [.int 400, .int 8, .int 30, .int 4]) ∧ Same H4 x.2) (J := fun x => Itt K x.1) (H1 := fun x => x.2) (fun R hR => ?_) fun x hx => ?_
        · walk_at "rd"
          walk_at "al"
          rename_i u1 hu1 F1 T1 d1
          exact ⟨⟨_, .inl (.inl d1)⟩, hR (u1, F1) ⟨d1, T1⟩⟩
        obtain ⟨pt, G0⟩ := x
        obtain ⟨x1, x2⟩ := hx
        dsimp only at x1 x2
        have xe : ([.int 400, .int 8, .int 30, .int 4] : List V) = ([400, 8, 30, 4] : List Nat).map fun n => V.int (n : Nat) := rfl
        have mst : ∀ n ∈ ([400, 8, 30, 4] : List Nat), n ≤ 400 := by decide
        rw [xe] at x1
        have ml : ([400, 8, 30, 4] : List Nat).length = 4 := rfl
        generalize ([400, 8, 30, 4] : List Nat) = ml0 at x1 mst ml
        refine for_it (n := (ml0.map fun n => V.int (n : Nat)).length) (G := fun H => SqT K H pt (ml0.map fun n => V.int (n : Nat))) walk_tup (fun j σ H' => Kp st H2 H' ∧ Stt K ns H' st ∧ H' tp = some (.tup r.tup) ∧ H' tp' = some (.tup r'.tup) ∧ H' pt = some (.tup (ml0.map fun n => V.int (n : Nat))) ∧
          ∃ v5 v6 v7, σ = [some (.ref p), some (.int (0 + (i : Int) * 15)), some (.ref st), some (.ref tp), some (.ref tp'), v5, v6, v7, none, none, none, none, none] ∧ (j = 0 ∨ ∃ t : Tx, v6 = some (.str (S t)) ∧ t.all sgn = true ∧ t.length ≤ 400))
          ⟨k24.trans (x2.kp st), T4.same x2, x2 _ _ tr4, x2 _ _ tr', x1, _, _, _, rfl, .inl rfl⟩ (fun _ _ _ _ h => .inl (.inl h.2.2.2.2.1)) ?_ ?_
        · rintro j x σ H5 H5' hj ⟨k5, T5, tr5, tr5', pt5, v5, v6, v7, rfl, _⟩ ⟨rfl, hx⟩
          rw [List.getElem?_map] at hx
          obtain ⟨m, hm, rfl⟩ := Option.map_eq_some_iff.mp hx
          have mle := mst m (List.mem_of_getElem? hm)
          walk_at "rd"
          refine ⟨ns, st, tp, r, m, rfl, T5, tr5, ok, mle, fun t G1 tl ts TG1 kG1 => ?_⟩
          have trG1 := kG1.tk T5.has.choose_spec (fun _ z => by cases z) _ _ tr5
          have trG1' := kG1.tk T5.has.choose_spec (fun _ z => by cases z) _ _ tr5'
          have ptG1 := kG1.tk T5.has.choose_spec (fun _ z => by cases z) _ _ pt5
          refine ⟨ns, st, tp, r, m, rfl, TG1, trG1, ok, mle, fun t2 G2 tl2 ts2 TG2 kG2 => ?_⟩
          have trG2 := kG2.tk TG1.has.choose_spec (fun _ z => by cases z) _ _ trG1
          have trG2' := kG2.tk TG1.has.choose_spec (fun _ z => by cases z) _ _ trG1'
          have ptG2 := kG2.tk TG1.has.choose_spec (fun _ z => by cases z) _ _ ptG1
          have l32 : Str.ofString " " = S [32] := by decide +kernel
          have l39 : Str.ofString "'\"" = S [39, 34] := by decide +kernel
          have c1 : cutS (S t) none (some 399) = S (t.take 399) := cutS_to t 399
          have c2 : cutS (S t2) none (some 9) = S (t2.take 9) := cutS_to t2 9
          simp only [l32, l39]
          walk_at "al"
          rename_i p6 hp6 H6 S6 e6
          walk_at "al"
          rename_i p7 hp7 H7 S7 e7
          refine ⟨S t, rfl, Nat.le_trans (show (S t).length ≤ 400 by rw [S_len]; omega) (by decide), ?_⟩
          rw [c1, S_app]
          refine ⟨?_, ?_⟩
          · rw [S_len, S_len, List.length_take]
            exact Nat.le_trans (show min 399 t.length + 1 ≤ 400 by omega) (by decide)
          walk_at "al"
          rename_i p8 hp8 H8 S8 e8
          walk_at "al"
          rename_i p9 hp9 H9 S9 e9
          have z8 := S9
          have z7 := S8.trans z8
          have z6 := S7.trans z7
          have zz := S6.trans z6
          have sall : ∀ {l : Tx} {k : Nat}, l.all sgn = true → (l.take k).all sgn = true := fun {l k} h => List.all_eq_true.mpr fun c hc => List.all_eq_true.mp h c (List.mem_of_mem_take hc)
          refine ⟨tp, r, t, p9, _, [(r', t), (r, t2), (r, t.take 399 ++ [32])], rfl, zz _ _ trG2, ok, ts, by omega, e9, .cons ⟨p6, tp', rfl, z6 _ _ e6, zz _ _ trG2', ok', ts, Nat.le_trans tl mle⟩ (.cons ⟨p7, tp, rfl, z7 _ _ e7, zz _ _ trG2, ok, ts2, Nat.le_trans tl2 mle⟩ (.cons ⟨p8, tp, rfl, z8 _ _ e8, zz _ _ trG2, ok, by
            rw [List.all_append, sall ts]; rfl, by rw [List.length_append, List.length_take]; simp only [List.length_cons, List.length_nil]; omega⟩ .nil)), by show 3 ≤ 10; decide, fun G3 s3 => ⟨true, rfl, ite2 (fun c => by cases c) (fun _ => ?_)⟩⟩
          have s23 := zz.trans s3
          have TG3 := TG2.same s23
          refine ⟨ns, st, tp, r, t, rfl, TG3, s23 _ _ trG2, ok, ts, by omega, fun G4 TG4 kG4 => ⟨true, rfl, ite2 (fun c => by cases c) (fun _ => ?_)⟩⟩
          have mv : ∀ {o : List V} {b : Addr}, G2 b = some (.tup o) → G4 b = some (.tup o) := fun h => kG4.tk TG3.has.choose_spec (fun _ z => by cases z) _ _ (s23 _ _ h)
          refine ⟨S t2, rfl, Nat.le_trans (show (S t2).length ≤ 400 by rw [S_len]; omega) (by decide), ?_⟩
          rw [c2, S_app]
          refine ⟨?_, ?_⟩
          · rw [S_len, S_len, List.length_take]
            exact Nat.le_trans (show min 9 t2.length + 2 ≤ 400 by omega) (by decide)
          refine ⟨ns, st, tp, r, t2.take 9 ++ [39, 34], rfl, TG4, mv trG2, ok, by rw [List.all_append, sall ts2]; rfl, by rw [List.length_append, List.length_take]; simp only [List.length_cons, List.length_nil]; omega, fun G5 TG5 kG5 => ⟨true, rfl, ite2 (fun c => by cases c) (fun _ => ?_)⟩⟩
          have mv5 : ∀ {o : List V} {b : Addr}, G2 b = some (.tup o) → G5 b = some (.tup o) := fun h => kG5.tk TG4.has.choose_spec (fun _ z => by cases z) _ _ (mv h)
          exact ⟨((((k5.trans kG1).trans kG2).trans (s23.kp st)).trans kG4).trans kG5, TG5, mv5 trG2, mv5 trG2', mv5 ptG2, .inr ⟨t, rfl, ts, by omega⟩⟩
        · rintro σ H5 ⟨k5, T5, tr5, tr5', pt5, v5, v6, v7, rfl, hv6⟩
          obtain ⟨t, rfl, ts, tl⟩ := hv6.resolve_left (by rw [List.length_map, ml]; decide)
          walk_at "rd"
          refine ⟨by omega, ?_⟩
          walk_at "al"
          rename_i p6 hp6 H6 S6 e6
          refine ⟨tp, r, t.reverse, p6, [], [], rfl, S6 _ _ tr5, ok, by rw [List.all_reverse]; exact ts, by rw [List.length_reverse]; exact tl, e6, .nil, by decide, fun G1 s1 => ⟨true, rfl, ite2 (fun c => by cases c) (fun _ => ?_)⟩⟩
          have s51 := S6.trans s1
          have tr51 := s51 _ _ tr5
          have lb := ok.l1
          refine ⟨_, .inl (.inl tr51), _, rfl, S r.breaks, rfl, ?_, ?_⟩
          · rw [S_len]
            exact Nat.le_trans (show r.breaks.length + t.length ≤ 404 by omega) (by decide)
          have c1 : cutS (S (r.breaks ++ t)) none (some 130) = S ((r.breaks ++ t).take 130) := cutS_to _ 130
          rw [S_app, c1]
          have lt : ((r.breaks ++ t).take 130).length ≤ 130 := by rw [List.length_take]; omega
          refine ⟨?_, _, rfl, 3, rfl, by decide, by omega, ?_⟩
          · rw [S_len, List.length_append]
            exact Nat.le_trans (show r.breaks.length + t.length ≤ 404 by omega) (by decide)
          have sall : ((r.breaks ++ t).take 130).all sgn = true := List.all_eq_true.mpr fun c hc => by
            rcases List.mem_append.mp (List.mem_of_mem_take hc) with h | h
            · exact List.all_eq_true.mp ok.sg c (by simp [RS.every, h])
            · exact List.all_eq_true.mp ts c h
          generalize (r.breaks ++ t).take 130 = l3 at *
          walk_at "al"
          rename_i p8 hp8 H8 S8 e8
          have e3 : (List.replicate 3 l3).flatten = l3 ++ (l3 ++ l3) := by simp [List.replicate]
          refine ⟨tp, r, (List.replicate 3 l3).flatten, p8, [], [], rfl, S8 _ _ tr51, ok, by rw [e3, List.all_append, List.all_append, sall]; rfl, by rw [e3, List.length_append, List.length_append]; omega, e8, .nil, by decide, fun G2 s2 => ⟨true, rfl, ite2 (fun c => by cases c) (fun _ => ?_)⟩⟩
          exact ⟨((sc.same S2).kp k5 e2 (fun _ _ z => by cases z)).same ((s51.trans S8).trans s2), _, rfl⟩
      · rintro σ H1 ⟨sc, v1, v2, v3, v4, v5, v6, v7, rfl⟩
        exact hN _ _ ⟨_, _, _, _, _, _, _, rfl⟩
    rintro σ1 H1 ⟨v1, v2, v3, v4, v5, v6, v7, rfl⟩
    walk_at "rd"
    have k0 : Str.ofString " " = S [32] := by decide +kernel
    have k1 : Str.ofString "'" = S [39] := by decide +kernel
    have k2 : Str.ofString "\"" = S [34] := by decide +kernel
    have k3 : Str.ofString "\\" = S [92] := by decide +kernel
    have k4 : Str.ofString "#" = S [35] := by decide +kernel
    have k5 : Str.ofString "a 'b c'\"d\\\"\" '' # note ' \n\\ e#f" = S [97, 32, 39, 98, 32, 99, 39, 34, 100, 92, 34, 34, 32, 39, 39, 32, 35, 32, 110, 111, 116, 101, 32, 39, 32, 10, 92, 32, 101, 35, 102] := by decide +kernel
    have k6 : Str.ofString "a" = S [97] := by decide +kernel
    have k7 : Str.ofString "b cd\"" = S [98, 32, 99, 100, 34] := by decide +kernel
    have k8 : Str.ofString "\n e" = S [10, 32, 101] := by decide +kernel
    have k9 : Str.ofString "a 'b" = S [97, 32, 39, 98] := by decide +kernel
    have k10 : Str.ofString "a\\" = S [97, 92] := by decide +kernel
    have k11 : Str.ofString "\"\\" = S [34, 92] := by decide +kernel
    have k12 : Str.ofString "''\\" = S [39, 39, 92] := by decide +kernel
    have k13 : Str.ofString "'\"'\"" = S [39, 34, 39, 34] := by decide +kernel
    have k14 : Str.ofString "a\n\"b\\\"" = S [97, 10, 34, 98, 92, 34] := by decide +kernel
    simp only [k0, k1, k2, k3, k4, k5, k6, k7, k8, k9, k10, k11, k12, k13, k14]
    intro x dx hx hdx nedx
    refine ⟨x, dx, usual, rfl, usual_ok, upd_same, fun H2 h1 h2 => ⟨rfl, ?_⟩⟩
    refine ⟨x, dx, usual, [97, 32, 39, 98, 32, 99, 39, 34, 100, 92, 34, 34, 32, 39, 39, 32, 35, 32, 110, 111, 116, 101, 32, 39, 32, 10, 92, 32, 101, 35, 102], rfl, h1, few_quotes usual_ok, by decide, by decide +kernel, fun pf H3 hp s3 ans => ?_⟩
    rw [readT_all usual_ok, show readT usual [97, 32, 39, 98, 32, 99, 39, 34, 100, 92, 34, 34, 32, 39, 39, 32, 35, 32, 110, 111, 116, 101, 32, 39, 32, 10, 92, 32, 101, 35, 102] = .ok ([[97], [98, 32, 99, 100, 34], [], [10, 32, 101]], [(0, 1), (2, 12), (13, 15), (25, 29)]) by decide +kernel] at ans
    have an := ans.ans
    have hx3 := s3 _ _ h1
    walk_at "al"
    rename_i a1 ha1 F1 T1 d1
    walk_at "al"
    rename_i a2 ha2 F2 T2 d2
    walk_at "al"
    rename_i a3 ha3 F3 T3 d3
    walk_at "al"
    rename_i a4 ha4 F4 T4 d4
    walk_at "al"
    rename_i a5 ha5 F5 T5 d5
    walk_at "al"
    rename_i a6 ha6 F6 T6 d6
    walk_at "al"
    rename_i a7 ha7 F7 T7 d7
    have z6 := T7
    have z5 := T6.trans z6
    have z4 := T5.trans z5
    have z3 := T4.trans z4
    have z2 := T3.trans z3
    have z1 := T2.trans z2
    have zz := T1.trans z1
    refine said_ok (K := K) (an.same zz) fun v H8 s8 dv => ?_
    obtain ⟨b, rfl⟩ : ∃ b, v = .ref b := by cases dv; exact ⟨_, rfl⟩
    have tx : TOk 900 (.ok ([[97], [98, 32, 99, 100, 34], [], [10, 32, 101]], [(0, 1), (2, 12), (13, 15), (25, 29)])) := by
      have := (readT_ok usual_ok (t := [97, 32, 39, 98, 32, 99, 39, 34, 100, 92, 34, 34, 32, 39, 39, 32, 35, 32, 110, 111, 116, 101, 32, 39, 32, 10, 92, 32, 101, 35, 102]) (by decide +kernel) (by decide)).mono (show _ ≤ 900 by decide)
      rwa [show readT usual [97, 32, 39, 98, 32, 99, 39, 34, 100, 92, 34, 34, 32, 39, 39, 32, 35, 32, 110, 111, 116, 101, 32, 39, 32, 10, 92, 32, 101, 35, 102] = .ok ([[97], [98, 32, 99, 100, 34], [], [10, 32, 101]], [(0, 1), (2, 12), (13, 15), (25, 29)]) by decide +kernel] at this
    have dd : Dp K H8 (V.ref a7) (tD (.ok ([[97], [98, 32, 99, 100, 34], [], [10, 32, 101]], [(0, 1), (2, 12), (13, 15), (25, 29)]))) := .tup (.inl (.inl (s8 _ _ d7))) (.cons (dp_ws (.inl (.inl (s8 _ _ (z1 _ _ d1))))) (.cons (dp_ps (.inl (.inl (s8 _ _ (z6 _ _ d6))))
      (.cons ⟨a2, rfl, s8 _ _ (z2 _ _ d2)⟩ (.cons ⟨a3, rfl, s8 _ _ (z3 _ _ d3)⟩ (.cons ⟨a4, rfl, s8 _ _ (z4 _ _ d4)⟩ (.cons ⟨a5, rfl, s8 _ _ (z5 _ _ d5)⟩ .nil))))) .nil))
    have tm := tame_has _ (tD_tame tx)
    have sh := shown_of (tD_tame tx) (Nat.le_trans (tD_depth _) (by decide)) (Nat.le_trans (tD_weight (by decide) tx) (by decide))
    refine ⟨b, rfl, _, dv, tm.2.1, tm.2.2.1, Nat.le_trans (tD_depth _) (by decide), sh, _, dd, tm.2.1, tm.2.2.1, Nat.le_trans (tD_depth _) (by decide), sh, ite2 (fun c => absurd rfl c) (fun _ => ?_)⟩
    have hx8 := s8 _ _ (zz _ _ hx3)
    have tab : ∀ z ∈ faultsT, readT usual z.1 = .error (z.2 : Nat) ∧ z.1.all sgn = true ∧ z.1.length ≤ 400 := by decide +kernel
    have le : faultsT.length = 6 := rfl
    have ev : (faultsT.map fun z => V.str (S z.1)) = [V.str (S [97, 32, 39, 98]), V.str (S [97, 92]), V.str (S [34, 92]), V.str (S [39, 39, 92]), V.str (S [39, 34, 39, 34]), V.str (S [97, 10, 34, 98, 92, 34])] := rfl
    have ei : (faultsT.map fun z => V.int (z.2 : Nat)) = [V.int 2, V.int 1, V.int 0, V.int 2, V.int 3, V.int 2] := rfl
    refine tlc_all (ι := Addr × Hp) (C := fun y => y.2 y.1 = some (.tup (faultsT.map fun z => V.str (S z.1))) ∧ Same H8 y.2) (J := fun y => Itt K y.1) (H1 := fun y => y.2) (fun R hR => ?_) fun y hy D hD => ?_
    · walk_at "rd"
      walk_at "al"
      rename_i u1 hu1 G1 S1 e1
      exact ⟨⟨_, .inl (.inl e1)⟩, hR (u1, G1) ⟨e1, S1⟩⟩
    obtain ⟨pt, G0⟩ := y
    obtain ⟨y1, y2⟩ := hy
    dsimp only at y1 y2 hD
    rw [← ei]
    generalize faultsT = fs at *
    refine lc_rel fs (fun H v z => ∃ p, v = .ref p ∧ Ans a H p (.error (z.2 : Nat))) (fun {p H H' v z} k hl => ?_) (G := fun H => SqT K H pt (fs.map fun z => V.str (S z.1))) (Y := YAt (fs.map fun z => V.str (S z.1))) ?_ (by omega) hD (fun H s => .inl (.inl (s _ _ y1))) ?_ ?_
    · rintro ⟨q, rfl, dq, h⟩
      obtain ⟨xs, hxs⟩ := hl
      exact ⟨q, rfl, dq, k _ _ h fun e => by rw [e, hxs] at h; cases h⟩
    · have := walk_tup (K := K) (a := pt) (xs := fs.map fun z => V.str (S z.1))
      rwa [List.length_map] at this
    · rintro R R' i z x' H9 H9' hi s9 ⟨rfl, hx'⟩ hR
      rw [List.getElem?_map, hi] at hx'
      cases (Option.some.inj hx' : V.str (S z.1) = x')
      have tz := tab z (List.mem_of_getElem? hi)
      walk_at "rd"
      refine ⟨x, dx, usual, z.1, rfl, s9 _ _ (y2 _ _ hx8), few_quotes usual_ok, tz.2.2, tz.2.1, fun pf H10 hp s10 ans => ?_⟩
      rw [readT_all usual_ok, tz.1] at ans
      exact hR _ _ s10 ⟨pf, rfl, ans⟩
    · intro H9 ys s9 e9 f9
      have lys := f9.length
      refine tlc_map fs (fun z => .int (z.2 : Nat)) (J := Itl K D) (H1 := H9) (G := fun H => SqL K H D ys) (fun R hR => ?_) (lys ▸ walk_list) (by omega) (fun H s => .inl (.inl (s _ _ e9))) ?_ ?_
      · exact ⟨_, rfl, D, rfl, ⟨_, .inl (.inl e9)⟩, hR⟩
      · rintro R R' i z x' H10 H10' hi s10 ⟨rfl, hx'⟩ hR
        obtain ⟨q1, rfl, dq, h⟩ := Paired.at' f9 hi hx'
        walk_at "rd"
        exact ⟨q1, dq, rfl, .inl ⟨_, s10 _ _ h, fun H' s => hR _ s⟩⟩
      · intro D2 H10 hD2 s10 e10
        walk_at "al"
        rename_i l hl0 H11 S11 e11
        have tl : tame (.list (fs.map fun z => PyData.int (z.2 : Nat))) = true := by
          simp only [tame, tameAll_iff, List.mem_map]
          rintro _ ⟨z, hz, rfl⟩
          have h1 := (tab z hz).1
          have h2 := (readT_ok usual_ok (tab z hz).2.1 (tab z hz).2.2).er _ h1
          simp only [okI] at h2
          simp only [tame, decide_eq_true_eq]
          omega
        have dp : (PyData.list (fs.map fun z => PyData.int (z.2 : Nat))).depth ≤ 32 := by
          simp only [PyData.depth]
          refine Nat.le_trans (Nat.succ_le_succ (depthAll_le (n := 0) fun y hy => ?_)) (by decide)
          obtain ⟨z, _, rfl⟩ := List.mem_map.mp hy
          simp [PyData.depth]
        have dd2 : ∀ {H : Hp} {b : Addr}, H b = some (.lst (fs.map fun z => V.int (z.2 : Nat))) → Dp K H (V.ref b) (.list (fs.map fun z => PyData.int (z.2 : Nat))) := fun h => .lst (.inl (.inl h)) (dpAll_map fs fun _ _ => .int _)
        refine ⟨_, dd2 (S11 _ _ e10), _, dd2 e11, shaped_of tl dp, shaped_of tl dp, ?_⟩
        rw [(eqv_iff _ _ tl tl).mpr rfl]
        exact q _
end
end Qw

set_option Elab.async false
set_option linter.all false
set_option maxRecDepth 100000
set_option maxHeartbeats 4000000
namespace Qw
open PySem L2
theorem kit_own {K : PySem.W.Frag} {C D : Addr} {b : Bool} (ne : (C : Nat) ≠ D) (hd : PySem.W.hasDictIn K D = true) (ht : PySem.W.typeIn K (.ref D) = some (.type "type")) (h : PySem.W.mroIn K C (.ref D) = some b) : PySem.W.kitOne K (.ref C) (.ref D) = some b := by
  obtain ⟨cd, hc, _⟩ := PySem.W.any_some hd
  have e2 : ((PySem.W.clsIn K D).isSome && PySem.W.typeIn K (.ref D) == some (.type "type")) = true := by
    rw [hc, ht]
    rfl
  show (if (Value.ref C == Value.ref D) = true then some true else if ((PySem.W.clsIn K D).isSome && PySem.W.typeIn K (.ref D) == some (.type "type")) = true then PySem.W.mroIn K C (.ref D) else none) = some b
  rw [if_neg (fun z => ne (Value.ref.inj (beq_iff_eq.mp z))), if_pos e2]
  exact h
theorem all_mk {P : Program} {w : World} {K : PySem.W.Frag} {h : Heap} {mg : Str → Option Value} {fa : Addr} (X : K.In h) (G : h.Ns mainGlobals mg) (hfa : mg "law" = some (.ref fa))
    {C_Rules C_Machine C_Answer C_Words C_Fault f_are_signs f_Rules_init T_Rules_init f_Rules_told f_Rules_quotes f_Machine_init f_Machine_begin f_Machine_ended f_Machine_plain f_Machine_quoted f_Machine_step f_Machine_fault f_read_all f_Words_init f_Words_shows f_Fault_init f_Fault_shows f_split f__law_cell_at f__law_draw f__law_number f__law_next f__law_told f__law_text f__law_rules f__law_quoted f__law_word f__law_read f__law_said f__law_right f__law_by_hand_right f_law a_MOST : Addr}
    {kV_are_signs dc_are_signs pm_are_signs cd_are_signs ct_are_signs oc_are_signs : Value}
    {od_are_signs an_are_signs : Option Addr}
    {sl_are_signs : Array (Option Value)}
    {kV_Rules_init dc_Rules_init pm_Rules_init cd_Rules_init ct_Rules_init oc_Rules_init : Value}
    {od_Rules_init an_Rules_init : Option Addr}
    {sl_Rules_init : Array (Option Value)}
    {odT_Rules_init : Option Addr}
    {slT_Rules_init : Array (Option Value)}
    {nT_Rules_init : Nat}
    {t0_Rules_init t1_Rules_init t2_Rules_init t3_Rules_init t4_Rules_init : Tok}
    {kV_Rules_told dc_Rules_told pm_Rules_told cd_Rules_told ct_Rules_told oc_Rules_told : Value}
    {od_Rules_told an_Rules_told : Option Addr}
    {sl_Rules_told : Array (Option Value)}
    {kV_Rules_quotes dc_Rules_quotes pm_Rules_quotes cd_Rules_quotes ct_Rules_quotes oc_Rules_quotes : Value}
    {od_Rules_quotes an_Rules_quotes : Option Addr}
    {sl_Rules_quotes : Array (Option Value)}
    {kV_Machine_init dc_Machine_init pm_Machine_init cd_Machine_init ct_Machine_init oc_Machine_init : Value}
    {od_Machine_init an_Machine_init : Option Addr}
    {sl_Machine_init : Array (Option Value)}
    {kV_Machine_begin dc_Machine_begin pm_Machine_begin cd_Machine_begin ct_Machine_begin oc_Machine_begin : Value}
    {od_Machine_begin an_Machine_begin : Option Addr}
    {sl_Machine_begin : Array (Option Value)}
    {kV_Machine_ended dc_Machine_ended pm_Machine_ended cd_Machine_ended ct_Machine_ended oc_Machine_ended : Value}
    {od_Machine_ended an_Machine_ended : Option Addr}
    {sl_Machine_ended : Array (Option Value)}
    {kV_Machine_plain dc_Machine_plain pm_Machine_plain cd_Machine_plain ct_Machine_plain oc_Machine_plain : Value}
    {od_Machine_plain an_Machine_plain : Option Addr}
    {sl_Machine_plain : Array (Option Value)}
    {kV_Machine_quoted dc_Machine_quoted pm_Machine_quoted cd_Machine_quoted ct_Machine_quoted oc_Machine_quoted : Value}
    {od_Machine_quoted an_Machine_quoted : Option Addr}
    {sl_Machine_quoted : Array (Option Value)}
    {kV_Machine_step dc_Machine_step pm_Machine_step cd_Machine_step ct_Machine_step oc_Machine_step : Value}
    {od_Machine_step an_Machine_step : Option Addr}
    {sl_Machine_step : Array (Option Value)}
    {kV_Machine_fault dc_Machine_fault pm_Machine_fault cd_Machine_fault ct_Machine_fault oc_Machine_fault : Value}
    {od_Machine_fault an_Machine_fault : Option Addr}
    {sl_Machine_fault : Array (Option Value)}
    {kV_read_all dc_read_all pm_read_all cd_read_all ct_read_all oc_read_all : Value}
    {od_read_all an_read_all : Option Addr}
    {sl_read_all : Array (Option Value)}
    {kV_Words_init dc_Words_init pm_Words_init cd_Words_init ct_Words_init oc_Words_init : Value}
    {od_Words_init an_Words_init : Option Addr}
    {sl_Words_init : Array (Option Value)}
    {kV_Words_shows dc_Words_shows pm_Words_shows cd_Words_shows ct_Words_shows oc_Words_shows : Value}
    {od_Words_shows an_Words_shows : Option Addr}
    {sl_Words_shows : Array (Option Value)}
    {kV_Fault_init dc_Fault_init pm_Fault_init cd_Fault_init ct_Fault_init oc_Fault_init : Value}
    {od_Fault_init an_Fault_init : Option Addr}
    {sl_Fault_init : Array (Option Value)}
    {kV_Fault_shows dc_Fault_shows pm_Fault_shows cd_Fault_shows ct_Fault_shows oc_Fault_shows : Value}
    {od_Fault_shows an_Fault_shows : Option Addr}
    {sl_Fault_shows : Array (Option Value)}
    {kV_split dc_split pm_split cd_split ct_split oc_split : Value}
    {od_split an_split : Option Addr}
    {sl_split : Array (Option Value)}
    {kV__law_cell_at dc__law_cell_at pm__law_cell_at cd__law_cell_at ct__law_cell_at oc__law_cell_at : Value}
    {od__law_cell_at an__law_cell_at : Option Addr}
    {sl__law_cell_at : Array (Option Value)}
    {kV__law_draw dc__law_draw pm__law_draw cd__law_draw ct__law_draw oc__law_draw : Value}
    {od__law_draw an__law_draw : Option Addr}
    {sl__law_draw : Array (Option Value)}
    {kV__law_number dc__law_number pm__law_number cd__law_number ct__law_number oc__law_number : Value}
    {od__law_number an__law_number : Option Addr}
    {sl__law_number : Array (Option Value)}
    {kV__law_next dc__law_next pm__law_next cd__law_next ct__law_next oc__law_next : Value}
    {od__law_next an__law_next : Option Addr}
    {sl__law_next : Array (Option Value)}
    {kV__law_told dc__law_told pm__law_told cd__law_told ct__law_told oc__law_told : Value}
    {od__law_told an__law_told : Option Addr}
    {sl__law_told : Array (Option Value)}
    {kV__law_text dc__law_text pm__law_text cd__law_text ct__law_text oc__law_text : Value}
    {od__law_text an__law_text : Option Addr}
    {sl__law_text : Array (Option Value)}
    {kV__law_rules dc__law_rules pm__law_rules cd__law_rules ct__law_rules oc__law_rules : Value}
    {od__law_rules an__law_rules : Option Addr}
    {sl__law_rules : Array (Option Value)}
    {kV__law_quoted dc__law_quoted pm__law_quoted cd__law_quoted ct__law_quoted oc__law_quoted : Value}
    {od__law_quoted an__law_quoted : Option Addr}
    {sl__law_quoted : Array (Option Value)}
    {kV__law_word dc__law_word pm__law_word cd__law_word ct__law_word oc__law_word : Value}
    {od__law_word an__law_word : Option Addr}
    {sl__law_word : Array (Option Value)}
    {kV__law_read dc__law_read pm__law_read cd__law_read ct__law_read oc__law_read : Value}
    {od__law_read an__law_read : Option Addr}
    {sl__law_read : Array (Option Value)}
    {kV__law_said dc__law_said pm__law_said cd__law_said ct__law_said oc__law_said : Value}
    {od__law_said an__law_said : Option Addr}
    {sl__law_said : Array (Option Value)}
    {kV__law_right dc__law_right pm__law_right cd__law_right ct__law_right oc__law_right : Value}
    {od__law_right an__law_right : Option Addr}
    {sl__law_right : Array (Option Value)}
    {kV__law_by_hand_right dc__law_by_hand_right pm__law_by_hand_right cd__law_by_hand_right ct__law_by_hand_right oc__law_by_hand_right : Value}
    {od__law_by_hand_right an__law_by_hand_right : Option Addr}
    {sl__law_by_hand_right : Array (Option Value)}
    {kV_law dc_law pm_law cd_law ct_law oc_law : Value}
    {od_law an_law : Option Addr}
    {sl_law : Array (Option Value)}
    {t_LINE_END : Tok}
    {t0_MOST t1_MOST t2_MOST t3_MOST t4_MOST : Tok}
    {od_MOST : Option Addr}
    {sl_MOST : Array (Option Value)}
    {n_MOST : Nat}
    {t_PLAIN : Tok}
    {t_NOTED : Tok}
    {t_LONGEST : Tok}
    (aC_Rules : PySem.W.nsIn K mainGlobals "Rules" = some (some (.ref C_Rules)))
    (aC_Machine : PySem.W.nsIn K mainGlobals "Machine" = some (some (.ref C_Machine)))
    (aC_Answer : PySem.W.nsIn K mainGlobals "Answer" = some (some (.ref C_Answer)))
    (aC_Words : PySem.W.nsIn K mainGlobals "Words" = some (some (.ref C_Words)))
    (aC_Fault : PySem.W.nsIn K mainGlobals "Fault" = some (some (.ref C_Fault)))
    (a_are_signs : PySem.W.nsIn K mainGlobals "are_signs" = some (some (.ref f_are_signs)))
    (l_are_signs : K.lookup f_are_signs = some ⟨oc_are_signs, od_are_signs, .func (PySem.W.fnOf "are_signs" "are_signs" (defArgs st_are_signs) (defBody st_are_signs) (defScope st_are_signs) .none kV_are_signs dc_are_signs pm_are_signs an_are_signs cd_are_signs ct_are_signs), sl_are_signs⟩)
    (c_are_signs : PySem.W.codeIn K cd_are_signs "are_signs" = true)
    (k_are_signs : PySem.W.keepIn K (.ref f_are_signs) = true)
    (a_Rules_init : PySem.W.findIn K (.ref C_Rules) "__init__" = some (some (.ref f_Rules_init)))
    (i_Rules_init : PySem.W.isFn K (.ref f_Rules_init) = true)
    (l_Rules_init : K.lookup f_Rules_init = some ⟨oc_Rules_init, od_Rules_init, .func (PySem.W.fnOf "__init__" "Rules.__init__" (defArgs st_Rules_init) (defBody st_Rules_init) (defScope st_Rules_init) (.ref T_Rules_init) kV_Rules_init dc_Rules_init pm_Rules_init an_Rules_init cd_Rules_init ct_Rules_init), sl_Rules_init⟩)
    (d_Rules_init : K.lookup T_Rules_init = some ⟨.type "tuple", odT_Rules_init, .seq #[Value.str (" " : Str) t0_Rules_init, Value.str ("'" : Str) t1_Rules_init, Value.str ("\"" : Str) t2_Rules_init, Value.str ("\\" : Str) t3_Rules_init, Value.str ("#" : Str) t4_Rules_init] nT_Rules_init, slT_Rules_init⟩)
    (c_Rules_init : PySem.W.codeIn K cd_Rules_init "Rules.__init__" = true)
    (k_Rules_init : PySem.W.keepIn K (.ref f_Rules_init) = true)
    (a_Rules_told : PySem.W.findIn K (.ref C_Rules) "told" = some (some (.ref f_Rules_told)))
    (i_Rules_told : PySem.W.isFn K (.ref f_Rules_told) = true)
    (l_Rules_told : K.lookup f_Rules_told = some ⟨oc_Rules_told, od_Rules_told, .func (PySem.W.fnOf "told" "Rules.told" (defArgs st_Rules_told) (defBody st_Rules_told) (defScope st_Rules_told) .none kV_Rules_told dc_Rules_told pm_Rules_told an_Rules_told cd_Rules_told ct_Rules_told), sl_Rules_told⟩)
    (c_Rules_told : PySem.W.codeIn K cd_Rules_told "Rules.told" = true)
    (k_Rules_told : PySem.W.keepIn K (.ref f_Rules_told) = true)
    (a_Rules_quotes : PySem.W.findIn K (.ref C_Rules) "quotes" = some (some (.ref f_Rules_quotes)))
    (i_Rules_quotes : PySem.W.isFn K (.ref f_Rules_quotes) = true)
    (l_Rules_quotes : K.lookup f_Rules_quotes = some ⟨oc_Rules_quotes, od_Rules_quotes, .func (PySem.W.fnOf "quotes" "Rules.quotes" (defArgs st_Rules_quotes) (defBody st_Rules_quotes) (defScope st_Rules_quotes) .none kV_Rules_quotes dc_Rules_quotes pm_Rules_quotes an_Rules_quotes cd_Rules_quotes ct_Rules_quotes), sl_Rules_quotes⟩)
    (c_Rules_quotes : PySem.W.codeIn K cd_Rules_quotes "Rules.quotes" = true)
    (k_Rules_quotes : PySem.W.keepIn K (.ref f_Rules_quotes) = true)
    (a_Machine_init : PySem.W.findIn K (.ref C_Machine) "__init__" = some (some (.ref f_Machine_init)))
    (i_Machine_init : PySem.W.isFn K (.ref f_Machine_init) = true)
    (l_Machine_init : K.lookup f_Machine_init = some ⟨oc_Machine_init, od_Machine_init, .func (PySem.W.fnOf "__init__" "Machine.__init__" (defArgs st_Machine_init) (defBody st_Machine_init) (defScope st_Machine_init) .none kV_Machine_init dc_Machine_init pm_Machine_init an_Machine_init cd_Machine_init ct_Machine_init), sl_Machine_init⟩)
    (c_Machine_init : PySem.W.codeIn K cd_Machine_init "Machine.__init__" = true)
    (k_Machine_init : PySem.W.keepIn K (.ref f_Machine_init) = true)
    (a_Machine_begin : PySem.W.findIn K (.ref C_Machine) "begin" = some (some (.ref f_Machine_begin)))
    (i_Machine_begin : PySem.W.isFn K (.ref f_Machine_begin) = true)
    (l_Machine_begin : K.lookup f_Machine_begin = some ⟨oc_Machine_begin, od_Machine_begin, .func (PySem.W.fnOf "begin" "Machine.begin" (defArgs st_Machine_begin) (defBody st_Machine_begin) (defScope st_Machine_begin) .none kV_Machine_begin dc_Machine_begin pm_Machine_begin an_Machine_begin cd_Machine_begin ct_Machine_begin), sl_Machine_begin⟩)
    (c_Machine_begin : PySem.W.codeIn K cd_Machine_begin "Machine.begin" = true)
    (k_Machine_begin : PySem.W.keepIn K (.ref f_Machine_begin) = true)
    (a_Machine_ended : PySem.W.findIn K (.ref C_Machine) "ended" = some (some (.ref f_Machine_ended)))
    (i_Machine_ended : PySem.W.isFn K (.ref f_Machine_ended) = true)
    (l_Machine_ended : K.lookup f_Machine_ended = some ⟨oc_Machine_ended, od_Machine_ended, .func (PySem.W.fnOf "ended" "Machine.ended" (defArgs st_Machine_ended) (defBody st_Machine_ended) (defScope st_Machine_ended) .none kV_Machine_ended dc_Machine_ended pm_Machine_ended an_Machine_ended cd_Machine_ended ct_Machine_ended), sl_Machine_ended⟩)
    (c_Machine_ended : PySem.W.codeIn K cd_Machine_ended "Machine.ended" = true)
    (k_Machine_ended : PySem.W.keepIn K (.ref f_Machine_ended) = true)
    (a_Machine_plain : PySem.W.findIn K (.ref C_Machine) "plain" = some (some (.ref f_Machine_plain)))
    (i_Machine_plain : PySem.W.isFn K (.ref f_Machine_plain) = true)
    (l_Machine_plain : K.lookup f_Machine_plain = some ⟨oc_Machine_plain, od_Machine_plain, .func (PySem.W.fnOf "plain" "Machine.plain" (defArgs st_Machine_plain) (defBody st_Machine_plain) (defScope st_Machine_plain) .none kV_Machine_plain dc_Machine_plain pm_Machine_plain an_Machine_plain cd_Machine_plain ct_Machine_plain), sl_Machine_plain⟩)
    (c_Machine_plain : PySem.W.codeIn K cd_Machine_plain "Machine.plain" = true)
    (k_Machine_plain : PySem.W.keepIn K (.ref f_Machine_plain) = true)
    (a_Machine_quoted : PySem.W.findIn K (.ref C_Machine) "quoted" = some (some (.ref f_Machine_quoted)))
    (i_Machine_quoted : PySem.W.isFn K (.ref f_Machine_quoted) = true)
    (l_Machine_quoted : K.lookup f_Machine_quoted = some ⟨oc_Machine_quoted, od_Machine_quoted, .func (PySem.W.fnOf "quoted" "Machine.quoted" (defArgs st_Machine_quoted) (defBody st_Machine_quoted) (defScope st_Machine_quoted) .none kV_Machine_quoted dc_Machine_quoted pm_Machine_quoted an_Machine_quoted cd_Machine_quoted ct_Machine_quoted), sl_Machine_quoted⟩)
    (c_Machine_quoted : PySem.W.codeIn K cd_Machine_quoted "Machine.quoted" = true)
    (k_Machine_quoted : PySem.W.keepIn K (.ref f_Machine_quoted) = true)
    (a_Machine_step : PySem.W.findIn K (.ref C_Machine) "step" = some (some (.ref f_Machine_step)))
    (i_Machine_step : PySem.W.isFn K (.ref f_Machine_step) = true)
    (l_Machine_step : K.lookup f_Machine_step = some ⟨oc_Machine_step, od_Machine_step, .func (PySem.W.fnOf "step" "Machine.step" (defArgs st_Machine_step) (defBody st_Machine_step) (defScope st_Machine_step) .none kV_Machine_step dc_Machine_step pm_Machine_step an_Machine_step cd_Machine_step ct_Machine_step), sl_Machine_step⟩)
    (c_Machine_step : PySem.W.codeIn K cd_Machine_step "Machine.step" = true)
    (k_Machine_step : PySem.W.keepIn K (.ref f_Machine_step) = true)
    (a_Machine_fault : PySem.W.findIn K (.ref C_Machine) "fault" = some (some (.ref f_Machine_fault)))
    (i_Machine_fault : PySem.W.isFn K (.ref f_Machine_fault) = true)
    (l_Machine_fault : K.lookup f_Machine_fault = some ⟨oc_Machine_fault, od_Machine_fault, .func (PySem.W.fnOf "fault" "Machine.fault" (defArgs st_Machine_fault) (defBody st_Machine_fault) (defScope st_Machine_fault) .none kV_Machine_fault dc_Machine_fault pm_Machine_fault an_Machine_fault cd_Machine_fault ct_Machine_fault), sl_Machine_fault⟩)
    (c_Machine_fault : PySem.W.codeIn K cd_Machine_fault "Machine.fault" = true)
    (k_Machine_fault : PySem.W.keepIn K (.ref f_Machine_fault) = true)
    (a_read_all : PySem.W.nsIn K mainGlobals "read_all" = some (some (.ref f_read_all)))
    (l_read_all : K.lookup f_read_all = some ⟨oc_read_all, od_read_all, .func (PySem.W.fnOf "read_all" "read_all" (defArgs st_read_all) (defBody st_read_all) (defScope st_read_all) .none kV_read_all dc_read_all pm_read_all an_read_all cd_read_all ct_read_all), sl_read_all⟩)
    (c_read_all : PySem.W.codeIn K cd_read_all "read_all" = true)
    (k_read_all : PySem.W.keepIn K (.ref f_read_all) = true)
    (a_Words_init : PySem.W.findIn K (.ref C_Words) "__init__" = some (some (.ref f_Words_init)))
    (i_Words_init : PySem.W.isFn K (.ref f_Words_init) = true)
    (l_Words_init : K.lookup f_Words_init = some ⟨oc_Words_init, od_Words_init, .func (PySem.W.fnOf "__init__" "Words.__init__" (defArgs st_Words_init) (defBody st_Words_init) (defScope st_Words_init) .none kV_Words_init dc_Words_init pm_Words_init an_Words_init cd_Words_init ct_Words_init), sl_Words_init⟩)
    (c_Words_init : PySem.W.codeIn K cd_Words_init "Words.__init__" = true)
    (k_Words_init : PySem.W.keepIn K (.ref f_Words_init) = true)
    (a_Words_shows : PySem.W.findIn K (.ref C_Words) "shows" = some (some (.ref f_Words_shows)))
    (i_Words_shows : PySem.W.isFn K (.ref f_Words_shows) = true)
    (l_Words_shows : K.lookup f_Words_shows = some ⟨oc_Words_shows, od_Words_shows, .func (PySem.W.fnOf "shows" "Words.shows" (defArgs st_Words_shows) (defBody st_Words_shows) (defScope st_Words_shows) .none kV_Words_shows dc_Words_shows pm_Words_shows an_Words_shows cd_Words_shows ct_Words_shows), sl_Words_shows⟩)
    (c_Words_shows : PySem.W.codeIn K cd_Words_shows "Words.shows" = true)
    (k_Words_shows : PySem.W.keepIn K (.ref f_Words_shows) = true)
    (a_Fault_init : PySem.W.findIn K (.ref C_Fault) "__init__" = some (some (.ref f_Fault_init)))
    (i_Fault_init : PySem.W.isFn K (.ref f_Fault_init) = true)
    (l_Fault_init : K.lookup f_Fault_init = some ⟨oc_Fault_init, od_Fault_init, .func (PySem.W.fnOf "__init__" "Fault.__init__" (defArgs st_Fault_init) (defBody st_Fault_init) (defScope st_Fault_init) .none kV_Fault_init dc_Fault_init pm_Fault_init an_Fault_init cd_Fault_init ct_Fault_init), sl_Fault_init⟩)
    (c_Fault_init : PySem.W.codeIn K cd_Fault_init "Fault.__init__" = true)
    (k_Fault_init : PySem.W.keepIn K (.ref f_Fault_init) = true)
    (a_Fault_shows : PySem.W.findIn K (.ref C_Fault) "shows" = some (some (.ref f_Fault_shows)))
    (i_Fault_shows : PySem.W.isFn K (.ref f_Fault_shows) = true)
    (l_Fault_shows : K.lookup f_Fault_shows = some ⟨oc_Fault_shows, od_Fault_shows, .func (PySem.W.fnOf "shows" "Fault.shows" (defArgs st_Fault_shows) (defBody st_Fault_shows) (defScope st_Fault_shows) .none kV_Fault_shows dc_Fault_shows pm_Fault_shows an_Fault_shows cd_Fault_shows ct_Fault_shows), sl_Fault_shows⟩)
    (c_Fault_shows : PySem.W.codeIn K cd_Fault_shows "Fault.shows" = true)
    (k_Fault_shows : PySem.W.keepIn K (.ref f_Fault_shows) = true)
    (a_split : PySem.W.nsIn K mainGlobals "split" = some (some (.ref f_split)))
    (l_split : K.lookup f_split = some ⟨oc_split, od_split, .func (PySem.W.fnOf "split" "split" (defArgs st_split) (defBody st_split) (defScope st_split) .none kV_split dc_split pm_split an_split cd_split ct_split), sl_split⟩)
    (c_split : PySem.W.codeIn K cd_split "split" = true)
    (k_split : PySem.W.keepIn K (.ref f_split) = true)
    (a__law_cell_at : PySem.W.nsIn K mainGlobals "_law_cell_at" = some (some (.ref f__law_cell_at)))
    (l__law_cell_at : K.lookup f__law_cell_at = some ⟨oc__law_cell_at, od__law_cell_at, .func (PySem.W.fnOf "_law_cell_at" "_law_cell_at" (defArgs st__law_cell_at) (defBody st__law_cell_at) (defScope st__law_cell_at) .none kV__law_cell_at dc__law_cell_at pm__law_cell_at an__law_cell_at cd__law_cell_at ct__law_cell_at), sl__law_cell_at⟩)
    (c__law_cell_at : PySem.W.codeIn K cd__law_cell_at "_law_cell_at" = true)
    (k__law_cell_at : PySem.W.keepIn K (.ref f__law_cell_at) = true)
    (a__law_draw : PySem.W.nsIn K mainGlobals "_law_draw" = some (some (.ref f__law_draw)))
    (l__law_draw : K.lookup f__law_draw = some ⟨oc__law_draw, od__law_draw, .func (PySem.W.fnOf "_law_draw" "_law_draw" (defArgs st__law_draw) (defBody st__law_draw) (defScope st__law_draw) .none kV__law_draw dc__law_draw pm__law_draw an__law_draw cd__law_draw ct__law_draw), sl__law_draw⟩)
    (c__law_draw : PySem.W.codeIn K cd__law_draw "_law_draw" = true)
    (k__law_draw : PySem.W.keepIn K (.ref f__law_draw) = true)
    (a__law_number : PySem.W.nsIn K mainGlobals "_law_number" = some (some (.ref f__law_number)))
    (l__law_number : K.lookup f__law_number = some ⟨oc__law_number, od__law_number, .func (PySem.W.fnOf "_law_number" "_law_number" (defArgs st__law_number) (defBody st__law_number) (defScope st__law_number) .none kV__law_number dc__law_number pm__law_number an__law_number cd__law_number ct__law_number), sl__law_number⟩)
    (c__law_number : PySem.W.codeIn K cd__law_number "_law_number" = true)
    (k__law_number : PySem.W.keepIn K (.ref f__law_number) = true)
    (a__law_next : PySem.W.nsIn K mainGlobals "_law_next" = some (some (.ref f__law_next)))
    (l__law_next : K.lookup f__law_next = some ⟨oc__law_next, od__law_next, .func (PySem.W.fnOf "_law_next" "_law_next" (defArgs st__law_next) (defBody st__law_next) (defScope st__law_next) .none kV__law_next dc__law_next pm__law_next an__law_next cd__law_next ct__law_next), sl__law_next⟩)
    (c__law_next : PySem.W.codeIn K cd__law_next "_law_next" = true)
    (k__law_next : PySem.W.keepIn K (.ref f__law_next) = true)
    (a__law_told : PySem.W.nsIn K mainGlobals "_law_told" = some (some (.ref f__law_told)))
    (l__law_told : K.lookup f__law_told = some ⟨oc__law_told, od__law_told, .func (PySem.W.fnOf "_law_told" "_law_told" (defArgs st__law_told) (defBody st__law_told) (defScope st__law_told) .none kV__law_told dc__law_told pm__law_told an__law_told cd__law_told ct__law_told), sl__law_told⟩)
    (c__law_told : PySem.W.codeIn K cd__law_told "_law_told" = true)
    (k__law_told : PySem.W.keepIn K (.ref f__law_told) = true)
    (a__law_text : PySem.W.nsIn K mainGlobals "_law_text" = some (some (.ref f__law_text)))
    (l__law_text : K.lookup f__law_text = some ⟨oc__law_text, od__law_text, .func (PySem.W.fnOf "_law_text" "_law_text" (defArgs st__law_text) (defBody st__law_text) (defScope st__law_text) .none kV__law_text dc__law_text pm__law_text an__law_text cd__law_text ct__law_text), sl__law_text⟩)
    (c__law_text : PySem.W.codeIn K cd__law_text "_law_text" = true)
    (k__law_text : PySem.W.keepIn K (.ref f__law_text) = true)
    (a__law_rules : PySem.W.nsIn K mainGlobals "_law_rules" = some (some (.ref f__law_rules)))
    (l__law_rules : K.lookup f__law_rules = some ⟨oc__law_rules, od__law_rules, .func (PySem.W.fnOf "_law_rules" "_law_rules" (defArgs st__law_rules) (defBody st__law_rules) (defScope st__law_rules) .none kV__law_rules dc__law_rules pm__law_rules an__law_rules cd__law_rules ct__law_rules), sl__law_rules⟩)
    (c__law_rules : PySem.W.codeIn K cd__law_rules "_law_rules" = true)
    (k__law_rules : PySem.W.keepIn K (.ref f__law_rules) = true)
    (a__law_quoted : PySem.W.nsIn K mainGlobals "_law_quoted" = some (some (.ref f__law_quoted)))
    (l__law_quoted : K.lookup f__law_quoted = some ⟨oc__law_quoted, od__law_quoted, .func (PySem.W.fnOf "_law_quoted" "_law_quoted" (defArgs st__law_quoted) (defBody st__law_quoted) (defScope st__law_quoted) .none kV__law_quoted dc__law_quoted pm__law_quoted an__law_quoted cd__law_quoted ct__law_quoted), sl__law_quoted⟩)
    (c__law_quoted : PySem.W.codeIn K cd__law_quoted "_law_quoted" = true)
    (k__law_quoted : PySem.W.keepIn K (.ref f__law_quoted) = true)
    (a__law_word : PySem.W.nsIn K mainGlobals "_law_word" = some (some (.ref f__law_word)))
    (l__law_word : K.lookup f__law_word = some ⟨oc__law_word, od__law_word, .func (PySem.W.fnOf "_law_word" "_law_word" (defArgs st__law_word) (defBody st__law_word) (defScope st__law_word) .none kV__law_word dc__law_word pm__law_word an__law_word cd__law_word ct__law_word), sl__law_word⟩)
    (c__law_word : PySem.W.codeIn K cd__law_word "_law_word" = true)
    (k__law_word : PySem.W.keepIn K (.ref f__law_word) = true)
    (a__law_read : PySem.W.nsIn K mainGlobals "_law_read" = some (some (.ref f__law_read)))
    (l__law_read : K.lookup f__law_read = some ⟨oc__law_read, od__law_read, .func (PySem.W.fnOf "_law_read" "_law_read" (defArgs st__law_read) (defBody st__law_read) (defScope st__law_read) .none kV__law_read dc__law_read pm__law_read an__law_read cd__law_read ct__law_read), sl__law_read⟩)
    (c__law_read : PySem.W.codeIn K cd__law_read "_law_read" = true)
    (k__law_read : PySem.W.keepIn K (.ref f__law_read) = true)
    (a__law_said : PySem.W.nsIn K mainGlobals "_law_said" = some (some (.ref f__law_said)))
    (l__law_said : K.lookup f__law_said = some ⟨oc__law_said, od__law_said, .func (PySem.W.fnOf "_law_said" "_law_said" (defArgs st__law_said) (defBody st__law_said) (defScope st__law_said) .none kV__law_said dc__law_said pm__law_said an__law_said cd__law_said ct__law_said), sl__law_said⟩)
    (c__law_said : PySem.W.codeIn K cd__law_said "_law_said" = true)
    (k__law_said : PySem.W.keepIn K (.ref f__law_said) = true)
    (a__law_right : PySem.W.nsIn K mainGlobals "_law_right" = some (some (.ref f__law_right)))
    (l__law_right : K.lookup f__law_right = some ⟨oc__law_right, od__law_right, .func (PySem.W.fnOf "_law_right" "_law_right" (defArgs st__law_right) (defBody st__law_right) (defScope st__law_right) .none kV__law_right dc__law_right pm__law_right an__law_right cd__law_right ct__law_right), sl__law_right⟩)
    (c__law_right : PySem.W.codeIn K cd__law_right "_law_right" = true)
    (k__law_right : PySem.W.keepIn K (.ref f__law_right) = true)
    (a__law_by_hand_right : PySem.W.nsIn K mainGlobals "_law_by_hand_right" = some (some (.ref f__law_by_hand_right)))
    (l__law_by_hand_right : K.lookup f__law_by_hand_right = some ⟨oc__law_by_hand_right, od__law_by_hand_right, .func (PySem.W.fnOf "_law_by_hand_right" "_law_by_hand_right" (defArgs st__law_by_hand_right) (defBody st__law_by_hand_right) (defScope st__law_by_hand_right) .none kV__law_by_hand_right dc__law_by_hand_right pm__law_by_hand_right an__law_by_hand_right cd__law_by_hand_right ct__law_by_hand_right), sl__law_by_hand_right⟩)
    (c__law_by_hand_right : PySem.W.codeIn K cd__law_by_hand_right "_law_by_hand_right" = true)
    (k__law_by_hand_right : PySem.W.keepIn K (.ref f__law_by_hand_right) = true)
    (a_law : PySem.W.nsIn K mainGlobals "law" = some (some (.ref f_law)))
    (l_law : K.lookup f_law = some ⟨oc_law, od_law, .func (PySem.W.fnOf "law" "law" (defArgs st_law) (defBody st_law) (defScope st_law) .none kV_law dc_law pm_law an_law cd_law ct_law), sl_law⟩)
    (c_law : PySem.W.codeIn K cd_law "law" = true)
    (k_law : PySem.W.keepIn K (.ref f_law) = true)
    (pg_Rules : PySem.W.plainGet K C_Rules Str.empty = true)
    (hd_Rules : PySem.W.hasDictIn K C_Rules = true)
    (po_Rules : PySem.W.plainOver K C_Rules = true)
    (sa_Rules : PySem.W.findIn K (.ref C_Rules) "__setattr__" = some (some (.builtin "object.__setattr__")))
    (mk_Rules : PySem.W.makesIn K C_Rules = true)
    (kc_Rules : PySem.W.keepIn K (.ref C_Rules) = true)
    (n_Rules_breaks : PySem.W.findIn K (.ref C_Rules) "breaks" = some none)
    (n_Rules_hard : PySem.W.findIn K (.ref C_Rules) "hard" = some none)
    (n_Rules_soft : PySem.W.findIn K (.ref C_Rules) "soft" = some none)
    (n_Rules_bend : PySem.W.findIn K (.ref C_Rules) "bend" = some none)
    (n_Rules_note : PySem.W.findIn K (.ref C_Rules) "note" = some none)
    (pg_Machine : PySem.W.plainGet K C_Machine Str.empty = true)
    (hd_Machine : PySem.W.hasDictIn K C_Machine = true)
    (po_Machine : PySem.W.plainOver K C_Machine = true)
    (sa_Machine : PySem.W.findIn K (.ref C_Machine) "__setattr__" = some (some (.builtin "object.__setattr__")))
    (mk_Machine : PySem.W.makesIn K C_Machine = true)
    (kc_Machine : PySem.W.keepIn K (.ref C_Machine) = true)
    (n_Machine_rules : PySem.W.findIn K (.ref C_Machine) "rules" = some none)
    (n_Machine_state : PySem.W.findIn K (.ref C_Machine) "state" = some none)
    (n_Machine_bent : PySem.W.findIn K (.ref C_Machine) "bent" = some none)
    (n_Machine_word : PySem.W.findIn K (.ref C_Machine) "word" = some none)
    (n_Machine_begun : PySem.W.findIn K (.ref C_Machine) "begun" = some none)
    (n_Machine_opened : PySem.W.findIn K (.ref C_Machine) "opened" = some none)
    (n_Machine_place : PySem.W.findIn K (.ref C_Machine) "place" = some none)
    (pg_Words : PySem.W.plainGet K C_Words Str.empty = true)
    (hd_Words : PySem.W.hasDictIn K C_Words = true)
    (po_Words : PySem.W.plainOver K C_Words = true)
    (sa_Words : PySem.W.findIn K (.ref C_Words) "__setattr__" = some (some (.builtin "object.__setattr__")))
    (mk_Words : PySem.W.makesIn K C_Words = true)
    (kc_Words : PySem.W.keepIn K (.ref C_Words) = true)
    (n_Words_words : PySem.W.findIn K (.ref C_Words) "words" = some none)
    (n_Words_places : PySem.W.findIn K (.ref C_Words) "places" = some none)
    (pg_Fault : PySem.W.plainGet K C_Fault Str.empty = true)
    (hd_Fault : PySem.W.hasDictIn K C_Fault = true)
    (po_Fault : PySem.W.plainOver K C_Fault = true)
    (sa_Fault : PySem.W.findIn K (.ref C_Fault) "__setattr__" = some (some (.builtin "object.__setattr__")))
    (mk_Fault : PySem.W.makesIn K C_Fault = true)
    (kc_Fault : PySem.W.keepIn K (.ref C_Fault) = true)
    (n_Fault_place : PySem.W.findIn K (.ref C_Fault) "place" = some none)
    (g_LINE_END : PySem.W.nsIn K mainGlobals "LINE_END" = some (some (Value.str ("\n" : Str) t_LINE_END)))
    (g_MOST : PySem.W.nsIn K mainGlobals "MOST" = some (some (.ref a_MOST)))
    (s_MOST : K.lookup a_MOST = some ⟨.type "tuple", od_MOST, .seq #[.int 4 t0_MOST, .int 2 t1_MOST, .int 2 t2_MOST, .int 1 t3_MOST, .int 1 t4_MOST] n_MOST, sl_MOST⟩)
    (g_PLAIN : PySem.W.nsIn K mainGlobals "PLAIN" = some (some (Value.str ("" : Str) t_PLAIN)))
    (g_NOTED : PySem.W.nsIn K mainGlobals "NOTED" = some (some (Value.str ("note" : Str) t_NOTED)))
    (g_LONGEST : PySem.W.nsIn K mainGlobals "LONGEST" = some (some (Value.int 400 t_LONGEST)))
    (b_isinstance : PySem.W.nsIn K mainGlobals "isinstance" = some none)
    (b_all : PySem.W.nsIn K mainGlobals "all" = some none)
    (b_zip : PySem.W.nsIn K mainGlobals "zip" = some none)
    (b_len : PySem.W.nsIn K mainGlobals "len" = some none)
    (b_set : PySem.W.nsIn K mainGlobals "set" = some none)
    (b_str : PySem.W.nsIn K mainGlobals "str" = some none)
    (b_list : PySem.W.nsIn K mainGlobals "list" = some none)
    (b_range : PySem.W.nsIn K mainGlobals "range" = some none)
    (b_int : PySem.W.nsIn K mainGlobals "int" = some none)
    (b_tuple : PySem.W.nsIn K mainGlobals "tuple" = some none)
    (b_max : PySem.W.nsIn K mainGlobals "max" = some none)
    (b_min : PySem.W.nsIn K mainGlobals "min" = some none)
    (i_Wordsha : PySem.W.findIn K (.ref C_Words) "__class__" = some (some (.builtin "object.__class__")))
    (i_Wordshm : PySem.W.mroIn K C_Words (.type "object") = some true)
    (objGet : PySem.W.specialIn K (.builtin "object.__class__") "__get__" = some (some (.builtin "getset_descriptor.__get__")))
    (objTak : PySem.W.takesIn K (.builtin "object.__class__") = some true)
    (i_Faultha : PySem.W.findIn K (.ref C_Fault) "__class__" = some (some (.builtin "object.__class__")))
    (i_Faulthm : PySem.W.mroIn K C_Fault (.type "object") = some true)
    (m_k_WF : PySem.W.mroIn K C_Words (.ref C_Fault) = some false)
    (ty_Fault : PySem.W.typeIn K (.ref C_Fault) = some (.type "type"))
    (ne_k_WF : (C_Words : Nat) ≠ C_Fault)
    (m_k_WA : PySem.W.mroIn K C_Words (.ref C_Answer) = some true)
    (ty_Answer : PySem.W.typeIn K (.ref C_Answer) = some (.type "type"))
    (hd_Answer : PySem.W.hasDictIn K C_Answer = true)
    (ne_k_WA : (C_Words : Nat) ≠ C_Answer)
    (m_k_FW : PySem.W.mroIn K C_Fault (.ref C_Words) = some false)
    (ty_Words : PySem.W.typeIn K (.ref C_Words) = some (.type "type"))
    (ne_k_FW : (C_Fault : Nat) ≠ C_Words)
    (m_k_FA : PySem.W.mroIn K C_Fault (.ref C_Answer) = some true)
    (ne_k_FA : (C_Fault : Nat) ≠ C_Answer)
    : ∃ fd : FuncData, (∀ (s : Shared) (v : Value), BindsTo s fd ⟨[v], []⟩ [("_law_script", v)]) ∧ ∀ base : Heap, K.In base → base.Ns mainGlobals mg → FnG P w K mg base 8 fa fd ["_law_script"] (sp_law K) := by
  have e := hfa.symm.trans (PySem.W.mg_of X G a_law)
  cases e
  have T : Txt K mg { c_QuoteError := (0 : Nat), c_BadRules := (0 : Nat), c_BadText := (0 : Nat), c_Rules := C_Rules, c_Machine := C_Machine, c_Answer := C_Answer, c_Words := C_Words, c_Fault := C_Fault, f_are_signs := f_are_signs, d_are_signs := PySem.W.fnOf "are_signs" "are_signs" (defArgs st_are_signs) (defBody st_are_signs) (defScope st_are_signs) .none kV_are_signs dc_are_signs pm_are_signs an_are_signs cd_are_signs ct_are_signs, f_Rules_init := f_Rules_init, d_Rules_init := PySem.W.fnOf "__init__" "Rules.__init__" (defArgs st_Rules_init) (defBody st_Rules_init) (defScope st_Rules_init) (.ref T_Rules_init) kV_Rules_init dc_Rules_init pm_Rules_init an_Rules_init cd_Rules_init ct_Rules_init, f_Rules_told := f_Rules_told, d_Rules_told := PySem.W.fnOf "told" "Rules.told" (defArgs st_Rules_told) (defBody st_Rules_told) (defScope st_Rules_told) .none kV_Rules_told dc_Rules_told pm_Rules_told an_Rules_told cd_Rules_told ct_Rules_told, f_Rules_quotes := f_Rules_quotes, d_Rules_quotes := PySem.W.fnOf "quotes" "Rules.quotes" (defArgs st_Rules_quotes) (defBody st_Rules_quotes) (defScope st_Rules_quotes) .none kV_Rules_quotes dc_Rules_quotes pm_Rules_quotes an_Rules_quotes cd_Rules_quotes ct_Rules_quotes, f_Machine_init := f_Machine_init, d_Machine_init := PySem.W.fnOf "__init__" "Machine.__init__" (defArgs st_Machine_init) (defBody st_Machine_init) (defScope st_Machine_init) .none kV_Machine_init dc_Machine_init pm_Machine_init an_Machine_init cd_Machine_init ct_Machine_init, f_Machine_begin := f_Machine_begin, d_Machine_begin := PySem.W.fnOf "begin" "Machine.begin" (defArgs st_Machine_begin) (defBody st_Machine_begin) (defScope st_Machine_begin) .none kV_Machine_begin dc_Machine_begin pm_Machine_begin an_Machine_begin cd_Machine_begin ct_Machine_begin, f_Machine_ended := f_Machine_ended, d_Machine_ended := PySem.W.fnOf "ended" "Machine.ended" (defArgs st_Machine_ended) (defBody st_Machine_ended) (defScope st_Machine_ended) .none kV_Machine_ended dc_Machine_ended pm_Machine_ended an_Machine_ended cd_Machine_ended ct_Machine_ended, f_Machine_plain := f_Machine_plain, d_Machine_plain := PySem.W.fnOf "plain" "Machine.plain" (defArgs st_Machine_plain) (defBody st_Machine_plain) (defScope st_Machine_plain) .none kV_Machine_plain dc_Machine_plain pm_Machine_plain an_Machine_plain cd_Machine_plain ct_Machine_plain, f_Machine_quoted := f_Machine_quoted, d_Machine_quoted := PySem.W.fnOf "quoted" "Machine.quoted" (defArgs st_Machine_quoted) (defBody st_Machine_quoted) (defScope st_Machine_quoted) .none kV_Machine_quoted dc_Machine_quoted pm_Machine_quoted an_Machine_quoted cd_Machine_quoted ct_Machine_quoted, f_Machine_step := f_Machine_step, d_Machine_step := PySem.W.fnOf "step" "Machine.step" (defArgs st_Machine_step) (defBody st_Machine_step) (defScope st_Machine_step) .none kV_Machine_step dc_Machine_step pm_Machine_step an_Machine_step cd_Machine_step ct_Machine_step, f_Machine_fault := f_Machine_fault, d_Machine_fault := PySem.W.fnOf "fault" "Machine.fault" (defArgs st_Machine_fault) (defBody st_Machine_fault) (defScope st_Machine_fault) .none kV_Machine_fault dc_Machine_fault pm_Machine_fault an_Machine_fault cd_Machine_fault ct_Machine_fault, f_read_all := f_read_all, d_read_all := PySem.W.fnOf "read_all" "read_all" (defArgs st_read_all) (defBody st_read_all) (defScope st_read_all) .none kV_read_all dc_read_all pm_read_all an_read_all cd_read_all ct_read_all, f_Words_init := f_Words_init, d_Words_init := PySem.W.fnOf "__init__" "Words.__init__" (defArgs st_Words_init) (defBody st_Words_init) (defScope st_Words_init) .none kV_Words_init dc_Words_init pm_Words_init an_Words_init cd_Words_init ct_Words_init, f_Words_shows := f_Words_shows, d_Words_shows := PySem.W.fnOf "shows" "Words.shows" (defArgs st_Words_shows) (defBody st_Words_shows) (defScope st_Words_shows) .none kV_Words_shows dc_Words_shows pm_Words_shows an_Words_shows cd_Words_shows ct_Words_shows, f_Fault_init := f_Fault_init, d_Fault_init := PySem.W.fnOf "__init__" "Fault.__init__" (defArgs st_Fault_init) (defBody st_Fault_init) (defScope st_Fault_init) .none kV_Fault_init dc_Fault_init pm_Fault_init an_Fault_init cd_Fault_init ct_Fault_init, f_Fault_shows := f_Fault_shows, d_Fault_shows := PySem.W.fnOf "shows" "Fault.shows" (defArgs st_Fault_shows) (defBody st_Fault_shows) (defScope st_Fault_shows) .none kV_Fault_shows dc_Fault_shows pm_Fault_shows an_Fault_shows cd_Fault_shows ct_Fault_shows, f_split := f_split, d_split := PySem.W.fnOf "split" "split" (defArgs st_split) (defBody st_split) (defScope st_split) .none kV_split dc_split pm_split an_split cd_split ct_split, f__law_cell_at := f__law_cell_at, d__law_cell_at := PySem.W.fnOf "_law_cell_at" "_law_cell_at" (defArgs st__law_cell_at) (defBody st__law_cell_at) (defScope st__law_cell_at) .none kV__law_cell_at dc__law_cell_at pm__law_cell_at an__law_cell_at cd__law_cell_at ct__law_cell_at, f__law_draw := f__law_draw, d__law_draw := PySem.W.fnOf "_law_draw" "_law_draw" (defArgs st__law_draw) (defBody st__law_draw) (defScope st__law_draw) .none kV__law_draw dc__law_draw pm__law_draw an__law_draw cd__law_draw ct__law_draw, f__law_number := f__law_number, d__law_number := PySem.W.fnOf "_law_number" "_law_number" (defArgs st__law_number) (defBody st__law_number) (defScope st__law_number) .none kV__law_number dc__law_number pm__law_number an__law_number cd__law_number ct__law_number, f__law_next := f__law_next, d__law_next := PySem.W.fnOf "_law_next" "_law_next" (defArgs st__law_next) (defBody st__law_next) (defScope st__law_next) .none kV__law_next dc__law_next pm__law_next an__law_next cd__law_next ct__law_next, f__law_told := f__law_told, d__law_told := PySem.W.fnOf "_law_told" "_law_told" (defArgs st__law_told) (defBody st__law_told) (defScope st__law_told) .none kV__law_told dc__law_told pm__law_told an__law_told cd__law_told ct__law_told, f__law_text := f__law_text, d__law_text := PySem.W.fnOf "_law_text" "_law_text" (defArgs st__law_text) (defBody st__law_text) (defScope st__law_text) .none kV__law_text dc__law_text pm__law_text an__law_text cd__law_text ct__law_text, f__law_rules := f__law_rules, d__law_rules := PySem.W.fnOf "_law_rules" "_law_rules" (defArgs st__law_rules) (defBody st__law_rules) (defScope st__law_rules) .none kV__law_rules dc__law_rules pm__law_rules an__law_rules cd__law_rules ct__law_rules, f__law_quoted := f__law_quoted, d__law_quoted := PySem.W.fnOf "_law_quoted" "_law_quoted" (defArgs st__law_quoted) (defBody st__law_quoted) (defScope st__law_quoted) .none kV__law_quoted dc__law_quoted pm__law_quoted an__law_quoted cd__law_quoted ct__law_quoted, f__law_word := f__law_word, d__law_word := PySem.W.fnOf "_law_word" "_law_word" (defArgs st__law_word) (defBody st__law_word) (defScope st__law_word) .none kV__law_word dc__law_word pm__law_word an__law_word cd__law_word ct__law_word, f__law_read := f__law_read, d__law_read := PySem.W.fnOf "_law_read" "_law_read" (defArgs st__law_read) (defBody st__law_read) (defScope st__law_read) .none kV__law_read dc__law_read pm__law_read an__law_read cd__law_read ct__law_read, f__law_said := f__law_said, d__law_said := PySem.W.fnOf "_law_said" "_law_said" (defArgs st__law_said) (defBody st__law_said) (defScope st__law_said) .none kV__law_said dc__law_said pm__law_said an__law_said cd__law_said ct__law_said, f__law_right := f__law_right, d__law_right := PySem.W.fnOf "_law_right" "_law_right" (defArgs st__law_right) (defBody st__law_right) (defScope st__law_right) .none kV__law_right dc__law_right pm__law_right an__law_right cd__law_right ct__law_right, f__law_by_hand_right := f__law_by_hand_right, d__law_by_hand_right := PySem.W.fnOf "_law_by_hand_right" "_law_by_hand_right" (defArgs st__law_by_hand_right) (defBody st__law_by_hand_right) (defScope st__law_by_hand_right) .none kV__law_by_hand_right dc__law_by_hand_right pm__law_by_hand_right an__law_by_hand_right cd__law_by_hand_right ct__law_by_hand_right, f_law := fa, d_law := PySem.W.fnOf "law" "law" (defArgs st_law) (defBody st_law) (defScope st_law) .none kV_law dc_law pm_law an_law cd_law ct_law, t_LINE_END := t_LINE_END, a_MOST := a_MOST, t_PLAIN := t_PLAIN, t_NOTED := t_NOTED, t_LONGEST := t_LONGEST } := {
    F_are_signs := fun_mk (st := st_are_signs) l_are_signs c_are_signs k_are_signs,
    f_are_signs := ⟨PySem.W.mg_of X G a_are_signs, k_are_signs⟩,
    F_Rules_init := ⟨⟨_, _, _, _, _, _, _, _, _, _, rfl, l_Rules_init, c_Rules_init, .inr ⟨by decide, T_Rules_init, _, _, _, rfl, d_Rules_init, rfl, .cons ⟨_, rfl⟩ (.cons ⟨_, rfl⟩ (.cons ⟨_, rfl⟩ (.cons ⟨_, rfl⟩ (.cons ⟨_, rfl⟩ (.nil)))))⟩, .inl rfl⟩, k_Rules_init⟩,
    F_Rules_told := fun_mk (st := st_Rules_told) l_Rules_told c_Rules_told k_Rules_told,
    m_Rules_told := ⟨a_Rules_told, i_Rules_told, k_Rules_told⟩,
    F_Rules_quotes := fun_mk (st := st_Rules_quotes) l_Rules_quotes c_Rules_quotes k_Rules_quotes,
    m_Rules_quotes := ⟨a_Rules_quotes, i_Rules_quotes, k_Rules_quotes⟩,
    F_Machine_init := fun_mk (st := st_Machine_init) l_Machine_init c_Machine_init k_Machine_init,
    F_Machine_begin := fun_mk (st := st_Machine_begin) l_Machine_begin c_Machine_begin k_Machine_begin,
    m_Machine_begin := ⟨a_Machine_begin, i_Machine_begin, k_Machine_begin⟩,
    F_Machine_ended := fun_mk (st := st_Machine_ended) l_Machine_ended c_Machine_ended k_Machine_ended,
    m_Machine_ended := ⟨a_Machine_ended, i_Machine_ended, k_Machine_ended⟩,
    F_Machine_plain := fun_mk (st := st_Machine_plain) l_Machine_plain c_Machine_plain k_Machine_plain,
    m_Machine_plain := ⟨a_Machine_plain, i_Machine_plain, k_Machine_plain⟩,
    F_Machine_quoted := fun_mk (st := st_Machine_quoted) l_Machine_quoted c_Machine_quoted k_Machine_quoted,
    m_Machine_quoted := ⟨a_Machine_quoted, i_Machine_quoted, k_Machine_quoted⟩,
    F_Machine_step := fun_mk (st := st_Machine_step) l_Machine_step c_Machine_step k_Machine_step,
    m_Machine_step := ⟨a_Machine_step, i_Machine_step, k_Machine_step⟩,
    F_Machine_fault := fun_mk (st := st_Machine_fault) l_Machine_fault c_Machine_fault k_Machine_fault,
    m_Machine_fault := ⟨a_Machine_fault, i_Machine_fault, k_Machine_fault⟩,
    F_read_all := fun_mk (st := st_read_all) l_read_all c_read_all k_read_all,
    f_read_all := ⟨PySem.W.mg_of X G a_read_all, k_read_all⟩,
    F_Words_init := fun_mk (st := st_Words_init) l_Words_init c_Words_init k_Words_init,
    F_Words_shows := fun_mk (st := st_Words_shows) l_Words_shows c_Words_shows k_Words_shows,
    m_Words_shows := ⟨a_Words_shows, i_Words_shows, k_Words_shows⟩,
    F_Fault_init := fun_mk (st := st_Fault_init) l_Fault_init c_Fault_init k_Fault_init,
    F_Fault_shows := fun_mk (st := st_Fault_shows) l_Fault_shows c_Fault_shows k_Fault_shows,
    m_Fault_shows := ⟨a_Fault_shows, i_Fault_shows, k_Fault_shows⟩,
    F_split := fun_mk (st := st_split) l_split c_split k_split,
    f_split := ⟨PySem.W.mg_of X G a_split, k_split⟩,
    F__law_cell_at := fun_mk (st := st__law_cell_at) l__law_cell_at c__law_cell_at k__law_cell_at,
    f__law_cell_at := ⟨PySem.W.mg_of X G a__law_cell_at, k__law_cell_at⟩,
    F__law_draw := fun_mk (st := st__law_draw) l__law_draw c__law_draw k__law_draw,
    f__law_draw := ⟨PySem.W.mg_of X G a__law_draw, k__law_draw⟩,
    F__law_number := fun_mk (st := st__law_number) l__law_number c__law_number k__law_number,
    f__law_number := ⟨PySem.W.mg_of X G a__law_number, k__law_number⟩,
    F__law_next := fun_mk (st := st__law_next) l__law_next c__law_next k__law_next,
    f__law_next := ⟨PySem.W.mg_of X G a__law_next, k__law_next⟩,
    F__law_told := fun_mk (st := st__law_told) l__law_told c__law_told k__law_told,
    f__law_told := ⟨PySem.W.mg_of X G a__law_told, k__law_told⟩,
    F__law_text := fun_mk (st := st__law_text) l__law_text c__law_text k__law_text,
    f__law_text := ⟨PySem.W.mg_of X G a__law_text, k__law_text⟩,
    F__law_rules := fun_mk (st := st__law_rules) l__law_rules c__law_rules k__law_rules,
    f__law_rules := ⟨PySem.W.mg_of X G a__law_rules, k__law_rules⟩,
    F__law_quoted := fun_mk (st := st__law_quoted) l__law_quoted c__law_quoted k__law_quoted,
    f__law_quoted := ⟨PySem.W.mg_of X G a__law_quoted, k__law_quoted⟩,
    F__law_word := fun_mk (st := st__law_word) l__law_word c__law_word k__law_word,
    f__law_word := ⟨PySem.W.mg_of X G a__law_word, k__law_word⟩,
    F__law_read := fun_mk (st := st__law_read) l__law_read c__law_read k__law_read,
    f__law_read := ⟨PySem.W.mg_of X G a__law_read, k__law_read⟩,
    F__law_said := fun_mk (st := st__law_said) l__law_said c__law_said k__law_said,
    f__law_said := ⟨PySem.W.mg_of X G a__law_said, k__law_said⟩,
    F__law_right := fun_mk (st := st__law_right) l__law_right c__law_right k__law_right,
    f__law_right := ⟨PySem.W.mg_of X G a__law_right, k__law_right⟩,
    F__law_by_hand_right := fun_mk (st := st__law_by_hand_right) l__law_by_hand_right c__law_by_hand_right k__law_by_hand_right,
    f__law_by_hand_right := ⟨PySem.W.mg_of X G a__law_by_hand_right, k__law_by_hand_right⟩,
    F_law := fun_mk (st := st_law) l_law c_law k_law,
    f_law := ⟨PySem.W.mg_of X G a_law, k_law⟩,
    c_Rules := ⟨PySem.W.mg_of X G aC_Rules, ⟨pg_Rules, hd_Rules, po_Rules, sa_Rules⟩, ⟨mk_Rules, a_Rules_init, i_Rules_init, kc_Rules⟩⟩,
    n_Rules_breaks := n_Rules_breaks,
    n_Rules_hard := n_Rules_hard,
    n_Rules_soft := n_Rules_soft,
    n_Rules_bend := n_Rules_bend,
    n_Rules_note := n_Rules_note,
    c_Machine := ⟨PySem.W.mg_of X G aC_Machine, ⟨pg_Machine, hd_Machine, po_Machine, sa_Machine⟩, ⟨mk_Machine, a_Machine_init, i_Machine_init, kc_Machine⟩⟩,
    n_Machine_rules := n_Machine_rules,
    n_Machine_state := n_Machine_state,
    n_Machine_bent := n_Machine_bent,
    n_Machine_word := n_Machine_word,
    n_Machine_begun := n_Machine_begun,
    n_Machine_opened := n_Machine_opened,
    n_Machine_place := n_Machine_place,
    c_Words := ⟨PySem.W.mg_of X G aC_Words, ⟨pg_Words, hd_Words, po_Words, sa_Words⟩, ⟨mk_Words, a_Words_init, i_Words_init, kc_Words⟩⟩,
    n_Words_words := n_Words_words,
    n_Words_places := n_Words_places,
    c_Fault := ⟨PySem.W.mg_of X G aC_Fault, ⟨pg_Fault, hd_Fault, po_Fault, sa_Fault⟩, ⟨mk_Fault, a_Fault_init, i_Fault_init, kc_Fault⟩⟩,
    n_Fault_place := n_Fault_place,
    g_LINE_END := PySem.W.mg_of X G g_LINE_END,
    g_MOST := PySem.W.mg_of X G g_MOST,
    s_MOST := fun H => .inr ⟨_, _, _, s_MOST, rfl, rfl, (show 5 ≤ sizeLine by decide), .cons ⟨_, rfl⟩ (.cons ⟨_, rfl⟩ (.cons ⟨_, rfl⟩ (.cons ⟨_, rfl⟩ (.cons ⟨_, rfl⟩ (.nil)))))⟩,
    g_PLAIN := PySem.W.mg_of X G g_PLAIN,
    g_NOTED := PySem.W.mg_of X G g_NOTED,
    g_LONGEST := PySem.W.mg_of X G g_LONGEST,
    b_isinstance := PySem.W.mg_none_of X G b_isinstance,
    b_all := PySem.W.mg_none_of X G b_all,
    b_zip := PySem.W.mg_none_of X G b_zip,
    b_len := PySem.W.mg_none_of X G b_len,
    b_set := PySem.W.mg_none_of X G b_set,
    b_str := PySem.W.mg_none_of X G b_str,
    b_list := PySem.W.mg_none_of X G b_list,
    b_range := PySem.W.mg_none_of X G b_range,
    b_int := PySem.W.mg_none_of X G b_int,
    b_tuple := PySem.W.mg_none_of X G b_tuple,
    b_max := PySem.W.mg_none_of X G b_max,
    b_min := PySem.W.mg_none_of X G b_min,
    c_Answer := ⟨PySem.W.mg_of X G aC_Answer⟩,
    i_Words := ⟨i_Wordsha, objGet, objTak, i_Wordshm⟩,
    i_Fault := ⟨i_Faultha, objGet, objTak, i_Faulthm⟩,
    k_WW := if_pos (beq_self_eq_true _),
    k_WF := kit_own ne_k_WF hd_Fault ty_Fault m_k_WF,
    k_WA := kit_own ne_k_WA hd_Answer ty_Answer m_k_WA,
    k_FF := if_pos (beq_self_eq_true _),
    k_FW := kit_own ne_k_FW hd_Words ty_Words m_k_FW,
    k_FA := kit_own ne_k_FA hd_Answer ty_Answer m_k_FA }
  exact ⟨_, fun s v => .of_eq rfl, fun base _ _ => ok_law T⟩
theorem walk {l : PySem.W.OpenLaw} {q : Program} {loose : List Str} {XP : (Str → Option Value) → Heap → Prop} {YP : World → Heap → Prop} {d : DefRec} {K : Params → PySem.W.Frag} (hn : l.most = some 63)
    (hdf : d.params.defaults = []) (hY : ∀ (w : World) (h : Heap), YP w h → (K w.params).In h)
    (F : ∀ (w : World) (mg : Str → Option Value) (fa : Addr) (h : Heap), (K w.params).In h → h.Ns mainGlobals mg → mg d.name = some (.ref fa) →
      ∃ fd : FuncData, (∀ (s : Shared) (v : Value), BindsTo s fd ⟨[v], []⟩ [("_law_script", v)]) ∧ ∀ base : Heap, (K w.params).In base → base.Ns mainGlobals mg → FnG l.prog w (K w.params) mg base 8 fa fd ["_law_script"] (sp_law (K w.params))) :
    PySem.W.WalkO q loose XP YP l.row.toRowW d [] (fun f vs => PySem.call f vs) :=
  walk_ofG (n := 63) (k := 8) (x := "_law_script") hn (by decide) hdf ⟨rfl, by decide, by decide⟩ fun w mg fa h Y G hm => by
    obtain ⟨fd, h1, h2⟩ := F w mg fa h (hY w h Y) G hm
    exact ⟨K w.params, fd, sp_law _, hY w h Y, h1, fun H a ns hl _ hO hS => ⟨ns, a, rfl, hO, hS, hl, fun _ => rfl⟩, h2⟩
end Qw

set_option Elab.async false
set_option linter.all false
set_option maxRecDepth 100000
open PySem PySem.W PyProof.Rows
set_option pp.maxSteps 300
set_option pp.deepTerms false
set_option maxHeartbeats 0 in
theorem PySem.Challenge.cw_quotewords_k01_whole_split_holds : PySem.Challenge.rw_quotewords_k01_whole_split.Holds := by
  w_on; o_law; k_head; (case hw => w_witness2)
  k_fill
  refine Qw.walk (l := PySem.Challenge.rw_quotewords_k01_whole_split) rfl rfl (fun w h Y => PySem.W.kIn_of Y) ?F
  case F =>
    intro w mg fa h KX G hmg
    refine' Qw.all_mk (P := PySem.Challenge.rw_quotewords_k01_whole_split.prog) KX G hmg ?aC_Rules ?aC_Machine ?aC_Answer ?aC_Words ?aC_Fault ?a_are_signs ?l_are_signs ?c_are_signs ?k_are_signs ?a_Rules_init ?i_Rules_init ?l_Rules_init ?d_Rules_init ?c_Rules_init ?k_Rules_init ?a_Rules_told ?i_Rules_told ?l_Rules_told ?c_Rules_told ?k_Rules_told ?a_Rules_quotes ?i_Rules_quotes ?l_Rules_quotes ?c_Rules_quotes ?k_Rules_quotes ?a_Machine_init ?i_Machine_init ?l_Machine_init ?c_Machine_init ?k_Machine_init ?a_Machine_begin ?i_Machine_begin ?l_Machine_begin ?c_Machine_begin ?k_Machine_begin ?a_Machine_ended ?i_Machine_ended ?l_Machine_ended ?c_Machine_ended ?k_Machine_ended ?a_Machine_plain ?i_Machine_plain ?l_Machine_plain ?c_Machine_plain ?k_Machine_plain ?a_Machine_quoted ?i_Machine_quoted ?l_Machine_quoted ?c_Machine_quoted ?k_Machine_quoted ?a_Machine_step ?i_Machine_step ?l_Machine_step ?c_Machine_step ?k_Machine_step ?a_Machine_fault ?i_Machine_fault ?l_Machine_fault ?c_Machine_fault ?k_Machine_fault ?a_read_all ?l_read_all ?c_read_all ?k_read_all ?a_Words_init ?i_Words_init ?l_Words_init ?c_Words_init ?k_Words_init ?a_Words_shows ?i_Words_shows ?l_Words_shows ?c_Words_shows ?k_Words_shows ?a_Fault_init ?i_Fault_init ?l_Fault_init ?c_Fault_init ?k_Fault_init ?a_Fault_shows ?i_Fault_shows ?l_Fault_shows ?c_Fault_shows ?k_Fault_shows ?a_split ?l_split ?c_split ?k_split ?a__law_cell_at ?l__law_cell_at ?c__law_cell_at ?k__law_cell_at ?a__law_draw ?l__law_draw ?c__law_draw ?k__law_draw ?a__law_number ?l__law_number ?c__law_number ?k__law_number ?a__law_next ?l__law_next ?c__law_next ?k__law_next ?a__law_told ?l__law_told ?c__law_told ?k__law_told ?a__law_text ?l__law_text ?c__law_text ?k__law_text ?a__law_rules ?l__law_rules ?c__law_rules ?k__law_rules ?a__law_quoted ?l__law_quoted ?c__law_quoted ?k__law_quoted ?a__law_word ?l__law_word ?c__law_word ?k__law_word ?a__law_read ?l__law_read ?c__law_read ?k__law_read ?a__law_said ?l__law_said ?c__law_said ?k__law_said ?a__law_right ?l__law_right ?c__law_right ?k__law_right ?a__law_by_hand_right ?l__law_by_hand_right ?c__law_by_hand_right ?k__law_by_hand_right ?a_law ?l_law ?c_law ?k_law ?pg_Rules ?hd_Rules ?po_Rules ?sa_Rules ?mk_Rules ?kc_Rules ?n_Rules_breaks ?n_Rules_hard ?n_Rules_soft ?n_Rules_bend ?n_Rules_note ?pg_Machine ?hd_Machine ?po_Machine ?sa_Machine ?mk_Machine ?kc_Machine ?n_Machine_rules ?n_Machine_state ?n_Machine_bent ?n_Machine_word ?n_Machine_begun ?n_Machine_opened ?n_Machine_place ?pg_Words ?hd_Words ?po_Words ?sa_Words ?mk_Words ?kc_Words ?n_Words_words ?n_Words_places ?pg_Fault ?hd_Fault ?po_Fault ?sa_Fault ?mk_Fault ?kc_Fault ?n_Fault_place ?g_LINE_END ?g_MOST ?s_MOST ?g_PLAIN ?g_NOTED ?g_LONGEST ?b_isinstance ?b_all ?b_zip ?b_len ?b_set ?b_str ?b_list ?b_range ?b_int ?b_tuple ?b_max ?b_min ?i_Wordsha ?i_Wordshm ?objGet ?objTak ?i_Faultha ?i_Faulthm ?m_k_WF ?ty_Fault ?ne_k_WF ?m_k_WA ?ty_Answer ?hd_Answer ?ne_k_WA ?m_k_FW ?ty_Words ?ne_k_FW ?m_k_FA ?ne_k_FA
    (case aC_Rules => k_is)
    (case aC_Machine => k_is)
    (case aC_Answer => k_is)
    (case aC_Words => k_is)
    (case aC_Fault => k_is)
    (case a_are_signs => k_is)
    (case l_are_signs => k_is)
    (case c_are_signs => k_is)
    (case k_are_signs => k_is)
    (case a_Rules_init => k_is)
    (case i_Rules_init => k_is)
    (case l_Rules_init => k_is)
    (case d_Rules_init => k_is)
    (case c_Rules_init => k_is)
    (case k_Rules_init => k_is)
    (case a_Rules_told => k_is)
    (case i_Rules_told => k_is)
    (case l_Rules_told => k_is)
    (case c_Rules_told => k_is)
    (case k_Rules_told => k_is)
    (case a_Rules_quotes => k_is)
    (case i_Rules_quotes => k_is)
    (case l_Rules_quotes => k_is)
    (case c_Rules_quotes => k_is)
    (case k_Rules_quotes => k_is)
    (case a_Machine_init => k_is)
    (case i_Machine_init => k_is)
    (case l_Machine_init => k_is)
    (case c_Machine_init => k_is)
    (case k_Machine_init => k_is)
    (case a_Machine_begin => k_is)
    (case i_Machine_begin => k_is)
    (case l_Machine_begin => k_is)
    (case c_Machine_begin => k_is)
    (case k_Machine_begin => k_is)
    (case a_Machine_ended => k_is)
    (case i_Machine_ended => k_is)
    (case l_Machine_ended => k_is)
    (case c_Machine_ended => k_is)
    (case k_Machine_ended => k_is)
    (case a_Machine_plain => k_is)
    (case i_Machine_plain => k_is)
    (case l_Machine_plain => k_is)
    (case c_Machine_plain => k_is)
    (case k_Machine_plain => k_is)
    (case a_Machine_quoted => k_is)
    (case i_Machine_quoted => k_is)
    (case l_Machine_quoted => k_is)
    (case c_Machine_quoted => k_is)
    (case k_Machine_quoted => k_is)
    (case a_Machine_step => k_is)
    (case i_Machine_step => k_is)
    (case l_Machine_step => k_is)
    (case c_Machine_step => k_is)
    (case k_Machine_step => k_is)
    (case a_Machine_fault => k_is)
    (case i_Machine_fault => k_is)
    (case l_Machine_fault => k_is)
    (case c_Machine_fault => k_is)
    (case k_Machine_fault => k_is)
    (case a_read_all => k_is)
    (case l_read_all => k_is)
    (case c_read_all => k_is)
    (case k_read_all => k_is)
    (case a_Words_init => k_is)
    (case i_Words_init => k_is)
    (case l_Words_init => k_is)
    (case c_Words_init => k_is)
    (case k_Words_init => k_is)
    (case a_Words_shows => k_is)
    (case i_Words_shows => k_is)
    (case l_Words_shows => k_is)
    (case c_Words_shows => k_is)
    (case k_Words_shows => k_is)
    (case a_Fault_init => k_is)
    (case i_Fault_init => k_is)
    (case l_Fault_init => k_is)
    (case c_Fault_init => k_is)
    (case k_Fault_init => k_is)
    (case a_Fault_shows => k_is)
    (case i_Fault_shows => k_is)
    (case l_Fault_shows => k_is)
    (case c_Fault_shows => k_is)
    (case k_Fault_shows => k_is)
    (case a_split => k_is)
    (case l_split => k_is)
    (case c_split => k_is)
    (case k_split => k_is)
    (case a__law_cell_at => k_is)
    (case l__law_cell_at => k_is)
    (case c__law_cell_at => k_is)
    (case k__law_cell_at => k_is)
    (case a__law_draw => k_is)
    (case l__law_draw => k_is)
    (case c__law_draw => k_is)
    (case k__law_draw => k_is)
    (case a__law_number => k_is)
    (case l__law_number => k_is)
    (case c__law_number => k_is)
    (case k__law_number => k_is)
    (case a__law_next => k_is)
    (case l__law_next => k_is)
    (case c__law_next => k_is)
    (case k__law_next => k_is)
    (case a__law_told => k_is)
    (case l__law_told => k_is)
    (case c__law_told => k_is)
    (case k__law_told => k_is)
    (case a__law_text => k_is)
    (case l__law_text => k_is)
    (case c__law_text => k_is)
    (case k__law_text => k_is)
    (case a__law_rules => k_is)
    (case l__law_rules => k_is)
    (case c__law_rules => k_is)
    (case k__law_rules => k_is)
    (case a__law_quoted => k_is)
    (case l__law_quoted => k_is)
    (case c__law_quoted => k_is)
    (case k__law_quoted => k_is)
    (case a__law_word => k_is)
    (case l__law_word => k_is)
    (case c__law_word => k_is)
    (case k__law_word => k_is)
    (case a__law_read => k_is)
    (case l__law_read => k_is)
    (case c__law_read => k_is)
    (case k__law_read => k_is)
    (case a__law_said => k_is)
    (case l__law_said => k_is)
    (case c__law_said => k_is)
    (case k__law_said => k_is)
    (case a__law_right => k_is)
    (case l__law_right => k_is)
    (case c__law_right => k_is)
    (case k__law_right => k_is)
    (case a__law_by_hand_right => k_is)
    (case l__law_by_hand_right => k_is)
    (case c__law_by_hand_right => k_is)
    (case k__law_by_hand_right => k_is)
    (case a_law => k_is)
    (case l_law => k_is)
    (case c_law => k_is)
    (case k_law => k_is)
    (case pg_Rules => k_is)
    (case hd_Rules => k_is)
    (case po_Rules => k_is)
    (case sa_Rules => k_is)
    (case mk_Rules => k_is)
    (case kc_Rules => k_is)
    (case n_Rules_breaks => k_is)
    (case n_Rules_hard => k_is)
    (case n_Rules_soft => k_is)
    (case n_Rules_bend => k_is)
    (case n_Rules_note => k_is)
    (case pg_Machine => k_is)
    (case hd_Machine => k_is)
    (case po_Machine => k_is)
    (case sa_Machine => k_is)
    (case mk_Machine => k_is)
    (case kc_Machine => k_is)
    (case n_Machine_rules => k_is)
    (case n_Machine_state => k_is)
    (case n_Machine_bent => k_is)
    (case n_Machine_word => k_is)
    (case n_Machine_begun => k_is)
    (case n_Machine_opened => k_is)
    (case n_Machine_place => k_is)
    (case pg_Words => k_is)
    (case hd_Words => k_is)
    (case po_Words => k_is)
    (case sa_Words => k_is)
    (case mk_Words => k_is)
    (case kc_Words => k_is)
    (case n_Words_words => k_is)
    (case n_Words_places => k_is)
    (case pg_Fault => k_is)
    (case hd_Fault => k_is)
    (case po_Fault => k_is)
    (case sa_Fault => k_is)
    (case mk_Fault => k_is)
    (case kc_Fault => k_is)
    (case n_Fault_place => k_is)
    (case g_LINE_END => k_is)
    (case g_MOST => k_is)
    (case s_MOST => k_is)
    (case g_PLAIN => k_is)
    (case g_NOTED => k_is)
    (case g_LONGEST => k_is)
    (case b_isinstance => k_is)
    (case b_all => k_is)
    (case b_zip => k_is)
    (case b_len => k_is)
    (case b_set => k_is)
    (case b_str => k_is)
    (case b_list => k_is)
    (case b_range => k_is)
    (case b_int => k_is)
    (case b_tuple => k_is)
    (case b_max => k_is)
    (case b_min => k_is)
    (case i_Wordsha => k_is)
    (case i_Wordshm => k_is)
    (case objGet => k_is)
    (case objTak => k_is)
    (case i_Faultha => k_is)
    (case i_Faulthm => k_is)
    (case m_k_WF => k_is)
    (case ty_Fault => k_is)
    (case ne_k_WF => decide)
    (case m_k_WA => k_is)
    (case ty_Answer => k_is)
    (case hd_Answer => k_is)
    (case ne_k_WA => decide)
    (case m_k_FW => k_is)
    (case ty_Words => k_is)
    (case ne_k_FW => decide)
    (case m_k_FA => k_is)
    (case ne_k_FA => decide)

