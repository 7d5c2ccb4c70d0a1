import PyProof.Rows.All
import Wide.All
import OpenK.AllK
import Wide.FinOn
import HandS.ForMost
import HandS.Style
import HandS.TupAny
import HandS.IsInst
import HandS.Steps
import HandS.Walk
import HandS.Zip
import HandS.StrMore
import HandS.Defaults
import HandS.Flow
import PySem.Challenge.RW_quotewords_k03_whole_shortest
import HandS.ForExc
import HandS.ExcInit
import HandS.ExcField
import HandS.ExcIs
import HandS.EndBits
import HandS.HeadEnd
import PyProof.StrLawsFrom
import HandS.Conv
import PyProof.ListStr
import PyProof.StrOps2
import PyProof.SliceStr2
import KE.KRevSl
import KE.GoesZip
import KE.GoesMore
import KE.DataMinMax
import KE.DataFind
import KE.KExcIs
set_option Elab.async false
set_option linter.all false
set_option maxRecDepth 100000
set_option maxHeartbeats 4000000
namespace Qw
open PySem L2

/-! ### texts as lists of codes -/
abbrev Tx := List Nat
def S (l : Tx) : Str := ⟨l.toArray⟩
theorem S_tl (l : Tx) : (S l).cps.toList = l := rfl
theorem S_size (l : Tx) : (S l).cps.size = l.length := by simp [S]
theorem S_len (l : Tx) : (S l).length = l.length := by simp [S, Str.length]
theorem S_of (x : Str) : S x.cps.toList = x := by cases x; simp [S]
theorem S_app (a b : Tx) : S a ++ S b = S (a ++ b) := by
  show Str.append (S a) (S b) = _
  simp [S, Str.append]
theorem S_inj {a b : Tx} : S a = S b ↔ a = b := by
  constructor
  · intro h
    have := congrArg (fun x : Str => x.cps.toList) h
    simpa [S] using this
  · intro h; rw [h]
theorem S_beq (x y : Tx) : (S x == S y) = decide (x = y) := by
  by_cases h : x = y
  · subst h; simp
  · simp [h, S_inj]
theorem scal_ss (x y : Str) : scal (.str x) (.str y) = true := rfl
theorem scal_ii (x y : Int) : scal (.int x) (.int y) = true := rfl
theorem scal_bb (x y : Bool) : scal (.bl x) (.bl y) = true := rfl
theorem scal_nn : scal .non .non = true := rfl
theorem scal_in (x : Int) : scal (.int x) .non = true := rfl
theorem scal_ni (x : Int) : scal .non (.int x) = true := rfl
theorem S_one (c : Nat) : (⟨#[c]⟩ : Str) = S [c] := rfl

/-! ### heaps: what is kept -/
/-- all that was tracked, but at p, is as it was -/
def Kp (p : Addr) (H H' : Hp) : Prop := ∀ b o, H b = some o → b ≠ p → H' b = some o
theorem _root_.L2.Same.kp {H H' : Hp} (p : Addr) (h : Same H H') : Kp p H H' := fun b o e _ => h b o e
theorem Kp.trans {p : Addr} {H H1 H2 : Hp} (a : Kp p H H1) (b : Kp p H1 H2) : Kp p H H2 := fun c o e n => b c o (a c o e n) n
theorem same_new {H : Hp} {p : Addr} {o : HO} (h : H p = none) : Same H (upd H p o) := fun b u e => by
  rw [upd_ne (ne_of_none e h)]; exact e
theorem _root_.L2.Same.mut {H H' : Hp} {p : Addr} {o : HO} (e : Same H H') (h : H p = none) : Same H (upd H' p o) := fun a u ha => by
  rw [upd_ne (ne_of_none ha h)]; exact e a u ha
theorem kp_upd {H : Hp} {p : Addr} {o : HO} : Kp p H (upd H p o) := fun b u e n => by rw [upd_ne n]; exact e
theorem Kp.upd {p : Addr} {H H' : Hp} {o : HO} (a : Kp p H H') : Kp p H (L2.upd H' p o) := a.trans kp_upd
/-- the tuples stay -/
def Tk (H H' : Hp) : Prop := ∀ b xs, H b = some (.tup xs) → H' b = some (.tup xs)
theorem Tk.refl (H : Hp) : Tk H H := fun _ _ h => h
theorem Tk.trans {H H1 H2 : Hp} (a : Tk H H1) (b : Tk H1 H2) : Tk H H2 := fun c o e => b c o (a c o e)
theorem _root_.L2.Same.tk {H H' : Hp} (h : Same H H') : Tk H H' := fun b xs e => h b _ e
theorem Kp.tk {p : Addr} {H H' : Hp} (h : Kp p H H') {o : HO} (e : H p = some o) (no : ∀ xs, o ≠ .tup xs) : Tk H H' := fun b xs q => by
  refine h b _ q fun z => ?_
  subst z; rw [e] at q; exact no xs (Option.some.inj q)
theorem upd_old {H : Hp} {p q : Addr} {o u : HO} (h : H p = some o) (n : H q = none) : upd H q u p = some o := by
  rw [upd_ne (ne_of_none h n)]; exact h
theorem upd_old' {H : Hp} {p q : Addr} {o u : HO} (h : H p = some o) (n : p ≠ q) : upd H q u p = some o := by
  rw [upd_ne n]; exact h
theorem none_upd {H : Hp} {p q : Addr} {o : HO} (h : upd H p o q = none) : H q = none := by
  unfold upd at h; split at h
  · cases h
  · exact h
theorem none_upd' {H : Hp} {p q : Addr} {o : HO} (h : upd H p o q = none) (_ : q ≠ p) : H q = none := none_upd h
theorem ne_upd {H : Hp} {p q : Addr} {o : HO} (h : upd H p o q = none) : q ≠ p := by
  rintro rfl; rw [upd_same] at h; cases h

theorem small_line {n : Nat} (h : n ≤ 1000000) : (n ≤ sizeLine) = True := eq_true (Nat.le_trans h (by decide))
theorem small_lt {n : Nat} (h : n < 1000000) : (n < sizeLine) = True := eq_true (Nat.lt_of_lt_of_le h (by decide))
theorem pl2 {f : Str} {v : V} {fs : List (Str × V)} {k n : Nat} (h : fs.length + (k + 1) < n) : (putF f v fs).length + k < n := by have := length_putF f v fs; omega
end Qw

set_option Elab.async false
set_option linter.all false
set_option maxRecDepth 100000
set_option maxHeartbeats 4000000
namespace Qw
open PySem L2
theorem take_at {α : Type} : ∀ {l : List α} {i : Nat} {x : α}, l[i]? = some x → l.take (i + 1) = l.take i ++ [x]
  | [], i, x, h => by simp at h
  | a :: l, 0, x, h => by
    cases (Option.some.inj h : a = x)
    rfl
  | a :: l, i + 1, x, h => by
    have ih := take_at (l := l) (i := i) (x := x) h
    simp only [List.take_succ_cons, List.cons_append, List.cons.injEq, true_and]
    exact ih
/-- a comprehension that maps: each turn gives F of the i-th of as, and changes nothing that was there -/
theorem lc_map {α : Type} {J : It} {G : Hp → Prop} {Y : Nat → Hp → V → Hp → Prop} {g : TG} {tt : TT} {te : TE} {vs : List Nat} {σ : St} {H1 : Hp} {D : Addr} {Qd : Hp → Prop}
    (as : List α) (F : α → V) (w : Walk J as.length G Y) (hz : as.length ≤ 1000000) (h1 : H1 D = none) (hG : ∀ H, Same H1 H → G H)
    (hs : ∀ (R : VK) (R' : Hp → Prop) i a x H H', as[i]? = some a → Same H1 H → Y i H x H' → (∀ H4, Same H H4 → R (F a) H4) →
      g x (wipe σ vs) H' fun σ2 H2 => wipe σ2 vs = wipe σ vs ∧ tt σ2 H2 fun b H3 => if b = true then te σ2 H3 R else R' H3)
    (hd : ∀ H, Same H1 H → H D = some (.lst (as.map F)) → Qd H) :
    ∃ W : Nat → Nat → Hp → Prop, (∃ m, W 0 m (upd H1 D (.lst []))) ∧ ∀ i m H, W i m H →
      (J.stop i H ∧ Qd H) ∨ (J.go i H ∧ ∃ Nx : Hp → Prop, (∀ H', Nx H' → ∃ m', m' < m ∧ W (i + 1) m' H') ∧ ∀ x H', J.yld i H x H' → g x (wipe σ vs) H' fun σ2 H2 => wipe σ2 vs = wipe σ vs ∧ tt σ2 H2 fun b H3 =>
        if b = true then te σ2 H3 fun y H4 => ∃ acc, H4 D = some (.lst acc) ∧ acc.length < sizeLine ∧ Nx (upd H4 D (.lst (acc ++ [y]))) else Nx H3) := by
  refine lc_it w (fun i H => Same H1 H ∧ H D = some (.lst ((as.take i).map F))) ⟨same_new h1, upd_same⟩ (fun _ H _ p => hG H p.1) ?_ fun H p => hd H p.1 (by rw [List.take_length] at p; exact p.2)
  rintro i x H H' hi ⟨p1, p2⟩ y
  obtain ⟨a, ha⟩ : ∃ a, as[i]? = some a := ⟨as[i], List.getElem?_eq_getElem hi⟩
  refine hs _ _ i a x H H' ha p1 y fun H4 s4 => ⟨_, s4 _ _ p2, ?_, ?_, ?_⟩
  · rw [List.length_map, List.length_take]
    exact Nat.lt_of_lt_of_le (show min i as.length < 1000001 by omega) (by decide)
  · exact Same.mut (p1.trans s4) h1
  · rw [upd_same, take_at ha, List.map_append]
    rfl
theorem tlc_map {α : Type} {wi : TI} {J : It} {G : Hp → Prop} {Y : Nat → Hp → V → Hp → Prop} {g : TG} {tt : TT} {te : TE} {vs : List Nat} {σ : St} {H H1 : Hp} {Q : VK}
    (as : List α) (F : α → V) (hw : ∀ R : It → Hp → Prop, R J H1 → wi σ H R) (w : Walk J as.length G Y) (hz : as.length ≤ 1000000) (hG : ∀ H, Same H1 H → G H)
    (hs : ∀ (R : VK) (R' : Hp → Prop) i a x H H', as[i]? = some a → Same H1 H → Y i H x H' → (∀ H4, Same H H4 → R (F a) H4) →
      g x (wipe σ vs) H' fun σ2 H2 => wipe σ2 vs = wipe σ vs ∧ tt σ2 H2 fun b H3 => if b = true then te σ2 H3 R else R' H3)
    (hd : ∀ D H, H1 D = none → Same H1 H → H D = some (.lst (as.map F)) → Q (.ref D) H) : tLc wi g tt te vs σ H Q :=
  hw _ fun D hD => lc_map as F w hz hD hG hs fun H s e => hd D H hD s e
theorem walk_text {t : Tx} : Walk (Its (S t)) t.length (fun _ => True) (fun i H v H' => H' = H ∧ ∃ c, t[i]? = some c ∧ v = .str (S [c])) :=
  ⟨fun _ _ hi _ => (by show _ < (S t).cps.size; rw [S_size]; exact hi), fun _ _ => (by show (S t).cps.size ≤ _; rw [S_size]; exact Nat.le_refl _), fun _ _ _ _ _ _ y => by
    obtain ⟨e, c, h1, h2⟩ := y
    exact ⟨e, c, by simpa [S] using h1, h2⟩⟩
theorem ix_tupK {X : Cx} {K : PySem.W.Frag} (h : X.K = K) : IxR X (rIxT K) := by
  subst h
  exact ix_tup
theorem ix_listK {X : Cx} {K : PySem.W.Frag} (h : X.K = K) : IxR X (rIxL K) := by
  subst h
  exact ix_list
theorem op_eqDK {X : Cx} {K : PySem.W.Frag} (h : X.K = K) (hu : X.A.units + 64 < cLine) : OpR X (compareOp .Eq) (rEqD K) := by
  subst h
  exact op_eqD hu
theorem op_neDK {X : Cx} {K : PySem.W.Frag} (h : X.K = K) (hu : X.A.units + 64 < cLine) : OpR X (compareOp .NotEq) (rNeD K) := by
  subst h
  exact op_neD hu
theorem gen_new {H H1 : Hp} {p : Addr} {o : HO} (h : upd H p o = H1) (hp : H p = none) : Same H H1 ∧ H1 p = some o := by
  subst h
  exact ⟨same_new hp, upd_same⟩
theorem one_lt (x y : Nat) : ([x] < [y]) = (x < y) := by simp [List.cons_lt_cons_iff]
theorem join_flat0 : ∀ ls : List Tx, Str.join (S []) (ls.map S) = S ls.flatten
  | [] => rfl
  | [x] => by
    show S x = S [x].flatten
    simp
  | x :: y :: r => by
    show S x ++ S [] ++ Str.join (S []) ((y :: r).map S) = _
    rw [join_flat0 (y :: r), S_app, S_app]
    simp
theorem join_flat (ls : List Tx) : Txt.join (S []) (ls.map S) = S ls.flatten := by
  rw [show Txt.join (S []) (ls.map S) = Str.join (S []) (ls.map S) from StrLaws.glued_eq_join _ _]
  exact join_flat0 ls
end Qw

set_option Elab.async false
set_option linter.all false
set_option maxRecDepth 100000
set_option maxHeartbeats 4000000
namespace Qw
open PySem L2
def top (i : Nat) : Stmt := PySem.Challenge.pw_quotewords_k03_whole_shortest.main.body.getD i (.Pass ⟨0, 0, 0, 0⟩)
abbrev st_NoWriting_init : Stmt := inClass (top 6) 0
abbrev N_NoWriting_init : List Str := ["self", "at"]
abbrev P_NoWriting_init : List Str := ["self", "at"]
theorem sc_NoWriting_init : FnScope N_NoWriting_init P_NoWriting_init (defScope st_NoWriting_init) := ⟨rfl, rfl, rfl, by decide +kernel, rfl, by decide +kernel, by decide +kernel⟩
abbrev st_are_signs : Stmt := top 10
abbrev N_are_signs : List Str := ["thing", "sign"]
abbrev P_are_signs : List Str := ["thing"]
theorem sc_are_signs : FnScope N_are_signs P_are_signs (defScope st_are_signs) := ⟨rfl, rfl, rfl, by decide +kernel, rfl, by decide +kernel, by decide +kernel⟩
abbrev st_Rules_init : Stmt := inClass (top 11) 0
abbrev N_Rules_init : List Str := ["self", "breaks", "hard", "soft", "bend", "note", "parts", "every", "part", "most"]
abbrev P_Rules_init : List Str := ["self", "breaks", "hard", "soft", "bend", "note"]
theorem sc_Rules_init : FnScope N_Rules_init P_Rules_init (defScope st_Rules_init) := ⟨rfl, rfl, rfl, by decide +kernel, rfl, by decide +kernel, by decide +kernel⟩
abbrev st_Rules_told : Stmt := inClass (top 11) 1
abbrev N_Rules_told : List Str := ["self"]
abbrev P_Rules_told : List Str := ["self"]
theorem sc_Rules_told : FnScope N_Rules_told P_Rules_told (defScope st_Rules_told) := ⟨rfl, rfl, rfl, by decide +kernel, rfl, by decide +kernel, by decide +kernel⟩
abbrev st_Rules_quotes : Stmt := inClass (top 11) 2
abbrev N_Rules_quotes : List Str := ["self"]
abbrev P_Rules_quotes : List Str := ["self"]
theorem sc_Rules_quotes : FnScope N_Rules_quotes P_Rules_quotes (defScope st_Rules_quotes) := ⟨rfl, rfl, rfl, by decide +kernel, rfl, by decide +kernel, by decide +kernel⟩
abbrev st_Rules_special : Stmt := inClass (top 11) 3
abbrev N_Rules_special : List Str := ["self", "sign"]
abbrev P_Rules_special : List Str := ["self", "sign"]
theorem sc_Rules_special : FnScope N_Rules_special P_Rules_special (defScope st_Rules_special) := ⟨rfl, rfl, rfl, by decide +kernel, rfl, by decide +kernel, by decide +kernel⟩
abbrev st_Machine_init : Stmt := inClass (top 15) 0
abbrev N_Machine_init : List Str := ["self", "rules"]
abbrev P_Machine_init : List Str := ["self", "rules"]
theorem sc_Machine_init : FnScope N_Machine_init P_Machine_init (defScope st_Machine_init) := ⟨rfl, rfl, rfl, by decide +kernel, rfl, by decide +kernel, by decide +kernel⟩
abbrev st_Machine_begin : Stmt := inClass (top 15) 2
abbrev N_Machine_begin : List Str := ["self"]
abbrev P_Machine_begin : List Str := ["self"]
theorem sc_Machine_begin : FnScope N_Machine_begin P_Machine_begin (defScope st_Machine_begin) := ⟨rfl, rfl, rfl, by decide +kernel, rfl, by decide +kernel, by decide +kernel⟩
abbrev st_Machine_ended : Stmt := inClass (top 15) 3
abbrev N_Machine_ended : List Str := ["self", "found"]
abbrev P_Machine_ended : List Str := ["self"]
theorem sc_Machine_ended : FnScope N_Machine_ended P_Machine_ended (defScope st_Machine_ended) := ⟨rfl, rfl, rfl, by decide +kernel, rfl, by decide +kernel, by decide +kernel⟩
abbrev st_Machine_plain : Stmt := inClass (top 15) 4
abbrev N_Machine_plain : List Str := ["self", "sign", "rules"]
abbrev P_Machine_plain : List Str := ["self", "sign"]
theorem sc_Machine_plain : FnScope N_Machine_plain P_Machine_plain (defScope st_Machine_plain) := ⟨rfl, rfl, rfl, by decide +kernel, rfl, by decide +kernel, by decide +kernel⟩
abbrev st_Machine_quoted : Stmt := inClass (top 15) 5
abbrev N_Machine_quoted : List Str := ["self", "sign"]
abbrev P_Machine_quoted : List Str := ["self", "sign"]
theorem sc_Machine_quoted : FnScope N_Machine_quoted P_Machine_quoted (defScope st_Machine_quoted) := ⟨rfl, rfl, rfl, by decide +kernel, rfl, by decide +kernel, by decide +kernel⟩
abbrev st_Machine_step : Stmt := inClass (top 15) 6
abbrev N_Machine_step : List Str := ["self", "sign", "found"]
abbrev P_Machine_step : List Str := ["self", "sign"]
theorem sc_Machine_step : FnScope N_Machine_step P_Machine_step (defScope st_Machine_step) := ⟨rfl, rfl, rfl, by decide +kernel, rfl, by decide +kernel, by decide +kernel⟩
abbrev st_Machine_fault : Stmt := inClass (top 15) 7
abbrev N_Machine_fault : List Str := ["self"]
abbrev P_Machine_fault : List Str := ["self"]
theorem sc_Machine_fault : FnScope N_Machine_fault P_Machine_fault (defScope st_Machine_fault) := ⟨rfl, rfl, rfl, by decide +kernel, rfl, by decide +kernel, by decide +kernel⟩
abbrev st_read_all : Stmt := top 16
abbrev N_read_all : List Str := ["rules", "text", "machine", "found", "sign"]
abbrev P_read_all : List Str := ["rules", "text"]
theorem sc_read_all : FnScope N_read_all P_read_all (defScope st_read_all) := ⟨rfl, rfl, rfl, by decide +kernel, rfl, by decide +kernel, by decide +kernel⟩
abbrev st_states_of : Stmt := top 19
abbrev N_states_of : List Str := ["rules"]
abbrev P_states_of : List Str := ["rules"]
theorem sc_states_of : FnScope N_states_of P_states_of (defScope st_states_of) := ⟨rfl, rfl, rfl, by decide +kernel, rfl, by decide +kernel, by decide +kernel⟩
abbrev st_cost_of : Stmt := top 20
abbrev N_cost_of : List Str := ["rules", "state", "sign"]
abbrev P_cost_of : List Str := ["rules", "state", "sign"]
theorem sc_cost_of : FnScope N_cost_of P_cost_of (defScope st_cost_of) := ⟨rfl, rfl, rfl, by decide +kernel, rfl, by decide +kernel, by decide +kernel⟩
abbrev st_entered : Stmt := top 21
abbrev N_entered : List Str := ["row", "plain", "number"]
abbrev P_entered : List Str := ["row"]
theorem sc_entered : FnScope N_entered P_entered (defScope st_entered) := ⟨rfl, rfl, rfl, by decide +kernel, rfl, by decide +kernel, by decide +kernel⟩
abbrev st_cannot : Stmt := top 22
abbrev N_cannot : List Str := ["rules", "word", "states", "state", "sign"]
abbrev P_cannot : List Str := ["rules", "word"]
theorem sc_cannot : FnScope N_cannot P_cannot (defScope st_cannot) := ⟨rfl, rfl, rfl, by decide +kernel, rfl, by decide +kernel, by decide +kernel⟩
abbrev st_heights_of : Stmt := top 23
abbrev N_heights_of : List Str := ["rules", "word", "far", "states", "rows", "sign", "costs", "state", "number", "cost"]
abbrev P_heights_of : List Str := ["rules", "word", "far"]
theorem sc_heights_of : FnScope N_heights_of P_heights_of (defScope st_heights_of) := ⟨rfl, rfl, rfl, by decide +kernel, rfl, by decide +kernel, by decide +kernel⟩
abbrev st_written_by : Stmt := top 24
abbrev N_written_by : List Str := ["rules", "word", "rows", "states", "found", "at", "state", "row", "cost", "k"]
abbrev P_written_by : List Str := ["rules", "word", "rows"]
theorem sc_written_by : FnScope N_written_by P_written_by (defScope st_written_by) := ⟨rfl, rfl, rfl, by decide +kernel, rfl, by decide +kernel, by decide +kernel⟩
abbrev st_Words_init : Stmt := inClass (top 27) 0
abbrev N_Words_init : List Str := ["self", "words", "places"]
abbrev P_Words_init : List Str := ["self", "words", "places"]
theorem sc_Words_init : FnScope N_Words_init P_Words_init (defScope st_Words_init) := ⟨rfl, rfl, rfl, by decide +kernel, rfl, by decide +kernel, by decide +kernel⟩
abbrev st_Words_shows : Stmt := inClass (top 27) 1
abbrev N_Words_shows : List Str := ["self", "rules", "text", "found", "fault", "pair"]
abbrev P_Words_shows : List Str := ["self", "rules", "text"]
theorem sc_Words_shows : FnScope N_Words_shows P_Words_shows (defScope st_Words_shows) := ⟨rfl, rfl, rfl, by decide +kernel, rfl, by decide +kernel, by decide +kernel⟩
abbrev st_Fault_init : Stmt := inClass (top 28) 0
abbrev N_Fault_init : List Str := ["self", "place"]
abbrev P_Fault_init : List Str := ["self", "place"]
theorem sc_Fault_init : FnScope N_Fault_init P_Fault_init (defScope st_Fault_init) := ⟨rfl, rfl, rfl, by decide +kernel, rfl, by decide +kernel, by decide +kernel⟩
abbrev st_Fault_shows : Stmt := inClass (top 28) 1
abbrev N_Fault_shows : List Str := ["self", "rules", "text", "found", "fault"]
abbrev P_Fault_shows : List Str := ["self", "rules", "text"]
theorem sc_Fault_shows : FnScope N_Fault_shows P_Fault_shows (defScope st_Fault_shows) := ⟨rfl, rfl, rfl, by decide +kernel, rfl, by decide +kernel, by decide +kernel⟩
abbrev st_row_right : Stmt := top 29
abbrev N_row_right : List Str := ["rules", "word", "rows", "at", "row", "states", "k", "state", "cost", "number"]
abbrev P_row_right : List Str := ["rules", "word", "rows", "at"]
theorem sc_row_right : FnScope N_row_right P_row_right (defScope st_row_right) := ⟨rfl, rfl, rfl, by decide +kernel, rfl, by decide +kernel, by decide +kernel⟩
abbrev st_Shortest_init : Stmt := inClass (top 30) 0
abbrev N_Shortest_init : List Str := ["self", "text", "heights", "row", "rows"]
abbrev P_Shortest_init : List Str := ["self", "text", "heights"]
theorem sc_Shortest_init : FnScope N_Shortest_init P_Shortest_init (defScope st_Shortest_init) := ⟨rfl, rfl, rfl, by decide +kernel, rfl, by decide +kernel, by decide +kernel⟩
abbrev st_Shortest_shaped : Stmt := inClass (top 30) 1
abbrev N_Shortest_shaped : List Str := ["self", "rules", "words", "many", "rows", "word", "due", "row"]
abbrev P_Shortest_shaped : List Str := ["self", "rules", "words"]
theorem sc_Shortest_shaped : FnScope N_Shortest_shaped P_Shortest_shaped (defScope st_Shortest_shaped) := ⟨rfl, rfl, rfl, by decide +kernel, rfl, by decide +kernel, by decide +kernel⟩
abbrev st_Shortest_shows : Stmt := inClass (top 30) 2
abbrev N_Shortest_shows : List Str := ["self", "rules", "words", "found", "total", "rows", "word", "pair", "at"]
abbrev P_Shortest_shows : List Str := ["self", "rules", "words"]
theorem sc_Shortest_shows : FnScope N_Shortest_shows P_Shortest_shows (defScope st_Shortest_shows) := ⟨rfl, rfl, rfl, by decide +kernel, rfl, by decide +kernel, by decide +kernel⟩
abbrev st_one_written : Stmt := top 35
abbrev N_one_written : List Str := ["rules", "word", "rows"]
abbrev P_one_written : List Str := ["rules", "word"]
theorem sc_one_written : FnScope N_one_written P_one_written (defScope st_one_written) := ⟨rfl, rfl, rfl, by decide +kernel, rfl, by decide +kernel, by decide +kernel⟩
abbrev st_shortest : Stmt := top 36
abbrev N_shortest : List Str := ["rules", "words", "word", "at", "found", "pair"]
abbrev P_shortest : List Str := ["rules", "words"]
theorem sc_shortest : FnScope N_shortest P_shortest (defScope st_shortest) := ⟨rfl, rfl, rfl, by decide +kernel, rfl, by decide +kernel, by decide +kernel⟩
abbrev st_split : Stmt := top 39
abbrev N_split : List Str := ["rules", "text", "found", "fault", "pair"]
abbrev P_split : List Str := ["rules", "text"]
theorem sc_split : FnScope N_split P_split (defScope st_split) := ⟨rfl, rfl, rfl, by decide +kernel, rfl, by decide +kernel, by decide +kernel⟩
abbrev st__law_cell_at : Stmt := top 41
abbrev N__law_cell_at : List Str := ["_law_script", "_law_k"]
abbrev P__law_cell_at : List Str := ["_law_script", "_law_k"]
theorem sc__law_cell_at : FnScope N__law_cell_at P__law_cell_at (defScope st__law_cell_at) := ⟨rfl, rfl, rfl, by decide +kernel, rfl, by decide +kernel, by decide +kernel⟩
abbrev st__law_draw : Stmt := top 42
abbrev N__law_draw : List Str := ["_law_cell", "_law_k", "_law_most", "_law_primes"]
abbrev P__law_draw : List Str := ["_law_cell", "_law_k", "_law_most"]
theorem sc__law_draw : FnScope N__law_draw P__law_draw (defScope st__law_draw) := ⟨rfl, rfl, rfl, by decide +kernel, rfl, by decide +kernel, by decide +kernel⟩
abbrev st__law_number : Stmt := top 43
abbrev N__law_number : List Str := ["_law_cell", "_law_k", "_law_limit", "_law_rest", "_law_turn", "_law_small"]
abbrev P__law_number : List Str := ["_law_cell", "_law_k", "_law_limit"]
theorem sc__law_number : FnScope N__law_number P__law_number (defScope st__law_number) := ⟨rfl, rfl, rfl, by decide +kernel, rfl, by decide +kernel, by decide +kernel⟩
abbrev st__law_next : Stmt := top 44
abbrev N__law_next : List Str := ["_law_state", "_law_limit", "_law_at", "_law_cell"]
abbrev P__law_next : List Str := ["_law_state", "_law_limit"]
theorem sc__law_next : FnScope N__law_next P__law_next (defScope st__law_next) := ⟨rfl, rfl, rfl, by decide +kernel, rfl, by decide +kernel, by decide +kernel⟩
abbrev st__law_told : Stmt := top 45
abbrev N__law_told : List Str := ["_law_state", "_law_left", "_law_found", "_law_most", "_law_part", "_law_least_here", "_law_k"]
abbrev P__law_told : List Str := ["_law_state"]
theorem sc__law_told : FnScope N__law_told P__law_told (defScope st__law_told) := ⟨rfl, rfl, rfl, by decide +kernel, rfl, by decide +kernel, by decide +kernel⟩
abbrev st__law_text : Stmt := top 46
abbrev N__law_text : List Str := ["_law_state", "_law_told_here", "_law_most", "_law_signs", "_law_found", "_law_k", "_law_some"]
abbrev P__law_text : List Str := ["_law_state", "_law_told_here", "_law_most"]
theorem sc__law_text : FnScope N__law_text P__law_text (defScope st__law_text) := ⟨rfl, rfl, rfl, by decide +kernel, rfl, by decide +kernel, by decide +kernel⟩
abbrev st__law_rules : Stmt := top 47
abbrev N__law_rules : List Str := ["_law_told_here"]
abbrev P__law_rules : List Str := ["_law_told_here"]
theorem sc__law_rules : FnScope N__law_rules P__law_rules (defScope st__law_rules) := ⟨rfl, rfl, rfl, by decide +kernel, rfl, by decide +kernel, by decide +kernel⟩
abbrev st__law_quoted : Stmt := top 48
abbrev N__law_quoted : List Str := ["_law_told_here", "_law_text_here", "_law_at", "_law_begin", "_law_sign", "_law_found"]
abbrev P__law_quoted : List Str := ["_law_told_here", "_law_text_here", "_law_at"]
theorem sc__law_quoted : FnScope N__law_quoted P__law_quoted (defScope st__law_quoted) := ⟨rfl, rfl, rfl, by decide +kernel, rfl, by decide +kernel, by decide +kernel⟩
abbrev st__law_word : Stmt := top 49
abbrev N__law_word : List Str := ["_law_told_here", "_law_text_here", "_law_at", "_law_found", "_law_part"]
abbrev P__law_word : List Str := ["_law_told_here", "_law_text_here", "_law_at"]
theorem sc__law_word : FnScope N__law_word P__law_word (defScope st__law_word) := ⟨rfl, rfl, rfl, by decide +kernel, rfl, by decide +kernel, by decide +kernel⟩
abbrev st__law_read : Stmt := top 50
abbrev N__law_read : List Str := ["_law_told_here", "_law_text_here", "_law_words", "_law_places", "_law_at", "_law_end", "_law_word_here"]
abbrev P__law_read : List Str := ["_law_told_here", "_law_text_here"]
theorem sc__law_read : FnScope N__law_read P__law_read (defScope st__law_read) := ⟨rfl, rfl, rfl, by decide +kernel, rfl, by decide +kernel, by decide +kernel⟩
abbrev st__law_states : Stmt := top 51
abbrev N__law_states : List Str := ["_law_told_here"]
abbrev P__law_states : List Str := ["_law_told_here"]
theorem sc__law_states : FnScope N__law_states P__law_states (defScope st__law_states) := ⟨rfl, rfl, rfl, by decide +kernel, rfl, by decide +kernel, by decide +kernel⟩
abbrev st__law_costs : Stmt := top 52
abbrev N__law_costs : List Str := ["_law_told_here", "_law_state", "_law_sign", "_law_found"]
abbrev P__law_costs : List Str := ["_law_told_here", "_law_state", "_law_sign"]
theorem sc__law_costs : FnScope N__law_costs P__law_costs (defScope st__law_costs) := ⟨rfl, rfl, rfl, by decide +kernel, rfl, by decide +kernel, by decide +kernel⟩
abbrev st__law_writable : Stmt := top 53
abbrev N__law_writable : List Str := ["_law_told_here", "_law_word_here", "_law_sign", "_law_state"]
abbrev P__law_writable : List Str := ["_law_told_here", "_law_word_here"]
theorem sc__law_writable : FnScope N__law_writable P__law_writable (defScope st__law_writable) := ⟨rfl, rfl, rfl, by decide +kernel, rfl, by decide +kernel, by decide +kernel⟩
abbrev st__law_least : Stmt := top 54
abbrev N__law_least : List Str := ["_law_told_here", "_law_word_here", "_law_best", "_law_turn", "_law_cost", "_law_at", "_law_state", "_law_here", "_law_others", "_law_k", "_law_more"]
abbrev P__law_least : List Str := ["_law_told_here", "_law_word_here"]
theorem sc__law_least : FnScope N__law_least P__law_least (defScope st__law_least) := ⟨rfl, rfl, rfl, by decide +kernel, rfl, by decide +kernel, by decide +kernel⟩
abbrev st__law_rows_right : Stmt := top 55
abbrev N__law_rows_right : List Str := ["_law_told_here", "_law_word_here", "_law_rows", "_law_states_here", "_law_row", "_law_at", "_law_k", "_law_state", "_law_costs_here", "_law_more"]
abbrev P__law_rows_right : List Str := ["_law_told_here", "_law_word_here", "_law_rows"]
theorem sc__law_rows_right : FnScope N__law_rows_right P__law_rows_right (defScope st__law_rows_right) := ⟨rfl, rfl, rfl, by decide +kernel, rfl, by decide +kernel, by decide +kernel⟩
abbrev st__law_due : Stmt := top 56
abbrev N__law_due : List Str := ["_law_told_here", "_law_words", "_law_text_here", "_law_heights", "_law_read_here", "_law_total", "_law_word_here", "_law_rows"]
abbrev P__law_due : List Str := ["_law_told_here", "_law_words", "_law_text_here", "_law_heights"]
theorem sc__law_due : FnScope N__law_due P__law_due (defScope st__law_due) := ⟨rfl, rfl, rfl, by decide +kernel, rfl, by decide +kernel, by decide +kernel⟩
abbrev st__law_drawn_word : Stmt := top 57
abbrev N__law_drawn_word : List Str := ["_law_state", "_law_told_here", "_law_most"]
abbrev P__law_drawn_word : List Str := ["_law_state", "_law_told_here", "_law_most"]
theorem sc__law_drawn_word : FnScope N__law_drawn_word P__law_drawn_word (defScope st__law_drawn_word) := ⟨rfl, rfl, rfl, by decide +kernel, rfl, by decide +kernel, by decide +kernel⟩
abbrev st__law_refused : Stmt := top 58
abbrev N__law_refused : List Str := ["_law_rules_here", "_law_words", "error"]
abbrev P__law_refused : List Str := ["_law_rules_here", "_law_words"]
theorem sc__law_refused : FnScope N__law_refused P__law_refused (defScope st__law_refused) := ⟨rfl, rfl, rfl, by decide +kernel, rfl, by decide +kernel, by decide +kernel⟩
abbrev st__law_right : Stmt := top 59
abbrev N__law_right : List Str := ["_law_told_here", "_law_words", "_law_others", "_law_rules_here", "_law_handed", "_law_wrong", "_law_found", "_law_least_here", "_law_one", "_law_row", "_law_at", "_law_word_here"]
abbrev P__law_right : List Str := ["_law_told_here", "_law_words", "_law_others"]
theorem sc__law_right : FnScope N__law_right P__law_right (defScope st__law_right) := ⟨rfl, rfl, rfl, by decide +kernel, rfl, by decide +kernel, by decide +kernel⟩
abbrev st_law : Stmt := top 60
abbrev N_law : List Str := ["_law_script", "_law_by", "_law_state", "_law_told_here", "_law_other", "_law_most", "_law_words", "_law_good", "_law_row", "_law_wide", "_law_texts", "_law_k", "_law_word_here", "_law_text_here"]
abbrev P_law : List Str := ["_law_script"]
theorem sc_law : FnScope N_law P_law (defScope st_law) := ⟨rfl, rfl, rfl, by decide +kernel, rfl, by decide +kernel, by decide +kernel⟩
structure Ad where
  c_QuoteError : Addr
  c_BadRules : Addr
  c_BadText : Addr
  c_BadWords : Addr
  c_NoWriting : Addr
  c_Rules : Addr
  c_Machine : Addr
  c_Answer : Addr
  c_Words : Addr
  c_Fault : Addr
  c_Shortest : Addr
  f_NoWriting_init : Addr
  d_NoWriting_init : FuncData
  f_are_signs : Addr
  d_are_signs : FuncData
  f_Rules_init : Addr
  d_Rules_init : FuncData
  f_Rules_told : Addr
  d_Rules_told : FuncData
  f_Rules_quotes : Addr
  d_Rules_quotes : FuncData
  f_Rules_special : Addr
  d_Rules_special : FuncData
  f_Machine_init : Addr
  d_Machine_init : FuncData
  f_Machine_begin : Addr
  d_Machine_begin : FuncData
  f_Machine_ended : Addr
  d_Machine_ended : FuncData
  f_Machine_plain : Addr
  d_Machine_plain : FuncData
  f_Machine_quoted : Addr
  d_Machine_quoted : FuncData
  f_Machine_step : Addr
  d_Machine_step : FuncData
  f_Machine_fault : Addr
  d_Machine_fault : FuncData
  f_read_all : Addr
  d_read_all : FuncData
  f_states_of : Addr
  d_states_of : FuncData
  f_cost_of : Addr
  d_cost_of : FuncData
  f_entered : Addr
  d_entered : FuncData
  f_cannot : Addr
  d_cannot : FuncData
  f_heights_of : Addr
  d_heights_of : FuncData
  f_written_by : Addr
  d_written_by : FuncData
  f_Words_init : Addr
  d_Words_init : FuncData
  f_Words_shows : Addr
  d_Words_shows : FuncData
  f_Fault_init : Addr
  d_Fault_init : FuncData
  f_Fault_shows : Addr
  d_Fault_shows : FuncData
  f_row_right : Addr
  d_row_right : FuncData
  f_Shortest_init : Addr
  d_Shortest_init : FuncData
  f_Shortest_shaped : Addr
  d_Shortest_shaped : FuncData
  f_Shortest_shows : Addr
  d_Shortest_shows : FuncData
  f_one_written : Addr
  d_one_written : FuncData
  f_shortest : Addr
  d_shortest : FuncData
  f_split : Addr
  d_split : FuncData
  f__law_cell_at : Addr
  d__law_cell_at : FuncData
  f__law_draw : Addr
  d__law_draw : FuncData
  f__law_number : Addr
  d__law_number : FuncData
  f__law_next : Addr
  d__law_next : FuncData
  f__law_told : Addr
  d__law_told : FuncData
  f__law_text : Addr
  d__law_text : FuncData
  f__law_rules : Addr
  d__law_rules : FuncData
  f__law_quoted : Addr
  d__law_quoted : FuncData
  f__law_word : Addr
  d__law_word : FuncData
  f__law_read : Addr
  d__law_read : FuncData
  f__law_states : Addr
  d__law_states : FuncData
  f__law_costs : Addr
  d__law_costs : FuncData
  f__law_writable : Addr
  d__law_writable : FuncData
  f__law_least : Addr
  d__law_least : FuncData
  f__law_rows_right : Addr
  d__law_rows_right : FuncData
  f__law_due : Addr
  d__law_due : FuncData
  f__law_drawn_word : Addr
  d__law_drawn_word : FuncData
  f__law_refused : Addr
  d__law_refused : FuncData
  f__law_right : Addr
  d__law_right : FuncData
  f_law : Addr
  d_law : FuncData
  t_LINE_END : Tok
  a_MOST : Addr
  t_PLAIN : Tok
  t_NOTED : Tok
  t_LOOSE : Tok
  t_MOST_WORDS : Tok
  t_LONGEST_WORD : Tok
  t_FAR : Tok
  t_LONGEST : Tok
structure GF (K : PySem.W.Frag) (mg : Str → Option Value) (x : Str) (f : Addr) : Prop where
  g : mg x = some (.ref f)
  k : PySem.W.keepIn K (.ref f) = true
structure CF (K : PySem.W.Frag) (mg : Str → Option Value) (x : Str) (C f : Addr) : Prop where
  g : mg x = some (.ref C)
  cl : Cls K C
  mc : Mk K C f
structure CG (mg : Str → Option Value) (x : Str) (C : Addr) : Prop where
  g : mg x = some (.ref C)
/-- what isinstance asks of a class -/
structure IsF (K : PySem.W.Frag) (C : Addr) : Prop where
  ha : PySem.W.findIn K (.ref C) "__class__" = some (some (.builtin "object.__class__"))
  hn : PySem.W.specialIn K (.builtin "object.__class__") "__get__" = some (some (.builtin "getset_descriptor.__get__"))
  ht : PySem.W.takesIn K (.builtin "object.__class__") = some true
  hm : PySem.W.mroIn K C (.type "object") = some true
structure Txt (K : PySem.W.Frag) (mg : Str → Option Value) (a : Ad) : Prop where
  F_NoWriting_init : Fun K "__init__" "NoWriting.__init__" st_NoWriting_init a.f_NoWriting_init a.d_NoWriting_init
  F_are_signs : Fun K "are_signs" "are_signs" st_are_signs a.f_are_signs a.d_are_signs
  f_are_signs : GF K mg "are_signs" a.f_are_signs
  F_Rules_init : FunD K "__init__" "Rules.__init__" (defArgs st_Rules_init) (defBody st_Rules_init) (defScope st_Rules_init) [.str (" " : Str), .str ("'" : Str), .str ("\"" : Str), .str ("\\" : Str), .str ("#" : Str)] [] a.f_Rules_init a.d_Rules_init
  F_Rules_told : Fun K "told" "Rules.told" st_Rules_told a.f_Rules_told a.d_Rules_told
  m_Rules_told : Meth K a.c_Rules "told" a.f_Rules_told
  F_Rules_quotes : Fun K "quotes" "Rules.quotes" st_Rules_quotes a.f_Rules_quotes a.d_Rules_quotes
  m_Rules_quotes : Meth K a.c_Rules "quotes" a.f_Rules_quotes
  F_Rules_special : Fun K "special" "Rules.special" st_Rules_special a.f_Rules_special a.d_Rules_special
  m_Rules_special : Meth K a.c_Rules "special" a.f_Rules_special
  F_Machine_init : Fun K "__init__" "Machine.__init__" st_Machine_init a.f_Machine_init a.d_Machine_init
  F_Machine_begin : Fun K "begin" "Machine.begin" st_Machine_begin a.f_Machine_begin a.d_Machine_begin
  m_Machine_begin : Meth K a.c_Machine "begin" a.f_Machine_begin
  F_Machine_ended : Fun K "ended" "Machine.ended" st_Machine_ended a.f_Machine_ended a.d_Machine_ended
  m_Machine_ended : Meth K a.c_Machine "ended" a.f_Machine_ended
  F_Machine_plain : Fun K "plain" "Machine.plain" st_Machine_plain a.f_Machine_plain a.d_Machine_plain
  m_Machine_plain : Meth K a.c_Machine "plain" a.f_Machine_plain
  F_Machine_quoted : Fun K "quoted" "Machine.quoted" st_Machine_quoted a.f_Machine_quoted a.d_Machine_quoted
  m_Machine_quoted : Meth K a.c_Machine "quoted" a.f_Machine_quoted
  F_Machine_step : Fun K "step" "Machine.step" st_Machine_step a.f_Machine_step a.d_Machine_step
  m_Machine_step : Meth K a.c_Machine "step" a.f_Machine_step
  F_Machine_fault : Fun K "fault" "Machine.fault" st_Machine_fault a.f_Machine_fault a.d_Machine_fault
  m_Machine_fault : Meth K a.c_Machine "fault" a.f_Machine_fault
  F_read_all : Fun K "read_all" "read_all" st_read_all a.f_read_all a.d_read_all
  f_read_all : GF K mg "read_all" a.f_read_all
  F_states_of : Fun K "states_of" "states_of" st_states_of a.f_states_of a.d_states_of
  f_states_of : GF K mg "states_of" a.f_states_of
  F_cost_of : Fun K "cost_of" "cost_of" st_cost_of a.f_cost_of a.d_cost_of
  f_cost_of : GF K mg "cost_of" a.f_cost_of
  F_entered : Fun K "entered" "entered" st_entered a.f_entered a.d_entered
  f_entered : GF K mg "entered" a.f_entered
  F_cannot : Fun K "cannot" "cannot" st_cannot a.f_cannot a.d_cannot
  f_cannot : GF K mg "cannot" a.f_cannot
  F_heights_of : Fun K "heights_of" "heights_of" st_heights_of a.f_heights_of a.d_heights_of
  f_heights_of : GF K mg "heights_of" a.f_heights_of
  F_written_by : Fun K "written_by" "written_by" st_written_by a.f_written_by a.d_written_by
  f_written_by : GF K mg "written_by" a.f_written_by
  F_Words_init : Fun K "__init__" "Words.__init__" st_Words_init a.f_Words_init a.d_Words_init
  F_Words_shows : Fun K "shows" "Words.shows" st_Words_shows a.f_Words_shows a.d_Words_shows
  m_Words_shows : Meth K a.c_Words "shows" a.f_Words_shows
  F_Fault_init : Fun K "__init__" "Fault.__init__" st_Fault_init a.f_Fault_init a.d_Fault_init
  F_Fault_shows : Fun K "shows" "Fault.shows" st_Fault_shows a.f_Fault_shows a.d_Fault_shows
  m_Fault_shows : Meth K a.c_Fault "shows" a.f_Fault_shows
  F_row_right : Fun K "row_right" "row_right" st_row_right a.f_row_right a.d_row_right
  f_row_right : GF K mg "row_right" a.f_row_right
  F_Shortest_init : Fun K "__init__" "Shortest.__init__" st_Shortest_init a.f_Shortest_init a.d_Shortest_init
  F_Shortest_shaped : Fun K "shaped" "Shortest.shaped" st_Shortest_shaped a.f_Shortest_shaped a.d_Shortest_shaped
  m_Shortest_shaped : Meth K a.c_Shortest "shaped" a.f_Shortest_shaped
  F_Shortest_shows : Fun K "shows" "Shortest.shows" st_Shortest_shows a.f_Shortest_shows a.d_Shortest_shows
  m_Shortest_shows : Meth K a.c_Shortest "shows" a.f_Shortest_shows
  F_one_written : Fun K "one_written" "one_written" st_one_written a.f_one_written a.d_one_written
  f_one_written : GF K mg "one_written" a.f_one_written
  F_shortest : Fun K "shortest" "shortest" st_shortest a.f_shortest a.d_shortest
  f_shortest : GF K mg "shortest" a.f_shortest
  F_split : Fun K "split" "split" st_split a.f_split a.d_split
  f_split : GF K mg "split" a.f_split
  F__law_cell_at : Fun K "_law_cell_at" "_law_cell_at" st__law_cell_at a.f__law_cell_at a.d__law_cell_at
  f__law_cell_at : GF K mg "_law_cell_at" a.f__law_cell_at
  F__law_draw : Fun K "_law_draw" "_law_draw" st__law_draw a.f__law_draw a.d__law_draw
  f__law_draw : GF K mg "_law_draw" a.f__law_draw
  F__law_number : Fun K "_law_number" "_law_number" st__law_number a.f__law_number a.d__law_number
  f__law_number : GF K mg "_law_number" a.f__law_number
  F__law_next : Fun K "_law_next" "_law_next" st__law_next a.f__law_next a.d__law_next
  f__law_next : GF K mg "_law_next" a.f__law_next
  F__law_told : Fun K "_law_told" "_law_told" st__law_told a.f__law_told a.d__law_told
  f__law_told : GF K mg "_law_told" a.f__law_told
  F__law_text : Fun K "_law_text" "_law_text" st__law_text a.f__law_text a.d__law_text
  f__law_text : GF K mg "_law_text" a.f__law_text
  F__law_rules : Fun K "_law_rules" "_law_rules" st__law_rules a.f__law_rules a.d__law_rules
  f__law_rules : GF K mg "_law_rules" a.f__law_rules
  F__law_quoted : Fun K "_law_quoted" "_law_quoted" st__law_quoted a.f__law_quoted a.d__law_quoted
  f__law_quoted : GF K mg "_law_quoted" a.f__law_quoted
  F__law_word : Fun K "_law_word" "_law_word" st__law_word a.f__law_word a.d__law_word
  f__law_word : GF K mg "_law_word" a.f__law_word
  F__law_read : Fun K "_law_read" "_law_read" st__law_read a.f__law_read a.d__law_read
  f__law_read : GF K mg "_law_read" a.f__law_read
  F__law_states : Fun K "_law_states" "_law_states" st__law_states a.f__law_states a.d__law_states
  f__law_states : GF K mg "_law_states" a.f__law_states
  F__law_costs : Fun K "_law_costs" "_law_costs" st__law_costs a.f__law_costs a.d__law_costs
  f__law_costs : GF K mg "_law_costs" a.f__law_costs
  F__law_writable : Fun K "_law_writable" "_law_writable" st__law_writable a.f__law_writable a.d__law_writable
  f__law_writable : GF K mg "_law_writable" a.f__law_writable
  F__law_least : Fun K "_law_least" "_law_least" st__law_least a.f__law_least a.d__law_least
  f__law_least : GF K mg "_law_least" a.f__law_least
  F__law_rows_right : Fun K "_law_rows_right" "_law_rows_right" st__law_rows_right a.f__law_rows_right a.d__law_rows_right
  f__law_rows_right : GF K mg "_law_rows_right" a.f__law_rows_right
  F__law_due : Fun K "_law_due" "_law_due" st__law_due a.f__law_due a.d__law_due
  f__law_due : GF K mg "_law_due" a.f__law_due
  F__law_drawn_word : Fun K "_law_drawn_word" "_law_drawn_word" st__law_drawn_word a.f__law_drawn_word a.d__law_drawn_word
  f__law_drawn_word : GF K mg "_law_drawn_word" a.f__law_drawn_word
  F__law_refused : Fun K "_law_refused" "_law_refused" st__law_refused a.f__law_refused a.d__law_refused
  f__law_refused : GF K mg "_law_refused" a.f__law_refused
  F__law_right : Fun K "_law_right" "_law_right" st__law_right a.f__law_right a.d__law_right
  f__law_right : GF K mg "_law_right" a.f__law_right
  F_law : Fun K "law" "law" st_law a.f_law a.d_law
  f_law : GF K mg "law" a.f_law
  c_Rules : CF K mg "Rules" a.c_Rules a.f_Rules_init
  n_Rules_breaks : NoAttr K a.c_Rules "breaks"
  n_Rules_hard : NoAttr K a.c_Rules "hard"
  n_Rules_soft : NoAttr K a.c_Rules "soft"
  n_Rules_bend : NoAttr K a.c_Rules "bend"
  n_Rules_note : NoAttr K a.c_Rules "note"
  c_Machine : CF K mg "Machine" a.c_Machine a.f_Machine_init
  n_Machine_rules : NoAttr K a.c_Machine "rules"
  n_Machine_state : NoAttr K a.c_Machine "state"
  n_Machine_bent : NoAttr K a.c_Machine "bent"
  n_Machine_word : NoAttr K a.c_Machine "word"
  n_Machine_begun : NoAttr K a.c_Machine "begun"
  n_Machine_opened : NoAttr K a.c_Machine "opened"
  n_Machine_place : NoAttr K a.c_Machine "place"
  c_Words : CF K mg "Words" a.c_Words a.f_Words_init
  n_Words_words : NoAttr K a.c_Words "words"
  n_Words_places : NoAttr K a.c_Words "places"
  c_Fault : CF K mg "Fault" a.c_Fault a.f_Fault_init
  n_Fault_place : NoAttr K a.c_Fault "place"
  c_Shortest : CF K mg "Shortest" a.c_Shortest a.f_Shortest_init
  n_Shortest_text : NoAttr K a.c_Shortest "text"
  n_Shortest_heights : NoAttr K a.c_Shortest "heights"
  g_LINE_END : mg "LINE_END" = some (Value.str ("\n" : Str) a.t_LINE_END)
  g_MOST : mg "MOST" = some (Value.ref a.a_MOST)
  s_MOST : ∀ H, SqT K H a.a_MOST [.int 4, .int 2, .int 2, .int 1, .int 1]
  g_PLAIN : mg "PLAIN" = some (Value.str ("" : Str) a.t_PLAIN)
  g_NOTED : mg "NOTED" = some (Value.str ("note" : Str) a.t_NOTED)
  g_LOOSE : mg "LOOSE" = some (Value.str ("" : Str) a.t_LOOSE)
  g_MOST_WORDS : mg "MOST_WORDS" = some (Value.int 8 a.t_MOST_WORDS)
  g_LONGEST_WORD : mg "LONGEST_WORD" = some (Value.int 12 a.t_LONGEST_WORD)
  g_FAR : mg "FAR" = some (Value.int 99 a.t_FAR)
  g_LONGEST : mg "LONGEST" = some (Value.int 400 a.t_LONGEST)
  b_isinstance : mg "isinstance" = none
  b_all : mg "all" = none
  b_any : mg "any" = none
  b_zip : mg "zip" = none
  b_len : mg "len" = none
  b_set : mg "set" = none
  b_str : mg "str" = none
  b_list : mg "list" = none
  b_range : mg "range" = none
  b_int : mg "int" = none
  b_tuple : mg "tuple" = none
  b_max : mg "max" = none
  b_min : mg "min" = none
  b_sum : mg "sum" = none
  b_enumerate : mg "enumerate" = none
  c_Answer : CG mg "Answer" a.c_Answer
  i_Words : IsF K a.c_Words
  i_Fault : IsF K a.c_Fault
  k_WW : PySem.W.kitOne K (.ref a.c_Words) (.ref a.c_Words) = some true
  k_WF : PySem.W.kitOne K (.ref a.c_Words) (.ref a.c_Fault) = some false
  k_WA : PySem.W.kitOne K (.ref a.c_Words) (.ref a.c_Answer) = some true
  k_FF : PySem.W.kitOne K (.ref a.c_Fault) (.ref a.c_Fault) = some true
  k_FW : PySem.W.kitOne K (.ref a.c_Fault) (.ref a.c_Words) = some false
  k_FA : PySem.W.kitOne K (.ref a.c_Fault) (.ref a.c_Answer) = some true
  i_Shortest : IsF K a.c_Shortest
  k_SA : PySem.W.kitOne K (.ref a.c_Shortest) (.ref a.c_Answer) = some true
  k_SS : PySem.W.kitOne K (.ref a.c_Shortest) (.ref a.c_Shortest) = some true
  eg_QuoteError : CG mg "QuoteError" a.c_QuoteError
  ea_QuoteError : PySem.W.findIn K (.ref a.c_QuoteError) "__getattribute__" = some (some (.builtin "BaseException.__getattribute__"))
  eb_QuoteError : PySem.W.findIn K (.ref a.c_QuoteError) "__getattr__" = some none
  ec_QuoteError : PySem.W.subIn K (.ref a.c_QuoteError) (.type "BaseException") = some true
  ed_QuoteError : PySem.W.hasDictIn K a.c_QuoteError = true
  ee_QuoteError : PySem.W.findIn K (.ref a.c_QuoteError) "__class__" = some (some (.builtin "object.__class__"))
  ef_QuoteError : PySem.W.mroIn K a.c_QuoteError (.type "object") = some true
  eh_QuoteError : PySem.W.typeIn K (.ref a.c_QuoteError) = some (.type "type")
  ei_QuoteError : PySem.W.keepIn K (.ref a.c_QuoteError) = true
  es_QuoteError_QuoteError : PySem.W.subIn K (.ref a.c_QuoteError) (.ref a.c_QuoteError) = some true
  eg_NoWriting : CG mg "NoWriting" a.c_NoWriting
  ea_NoWriting : PySem.W.findIn K (.ref a.c_NoWriting) "__getattribute__" = some (some (.builtin "BaseException.__getattribute__"))
  eb_NoWriting : PySem.W.findIn K (.ref a.c_NoWriting) "__getattr__" = some none
  ec_NoWriting : PySem.W.subIn K (.ref a.c_NoWriting) (.type "BaseException") = some true
  ed_NoWriting : PySem.W.hasDictIn K a.c_NoWriting = true
  ee_NoWriting : PySem.W.findIn K (.ref a.c_NoWriting) "__class__" = some (some (.builtin "object.__class__"))
  ef_NoWriting : PySem.W.mroIn K a.c_NoWriting (.type "object") = some true
  eh_NoWriting : PySem.W.typeIn K (.ref a.c_NoWriting) = some (.type "type")
  ei_NoWriting : PySem.W.keepIn K (.ref a.c_NoWriting) = true
  es_NoWriting_QuoteError : PySem.W.subIn K (.ref a.c_NoWriting) (.ref a.c_QuoteError) = some true
  xc_NoWriting : ∃ nm q N bs bm sn sub ab col dd k0 k1 k2 k3 k5, K.lookup a.c_NoWriting = some (PySem.excClassObj nm q a.c_NoWriting N bs bm true sn sub ab col dd k0 k1 k2 k3 k5 "ValueError.__new__") ∧ PySem.HandSPX.refsVE bm = true
  sa_NoWriting : PySem.W.findIn K (.ref a.c_NoWriting) "__setattr__" = some (some (.builtin "object.__setattr__"))
  at_NoWriting : PySem.W.findIn K (.ref a.c_NoWriting) "at" = some none
  ti_NoWriting : PySem.W.typeIn K (.ref a.f_NoWriting_init) = some (.type "function")
  ui_NoWriting : PySem.W.findIn K (.ref a.c_NoWriting) "__init__" = some (some (.ref a.f_NoWriting_init))
  qr_QuoteError : PySem.W.readsIn K a.c_QuoteError (.type "type") = true
  qg_QuoteError : PySem.W.specialIn K (.ref a.c_QuoteError) "__getattribute__" = some (some (.builtin "type.__getattribute__"))
  qv_QuoteError : PySem.W.findCls K (.ref a.c_QuoteError) (.type "type") "__init__" = some (.val (.builtin "ValueError.__init__"))
theorem bi_NoWriting_init {K : PySem.W.Frag} {mg : Str → Option Value} {a : Ad} (T : Txt K mg a) : Binds K a.d_NoWriting_init P_NoWriting_init [] := T.F_NoWriting_init.binds (ps := P_NoWriting_init) fun _ _ _ _ _ _ us hl => match us, hl with | [_, _], _ => rfl
theorem bi_are_signs {K : PySem.W.Frag} {mg : Str → Option Value} {a : Ad} (T : Txt K mg a) : Binds K a.d_are_signs P_are_signs [] := T.F_are_signs.binds (ps := P_are_signs) fun _ _ _ _ _ _ us hl => match us, hl with | [_], _ => rfl
theorem bi_Rules_told {K : PySem.W.Frag} {mg : Str → Option Value} {a : Ad} (T : Txt K mg a) : Binds K a.d_Rules_told P_Rules_told [] := T.F_Rules_told.binds (ps := P_Rules_told) fun _ _ _ _ _ _ us hl => match us, hl with | [_], _ => rfl
theorem bi_Rules_quotes {K : PySem.W.Frag} {mg : Str → Option Value} {a : Ad} (T : Txt K mg a) : Binds K a.d_Rules_quotes P_Rules_quotes [] := T.F_Rules_quotes.binds (ps := P_Rules_quotes) fun _ _ _ _ _ _ us hl => match us, hl with | [_], _ => rfl
theorem bi_Rules_special {K : PySem.W.Frag} {mg : Str → Option Value} {a : Ad} (T : Txt K mg a) : Binds K a.d_Rules_special P_Rules_special [] := T.F_Rules_special.binds (ps := P_Rules_special) fun _ _ _ _ _ _ us hl => match us, hl with | [_, _], _ => rfl
theorem bi_Machine_init {K : PySem.W.Frag} {mg : Str → Option Value} {a : Ad} (T : Txt K mg a) : Binds K a.d_Machine_init P_Machine_init [] := T.F_Machine_init.binds (ps := P_Machine_init) fun _ _ _ _ _ _ us hl => match us, hl with | [_, _], _ => rfl
theorem bi_Machine_begin {K : PySem.W.Frag} {mg : Str → Option Value} {a : Ad} (T : Txt K mg a) : Binds K a.d_Machine_begin P_Machine_begin [] := T.F_Machine_begin.binds (ps := P_Machine_begin) fun _ _ _ _ _ _ us hl => match us, hl with | [_], _ => rfl
theorem bi_Machine_ended {K : PySem.W.Frag} {mg : Str → Option Value} {a : Ad} (T : Txt K mg a) : Binds K a.d_Machine_ended P_Machine_ended [] := T.F_Machine_ended.binds (ps := P_Machine_ended) fun _ _ _ _ _ _ us hl => match us, hl with | [_], _ => rfl
theorem bi_Machine_plain {K : PySem.W.Frag} {mg : Str → Option Value} {a : Ad} (T : Txt K mg a) : Binds K a.d_Machine_plain P_Machine_plain [] := T.F_Machine_plain.binds (ps := P_Machine_plain) fun _ _ _ _ _ _ us hl => match us, hl with | [_, _], _ => rfl
theorem bi_Machine_quoted {K : PySem.W.Frag} {mg : Str → Option Value} {a : Ad} (T : Txt K mg a) : Binds K a.d_Machine_quoted P_Machine_quoted [] := T.F_Machine_quoted.binds (ps := P_Machine_quoted) fun _ _ _ _ _ _ us hl => match us, hl with | [_, _], _ => rfl
theorem bi_Machine_step {K : PySem.W.Frag} {mg : Str → Option Value} {a : Ad} (T : Txt K mg a) : Binds K a.d_Machine_step P_Machine_step [] := T.F_Machine_step.binds (ps := P_Machine_step) fun _ _ _ _ _ _ us hl => match us, hl with | [_, _], _ => rfl
theorem bi_Machine_fault {K : PySem.W.Frag} {mg : Str → Option Value} {a : Ad} (T : Txt K mg a) : Binds K a.d_Machine_fault P_Machine_fault [] := T.F_Machine_fault.binds (ps := P_Machine_fault) fun _ _ _ _ _ _ us hl => match us, hl with | [_], _ => rfl
theorem bi_read_all {K : PySem.W.Frag} {mg : Str → Option Value} {a : Ad} (T : Txt K mg a) : Binds K a.d_read_all P_read_all [] := T.F_read_all.binds (ps := P_read_all) fun _ _ _ _ _ _ us hl => match us, hl with | [_, _], _ => rfl
theorem bi_states_of {K : PySem.W.Frag} {mg : Str → Option Value} {a : Ad} (T : Txt K mg a) : Binds K a.d_states_of P_states_of [] := T.F_states_of.binds (ps := P_states_of) fun _ _ _ _ _ _ us hl => match us, hl with | [_], _ => rfl
theorem bi_cost_of {K : PySem.W.Frag} {mg : Str → Option Value} {a : Ad} (T : Txt K mg a) : Binds K a.d_cost_of P_cost_of [] := T.F_cost_of.binds (ps := P_cost_of) fun _ _ _ _ _ _ us hl => match us, hl with | [_, _, _], _ => rfl
theorem bi_entered {K : PySem.W.Frag} {mg : Str → Option Value} {a : Ad} (T : Txt K mg a) : Binds K a.d_entered P_entered [] := T.F_entered.binds (ps := P_entered) fun _ _ _ _ _ _ us hl => match us, hl with | [_], _ => rfl
theorem bi_cannot {K : PySem.W.Frag} {mg : Str → Option Value} {a : Ad} (T : Txt K mg a) : Binds K a.d_cannot P_cannot [] := T.F_cannot.binds (ps := P_cannot) fun _ _ _ _ _ _ us hl => match us, hl with | [_, _], _ => rfl
theorem bi_heights_of {K : PySem.W.Frag} {mg : Str → Option Value} {a : Ad} (T : Txt K mg a) : Binds K a.d_heights_of P_heights_of [] := T.F_heights_of.binds (ps := P_heights_of) fun _ _ _ _ _ _ us hl => match us, hl with | [_, _, _], _ => rfl
theorem bi_written_by {K : PySem.W.Frag} {mg : Str → Option Value} {a : Ad} (T : Txt K mg a) : Binds K a.d_written_by P_written_by [] := T.F_written_by.binds (ps := P_written_by) fun _ _ _ _ _ _ us hl => match us, hl with | [_, _, _], _ => rfl
theorem bi_Words_init {K : PySem.W.Frag} {mg : Str → Option Value} {a : Ad} (T : Txt K mg a) : Binds K a.d_Words_init P_Words_init [] := T.F_Words_init.binds (ps := P_Words_init) fun _ _ _ _ _ _ us hl => match us, hl with | [_, _, _], _ => rfl
theorem bi_Words_shows {K : PySem.W.Frag} {mg : Str → Option Value} {a : Ad} (T : Txt K mg a) : Binds K a.d_Words_shows P_Words_shows [] := T.F_Words_shows.binds (ps := P_Words_shows) fun _ _ _ _ _ _ us hl => match us, hl with | [_, _, _], _ => rfl
theorem bi_Fault_init {K : PySem.W.Frag} {mg : Str → Option Value} {a : Ad} (T : Txt K mg a) : Binds K a.d_Fault_init P_Fault_init [] := T.F_Fault_init.binds (ps := P_Fault_init) fun _ _ _ _ _ _ us hl => match us, hl with | [_, _], _ => rfl
theorem bi_Fault_shows {K : PySem.W.Frag} {mg : Str → Option Value} {a : Ad} (T : Txt K mg a) : Binds K a.d_Fault_shows P_Fault_shows [] := T.F_Fault_shows.binds (ps := P_Fault_shows) fun _ _ _ _ _ _ us hl => match us, hl with | [_, _, _], _ => rfl
theorem bi_row_right {K : PySem.W.Frag} {mg : Str → Option Value} {a : Ad} (T : Txt K mg a) : Binds K a.d_row_right P_row_right [] := T.F_row_right.binds (ps := P_row_right) fun _ _ _ _ _ _ us hl => match us, hl with | [_, _, _, _], _ => rfl
theorem bi_Shortest_init {K : PySem.W.Frag} {mg : Str → Option Value} {a : Ad} (T : Txt K mg a) : Binds K a.d_Shortest_init P_Shortest_init [] := T.F_Shortest_init.binds (ps := P_Shortest_init) fun _ _ _ _ _ _ us hl => match us, hl with | [_, _, _], _ => rfl
theorem bi_Shortest_shaped {K : PySem.W.Frag} {mg : Str → Option Value} {a : Ad} (T : Txt K mg a) : Binds K a.d_Shortest_shaped P_Shortest_shaped [] := T.F_Shortest_shaped.binds (ps := P_Shortest_shaped) fun _ _ _ _ _ _ us hl => match us, hl with | [_, _, _], _ => rfl
theorem bi_Shortest_shows {K : PySem.W.Frag} {mg : Str → Option Value} {a : Ad} (T : Txt K mg a) : Binds K a.d_Shortest_shows P_Shortest_shows [] := T.F_Shortest_shows.binds (ps := P_Shortest_shows) fun _ _ _ _ _ _ us hl => match us, hl with | [_, _, _], _ => rfl
theorem bi_one_written {K : PySem.W.Frag} {mg : Str → Option Value} {a : Ad} (T : Txt K mg a) : Binds K a.d_one_written P_one_written [] := T.F_one_written.binds (ps := P_one_written) fun _ _ _ _ _ _ us hl => match us, hl with | [_, _], _ => rfl
theorem bi_shortest {K : PySem.W.Frag} {mg : Str → Option Value} {a : Ad} (T : Txt K mg a) : Binds K a.d_shortest P_shortest [] := T.F_shortest.binds (ps := P_shortest) fun _ _ _ _ _ _ us hl => match us, hl with | [_, _], _ => rfl
theorem bi_split {K : PySem.W.Frag} {mg : Str → Option Value} {a : Ad} (T : Txt K mg a) : Binds K a.d_split P_split [] := T.F_split.binds (ps := P_split) fun _ _ _ _ _ _ us hl => match us, hl with | [_, _], _ => rfl
theorem bi__law_cell_at {K : PySem.W.Frag} {mg : Str → Option Value} {a : Ad} (T : Txt K mg a) : Binds K a.d__law_cell_at P__law_cell_at [] := T.F__law_cell_at.binds (ps := P__law_cell_at) fun _ _ _ _ _ _ us hl => match us, hl with | [_, _], _ => rfl
theorem bi__law_draw {K : PySem.W.Frag} {mg : Str → Option Value} {a : Ad} (T : Txt K mg a) : Binds K a.d__law_draw P__law_draw [] := T.F__law_draw.binds (ps := P__law_draw) fun _ _ _ _ _ _ us hl => match us, hl with | [_, _, _], _ => rfl
theorem bi__law_number {K : PySem.W.Frag} {mg : Str → Option Value} {a : Ad} (T : Txt K mg a) : Binds K a.d__law_number P__law_number [] := T.F__law_number.binds (ps := P__law_number) fun _ _ _ _ _ _ us hl => match us, hl with | [_, _, _], _ => rfl
theorem bi__law_next {K : PySem.W.Frag} {mg : Str → Option Value} {a : Ad} (T : Txt K mg a) : Binds K a.d__law_next P__law_next [] := T.F__law_next.binds (ps := P__law_next) fun _ _ _ _ _ _ us hl => match us, hl with | [_, _], _ => rfl
theorem bi__law_told {K : PySem.W.Frag} {mg : Str → Option Value} {a : Ad} (T : Txt K mg a) : Binds K a.d__law_told P__law_told [] := T.F__law_told.binds (ps := P__law_told) fun _ _ _ _ _ _ us hl => match us, hl with | [_], _ => rfl
theorem bi__law_text {K : PySem.W.Frag} {mg : Str → Option Value} {a : Ad} (T : Txt K mg a) : Binds K a.d__law_text P__law_text [] := T.F__law_text.binds (ps := P__law_text) fun _ _ _ _ _ _ us hl => match us, hl with | [_, _, _], _ => rfl
theorem bi__law_rules {K : PySem.W.Frag} {mg : Str → Option Value} {a : Ad} (T : Txt K mg a) : Binds K a.d__law_rules P__law_rules [] := T.F__law_rules.binds (ps := P__law_rules) fun _ _ _ _ _ _ us hl => match us, hl with | [_], _ => rfl
theorem bi__law_quoted {K : PySem.W.Frag} {mg : Str → Option Value} {a : Ad} (T : Txt K mg a) : Binds K a.d__law_quoted P__law_quoted [] := T.F__law_quoted.binds (ps := P__law_quoted) fun _ _ _ _ _ _ us hl => match us, hl with | [_, _, _], _ => rfl
theorem bi__law_word {K : PySem.W.Frag} {mg : Str → Option Value} {a : Ad} (T : Txt K mg a) : Binds K a.d__law_word P__law_word [] := T.F__law_word.binds (ps := P__law_word) fun _ _ _ _ _ _ us hl => match us, hl with | [_, _, _], _ => rfl
theorem bi__law_read {K : PySem.W.Frag} {mg : Str → Option Value} {a : Ad} (T : Txt K mg a) : Binds K a.d__law_read P__law_read [] := T.F__law_read.binds (ps := P__law_read) fun _ _ _ _ _ _ us hl => match us, hl with | [_, _], _ => rfl
theorem bi__law_states {K : PySem.W.Frag} {mg : Str → Option Value} {a : Ad} (T : Txt K mg a) : Binds K a.d__law_states P__law_states [] := T.F__law_states.binds (ps := P__law_states) fun _ _ _ _ _ _ us hl => match us, hl with | [_], _ => rfl
theorem bi__law_costs {K : PySem.W.Frag} {mg : Str → Option Value} {a : Ad} (T : Txt K mg a) : Binds K a.d__law_costs P__law_costs [] := T.F__law_costs.binds (ps := P__law_costs) fun _ _ _ _ _ _ us hl => match us, hl with | [_, _, _], _ => rfl
theorem bi__law_writable {K : PySem.W.Frag} {mg : Str → Option Value} {a : Ad} (T : Txt K mg a) : Binds K a.d__law_writable P__law_writable [] := T.F__law_writable.binds (ps := P__law_writable) fun _ _ _ _ _ _ us hl => match us, hl with | [_, _], _ => rfl
theorem bi__law_least {K : PySem.W.Frag} {mg : Str → Option Value} {a : Ad} (T : Txt K mg a) : Binds K a.d__law_least P__law_least [] := T.F__law_least.binds (ps := P__law_least) fun _ _ _ _ _ _ us hl => match us, hl with | [_, _], _ => rfl
theorem bi__law_rows_right {K : PySem.W.Frag} {mg : Str → Option Value} {a : Ad} (T : Txt K mg a) : Binds K a.d__law_rows_right P__law_rows_right [] := T.F__law_rows_right.binds (ps := P__law_rows_right) fun _ _ _ _ _ _ us hl => match us, hl with | [_, _, _], _ => rfl
theorem bi__law_due {K : PySem.W.Frag} {mg : Str → Option Value} {a : Ad} (T : Txt K mg a) : Binds K a.d__law_due P__law_due [] := T.F__law_due.binds (ps := P__law_due) fun _ _ _ _ _ _ us hl => match us, hl with | [_, _, _, _], _ => rfl
theorem bi__law_drawn_word {K : PySem.W.Frag} {mg : Str → Option Value} {a : Ad} (T : Txt K mg a) : Binds K a.d__law_drawn_word P__law_drawn_word [] := T.F__law_drawn_word.binds (ps := P__law_drawn_word) fun _ _ _ _ _ _ us hl => match us, hl with | [_, _, _], _ => rfl
theorem bi__law_refused {K : PySem.W.Frag} {mg : Str → Option Value} {a : Ad} (T : Txt K mg a) : Binds K a.d__law_refused P__law_refused [] := T.F__law_refused.binds (ps := P__law_refused) fun _ _ _ _ _ _ us hl => match us, hl with | [_, _], _ => rfl
theorem bi__law_right {K : PySem.W.Frag} {mg : Str → Option Value} {a : Ad} (T : Txt K mg a) : Binds K a.d__law_right P__law_right [] := T.F__law_right.binds (ps := P__law_right) fun _ _ _ _ _ _ us hl => match us, hl with | [_, _, _], _ => rfl
theorem bi_law {K : PySem.W.Frag} {mg : Str → Option Value} {a : Ad} (T : Txt K mg a) : Binds K a.d_law P_law [] := T.F_law.binds (ps := P_law) fun _ _ _ _ _ _ us hl => match us, hl with | [_], _ => rfl
end Qw

set_option Elab.async false
set_option linter.all false
set_option maxRecDepth 100000
set_option maxHeartbeats 4000000
namespace Qw
open PySem L2
/-! ### the machine, told in plain Lean -/
structure RS where
  breaks : Tx
  hard : Tx
  soft : Tx
  bend : Tx
  note : Tx
def RS.f (r : RS) : List (Str × V) := [("breaks", .str (S r.breaks)), ("hard", .str (S r.hard)), ("soft", .str (S r.soft)), ("bend", .str (S r.bend)), ("note", .str (S r.note))]
def RS.quotes (r : RS) : Tx := r.hard ++ r.soft
abbrev NT : Tx := [110, 111, 116, 101]
abbrev LE : Nat := 10
abbrev W3 := Tx × Nat × Nat
structure MS where
  rules : Addr
  state : Tx
  bent : Bool
  word : Option Tx
  begun : Nat
  opened : Nat
  place : Nat
def oV : Option Tx → V
  | none => .non
  | some w => .str (S w)
def MS.f (m : MS) : List (Str × V) := [("rules", .ref m.rules), ("state", .str (S m.state)), ("bent", .bl m.bent), ("word", oV m.word), ("begun", .int m.begun), ("opened", .int m.opened), ("place", .int m.place)]
def MS.zero (r : Addr) : MS := ⟨r, [], false, none, 0, 0, 0⟩
def MS.begin (m : MS) : MS := match m.word with
  | none => { m with word := some [], begun := m.place }
  | some _ => m
def MS.out (m : MS) : List W3 := match m.word with
  | none => []
  | some w => [(w, m.begun, m.place)]
def MS.drop (m : MS) : MS := { m with word := none }
def MS.add (m : MS) (c : Nat) : MS := { m with word := m.word.map (· ++ [c]) }
def MS.plain (r : RS) (m : MS) (c : Nat) : MS × List W3 :=
  if c ∈ r.breaks then (m.drop, m.out)
  else if c ∈ r.note then ({ m.drop with state := NT }, m.out)
  else if c ∈ r.quotes then ({ m.begin with state := [c], opened := m.begin.place }, [])
  else if c ∈ r.bend then ({ m.begin with bent := true, opened := m.begin.place }, [])
  else (m.begin.add c, [])
section lk
variable (r : RS) (m : MS)
theorem lk_breaks : List.lookup ("breaks" : Str) r.f = some (.str (S r.breaks)) := by kernel_rfl
theorem lk_hard : List.lookup ("hard" : Str) r.f = some (.str (S r.hard)) := by kernel_rfl
theorem lk_soft : List.lookup ("soft" : Str) r.f = some (.str (S r.soft)) := by kernel_rfl
theorem lk_bend : List.lookup ("bend" : Str) r.f = some (.str (S r.bend)) := by kernel_rfl
theorem lk_note : List.lookup ("note" : Str) r.f = some (.str (S r.note)) := by kernel_rfl
theorem lk_rules : List.lookup ("rules" : Str) m.f = some (.ref m.rules) := by kernel_rfl
theorem lk_state : List.lookup ("state" : Str) m.f = some (.str (S m.state)) := by kernel_rfl
theorem lk_bent : List.lookup ("bent" : Str) m.f = some (.bl m.bent) := by kernel_rfl
theorem lk_word : List.lookup ("word" : Str) m.f = some (oV m.word) := by kernel_rfl
theorem lk_begun : List.lookup ("begun" : Str) m.f = some (.int m.begun) := by kernel_rfl
theorem lk_opened : List.lookup ("opened" : Str) m.f = some (.int m.opened) := by kernel_rfl
theorem lk_place : List.lookup ("place" : Str) m.f = some (.int m.place) := by kernel_rfl
theorem pt_state (x : Tx) : putF ("state" : Str) (.str (S x)) m.f = { m with state := x }.f := by kernel_rfl
theorem pt_bent (x : Bool) : putF ("bent" : Str) (.bl x) m.f = { m with bent := x }.f := by kernel_rfl
theorem pt_word (x : Option Tx) : putF ("word" : Str) (oV x) m.f = { m with word := x }.f := by kernel_rfl
theorem pt_begun (x : Nat) : putF ("begun" : Str) (.int x) m.f = { m with begun := x }.f := by kernel_rfl
theorem pt_opened (x : Nat) : putF ("opened" : Str) (.int x) m.f = { m with opened := x }.f := by kernel_rfl
theorem pt_place (x : Nat) : putF ("place" : Str) (.int x) m.f = { m with place := x }.f := by kernel_rfl
theorem pt_wordS (x : Tx) : putF ("word" : Str) (.str (S x)) m.f = { m with word := some x }.f := by kernel_rfl
theorem pt_wordN : putF ("word" : Str) .non m.f = { m with word := none }.f := by kernel_rfl
theorem pt_place1 (x : Nat) : putF ("place" : Str) (.int ((x : Int) + 1)) m.f = { m with place := x + 1 }.f := by kernel_rfl
theorem litv_empty : V.str (Str.ofString "") = V.str (S []) := by decide +kernel
theorem litv_note : V.str (Str.ofString "note") = V.str (S NT) := by decide +kernel
theorem litv_nl : V.str (Str.ofString "\n") = V.str (S [LE]) := by decide +kernel
theorem lkn_begin : List.lookup ("begin" : Str) m.f = none := by kernel_rfl
theorem lkn_ended : List.lookup ("ended" : Str) m.f = none := by kernel_rfl
theorem lkn_plain : List.lookup ("plain" : Str) m.f = none := by kernel_rfl
theorem lkn_quoted : List.lookup ("quoted" : Str) m.f = none := by kernel_rfl
theorem lkn_step : List.lookup ("step" : Str) m.f = none := by kernel_rfl
theorem lkn_fault : List.lookup ("fault" : Str) m.f = none := by kernel_rfl
theorem lkn_key : List.lookup ("key" : Str) m.f = none := by kernel_rfl
theorem lkn_told : List.lookup ("told" : Str) r.f = none := by kernel_rfl
theorem lkn_quotes : List.lookup ("quotes" : Str) r.f = none := by kernel_rfl
theorem lkn_special : List.lookup ("special" : Str) r.f = none := by kernel_rfl
theorem oV_inj {x y : Option Tx} : oV x = oV y ↔ x = y := by
  cases x <;> cases y <;> simp [oV, S_inj]
theorem mf_inj {m m' : MS} : m.f = m'.f ↔ m = m' := by
  constructor
  · intro h
    cases m; cases m'
    simp only [MS.f, List.cons.injEq, Prod.mk.injEq, V.ref.injEq, V.str.injEq, V.bl.injEq, V.int.injEq, S_inj, oV_inj, true_and, and_true, Int.natCast_inj] at h
    obtain ⟨h1, h2, h3, h4, h5, h6, h7⟩ := h
    subst h1 h2 h3 h4 h5 h6 h7
    rfl
  · intro h; rw [h]
theorem rf_inj {r r' : RS} : r.f = r'.f ↔ r = r' := by
  constructor
  · intro h
    cases r; cases r'
    simp only [RS.f, List.cons.injEq, Prod.mk.injEq, V.str.injEq, S_inj, true_and, and_true] at h
    obtain ⟨h1, h2, h3, h4, h5⟩ := h
    subst h1 h2 h3 h4 h5
    rfl
  · intro h; rw [h]
theorem pt_open1 (x : Nat) : putF ("opened" : Str) (.int ((x : Int) + 1)) m.f = { m with opened := x + 1 }.f := by kernel_rfl
theorem len_mf : m.f.length < 1000 := by show 7 < 1000; decide
end lk
theorem cx_K {CX : CXT} {P : Program} {w : World} {K : PySem.W.Frag} {mg : Str → Option Value} {base : Heap} {N : List Str} {q : Str} {sc : Scope} {f : Addr} {cd : Value} {A : Around} {o : List Env} {s : Shared} {H : Hp} {E : XK} : (cxOf CX P w K mg base N q sc f cd A o s H E).K = K := rfl
theorem cx_N {CX : CXT} {P : Program} {w : World} {K : PySem.W.Frag} {mg : Str → Option Value} {base : Heap} {N : List Str} {q : Str} {sc : Scope} {f : Addr} {cd : Value} {A : Around} {o : List Env} {s : Shared} {H : Hp} {E : XK} : (cxOf CX P w K mg base N q sc f cd A o s H E).nox.K = K := rfl
local macro_rules | `(tactic| walk_at "rd") => `(tactic| simp only [tSeq, tNext, tAsg, tRet, tRetN, tDrop, tIfS, sFld, sFldAug, tVar, tC, tOp, tUn, tTest, tB, tAnd, tOr, tNot, tAndV, tOrV, tNotV, tIf, tTup, tLst, tCons, tNil, tCB, tCall, tMeth, tMake, tFld, rI, rI0, rU, rEq, rNe, rCat, gName, gTup, gCons, gNil, tPar, tPar3, tBM, tBM0, rAppend, rExtend, rPopAt, rIxL, rIxT, rIxS, tSl, rSlS, rSlL, tPart, tNoPart, iStr, iTup, iList, iRng1, tAug, ipI, L2.rAdd, L2.rSub, L2.rAddS, tChain, rIsB, rNotB, scal_ss, scal_ii, scal_bb, scal_nn, scal_in, scal_ni, tYes,
  cx_K, cx_N, List.getElem?_cons_zero, List.getElem?_cons_succ, List.set_cons_zero, List.set_cons_succ, List.nil_append, List.cons_append, List.append_nil, List.length_cons, List.length_nil, Nat.zero_add,
  Option.some.injEq, V.ref.injEq, V.int.injEq, V.str.injEq, V.bl.injEq, HO.ins.injEq, HO.lst.injEq, HO.tup.injEq, List.cons.injEq, exists_eq_left, exists_eq_left', exists_eq_right, exists_eq_right', and_true, true_and, exists_and_left, exists_and_right, and_assoc, decide_eq_true_eq, Bool.not_eq_true', decide_eq_false_iff_not, reduceCtorEq, exists_const, forall_const, if_true, if_false, false_and, and_false, ite_true, ite_false, Bool.true_eq_false, Bool.false_eq_true, Nat.reduceLeDiff, Nat.reduceAdd, small_line, small_lt, upd_ne, ne_eq, not_false_eq_true, Nat.zero_le, Prod.mk.injEq, upd_same, upd_upd, S_tl, S_len, S_app, S_one, S_inj,
  lk_breaks, lk_hard, lk_soft, lk_bend, lk_note, lk_rules, lk_state, lk_bent, lk_word, lk_begun, lk_opened, lk_place, pt_state, pt_bent, pt_word, pt_wordS, pt_wordN, pt_begun, pt_opened, pt_place, pt_place1, len_mf, litv_empty, litv_note, litv_nl, mf_inj, rf_inj, lkn_begin, lkn_ended, lkn_plain, lkn_quoted, lkn_step, lkn_fault, lkn_key, lkn_told, lkn_quotes, lkn_special, pt_open1, not_true_eq_false, not_false_eq_true])
local macro_rules | `(tactic| walk_at "rdh") => `(tactic| simp only [tSeq, tNext, tAsg, tRet, tRetN, tDrop, tIfS, sFld, sFldAug, tVar, tC, tOp, tUn, tTest, tB, tAnd, tOr, tNot, tAndV, tOrV, tNotV, tIf, tTup, tLst, tCons, tNil, tCB, tCall, tMeth, tMake, tFld, rI, rI0, rU, rEq, rNe, rCat, gName, gTup, gCons, gNil, tPar, tPar3, tBM, tBM0, rAppend, rExtend, rPopAt, rIxL, rIxT, rIxS, tSl, rSlS, rSlL, tPart, tNoPart, iStr, iTup, iList, iRng1, tAug, ipI, L2.rAdd, L2.rSub, L2.rAddS, tChain, rIsB, rNotB, scal_ss, scal_ii, scal_bb, scal_nn, scal_in, scal_ni, tYes,
  cx_K, cx_N, List.getElem?_cons_zero, List.getElem?_cons_succ, List.set_cons_zero, List.set_cons_succ, List.nil_append, List.cons_append, List.append_nil, List.length_cons, List.length_nil, Nat.zero_add,
  Option.some.injEq, V.ref.injEq, V.int.injEq, V.str.injEq, V.bl.injEq, HO.ins.injEq, HO.lst.injEq, HO.tup.injEq, List.cons.injEq, exists_eq_left, exists_eq_left', exists_eq_right, exists_eq_right', and_true, true_and, exists_and_left, exists_and_right, and_assoc, decide_eq_true_eq, Bool.not_eq_true', decide_eq_false_iff_not, reduceCtorEq, exists_const, forall_const, if_true, if_false, false_and, and_false, ite_true, ite_false, Bool.true_eq_false, Bool.false_eq_true, Nat.reduceLeDiff, Nat.reduceAdd, small_line, small_lt, upd_ne, ne_eq, not_false_eq_true, Nat.zero_le, Prod.mk.injEq, upd_same, upd_upd, S_tl, S_len, S_app, S_one, S_inj,
  lk_breaks, lk_hard, lk_soft, lk_bend, lk_note, lk_rules, lk_state, lk_bent, lk_word, lk_begun, lk_opened, lk_place, pt_state, pt_bent, pt_word, pt_wordS, pt_wordN, pt_begun, pt_opened, pt_place, pt_place1, len_mf, litv_empty, litv_note, litv_nl, mf_inj, rf_inj, lkn_begin, lkn_ended, lkn_plain, lkn_quoted, lkn_step, lkn_fault, lkn_key, lkn_told, lkn_quotes, lkn_special, pt_open1, not_true_eq_false, not_false_eq_true, *])
local macro_rules | `(tactic| walk_at "pl") => `(tactic| (first | decide | (refine Nat.lt_of_le_of_lt (length_putF _ _ _) ?_; repeat (first | decide | refine pl2 ?_))))
/-! ### what is told: words with their places -/
def Fnd (H : Hp) (x : V) (d : W3) : Prop := ∃ t u, x = .ref t ∧ H t = some (.tup [.str (S d.1), .ref u]) ∧ H u = some (.tup [.int d.2.1, .int d.2.2])
abbrev Fnds (H : Hp) (xs : List V) (ds : List W3) : Prop := Paired (Fnd H) xs ds
theorem Fnd.mono {H H' : Hp} {x : V} {d : W3} (h : Fnd H x d) (t : Tk H H') : Fnd H' x d := by
  obtain ⟨b, u, e, h1, h2⟩ := h
  exact ⟨b, u, e, t _ _ h1, t _ _ h2⟩
theorem Fnds.mono {H H' : Hp} {xs : List V} {ds : List W3} (h : Fnds H xs ds) (t : Tk H H') : Fnds H' xs ds := Paired.mapP h fun _ _ q => q.mono t
theorem Paired.app {α β : Type} {F : α → β → Prop} : ∀ {l₁ : List α} {l₂ : List β} {m₁ : List α} {m₂ : List β}, Paired F l₁ l₂ → Paired F m₁ m₂ → Paired F (l₁ ++ m₁) (l₂ ++ m₂)
  | _, _, _, _, .nil, h => h
  | _, _, _, _, .cons r t, h => .cons r (Paired.app t h)
/-! ### the machine's invariant -/
structure MS.Ok (m : MS) : Prop where
  st : m.state = [] ∨ m.state = NT ∨ ∃ q, m.state = [q]
  wd : (m.bent = true ∨ ∃ q, m.state = [q]) → ∃ w, m.word = some w
  ln : ∀ w, m.word = some w → w.length ≤ m.place
theorem MS.Ok.zero (r : Addr) : (MS.zero r).Ok := ⟨.inl rfl, fun h => (by rcases h with h | ⟨q, h⟩ <;> cases h), fun w h => (by cases h)⟩
def MS.quoted (r : RS) (m : MS) (c : Nat) : MS :=
  if [c] = m.state then { m with state := [] }
  else if c ∈ r.bend ∧ m.state.all (· ∈ r.soft) = true then { m with bent := true }
  else m.add c
def MS.step (r : RS) (m : MS) (c : Nat) : MS × List W3 :=
  let m1 := if m.state = NT ∧ c = LE then { m with state := [] } else m
  let x := if m1.bent = true then (({ m1 with bent := false } : MS).add c, []) else if m1.state = [] then m1.plain r c else if m1.state = NT then (m1, []) else (m1.quoted r c, [])
  ({ x.1 with place := x.1.place + 1 }, x.2)
def MS.fault (m : MS) : Option Nat := if m.bent = true ∨ (m.state ≠ [] ∧ m.state ≠ NT) then some m.opened else none
section
variable {P : Program} {w : World} {K : PySem.W.Frag} {mg : Str → Option Value} {base : Heap} {a : Ad}
theorem rm_ne {H : Hp} {p q C D dx dr : Addr} {m : MS} {r : RS} (h1 : H p = some (.ins C dx m.f)) (h2 : H q = some (.ins D dr r.f)) : q ≠ p :=
  Ne.symm (ne_of h1 h2 fun z => by injection z with _ _ z; exact absurd (congrArg List.length z) (by show ¬ (7 = 5); decide))
def sp_Machine_init (a : Ad) : Sp := fun vs H Q _ => ∃ p dx r, vs = [.ref p, .ref r] ∧ H p = some (.ins a.c_Machine dx []) ∧
  ∀ H', H' p = some (.ins a.c_Machine dx (MS.zero r).f) → Kp p H H' → Q .non H'
theorem ok_Machine_init (T : Txt K mg a) : FnOk P w K mg base CX0 1 a.f_Machine_init a.d_Machine_init P_Machine_init (sp_Machine_init a) := by
  refine T.F_Machine_init.ok sc_Machine_init (fun vs H Q E h => ?_) (fun cdv A outer s H vs Q E hr h => ?_)
  · obtain ⟨p, dx, m, rfl, _⟩ := h
    rfl
  · obtain ⟨p, dx, r, rfl, hM, k⟩ := h
    refine ⟨_,
(pss_cons (ps_fld (pv 0) (pv 1) rfl)
    (pss_cons (ps_fld (pv 0) (pe_glob (v := .str ("" : Str)) rfl T.g_PLAIN ⟨_, rfl⟩) rfl)
    (pss_cons (ps_fld (pv 0) pe_bl rfl)
    (pss_cons (ps_fld (pv 0) pe_non rfl)
    (pss_cons (ps_fld (pv 0) pe_int rfl)
    (pss_cons (ps_fld (pv 0) pe_int rfl)
    (pss_one (ps_fld (pv 0) pe_int rfl))))))))
      , ?_⟩
    rw [show start N_Machine_init [V.ref p, V.ref r] = [some (.ref p), some (.ref r)] from rfl]
    have hc := T.c_Machine.cl
    have n1 := T.n_Machine_word
    have n2 := T.n_Machine_place
    have n3 := T.n_Machine_begun
    have n4 := T.n_Machine_rules
    have n5 := T.n_Machine_state
    have n6 := T.n_Machine_bent
    have n7 := T.n_Machine_opened
    walk_at "rdh"
    refine ⟨by walk_at "pl", by walk_at "pl", by walk_at "pl", by walk_at "pl", by walk_at "pl", by walk_at "pl", by walk_at "pl", ?_⟩
    refine k _ ?_ kp_upd
    rw [upd_same]
    exact congrArg (fun l => some (HO.ins a.c_Machine dx l)) (show _ = (MS.zero r).f by kernel_rfl)
def sp_begin (a : Ad) : Sp := fun vs H Q _ => ∃ p dx m, vs = [.ref p] ∧ H p = some (.ins a.c_Machine dx (MS.f m)) ∧
  ∀ H', H' p = some (.ins a.c_Machine dx m.begin.f) → Kp p H H' → Q .non H'
theorem ok_Machine_begin (T : Txt K mg a) : FnOk P w K mg base CX0 1 a.f_Machine_begin a.d_Machine_begin P_Machine_begin (sp_begin a) := by
  refine T.F_Machine_begin.ok sc_Machine_begin (fun vs H Q E h => ?_) (fun cdv A outer s H vs Q E hr h => ?_)
  · obtain ⟨p, dx, m, rfl, _⟩ := h
    rfl
  · obtain ⟨p, dx, m, rfl, hM, k⟩ := h
    refine ⟨_,
(pss_one (ps_if (pt_cmpR op_isN (pe_fld (pv 0) rfl) pe_non (nomark _)) (pss_cons (ps_fld (pv 0) pe_str rfl)
    (pss_one (ps_fld (pv 0) (pe_fld (pv 0) rfl) rfl))) pss_nil))
      , ?_⟩
    rw [show start N_Machine_begin [V.ref p] = [some (.ref p)] from rfl]
    have hc := T.c_Machine.cl
    have n1 := T.n_Machine_word
    have n2 := T.n_Machine_place
    have n3 := T.n_Machine_begun
    walk_at "rdh"
    cases hw : m.word with
    | none =>
      simp only [oV, ite_true]
      refine k _ ?_ kp_upd
      rw [upd_same]
      simp only [MS.begin, hw]
    | some z =>
      simp only [oV, reduceCtorEq, ite_false]
      refine k _ ?_ fun b o e _ => e
      rw [hM]
      simp only [MS.begin, hw]
def sp_ended (a : Ad) : Sp := fun vs H Q _ => ∃ p dx m, vs = [.ref p] ∧ H p = some (.ins a.c_Machine dx (MS.f m)) ∧
  ∀ l H' xs, H l = none → H' l = some (.lst xs) → Fnds H' xs m.out → H' p = some (.ins a.c_Machine dx m.drop.f) → Kp p H H' → Q (.ref l) H'
theorem ok_Machine_ended (T : Txt K mg a) : FnOk P w K mg base CX0 1 a.f_Machine_ended a.d_Machine_ended P_Machine_ended (sp_ended a) := by
  refine T.F_Machine_ended.ok sc_Machine_ended (fun vs H Q E h => ?_) (fun cdv A outer s H vs Q E hr h => ?_)
  · obtain ⟨p, dx, m, rfl, _⟩ := h
    rfl
  · obtain ⟨p, dx, m, rfl, hM, k⟩ := h
    refine ⟨_,
(pss_cons (ps_if (pt_cmpR op_isN (pe_fld (pv 0) rfl) pe_non (nomark _)) (pss_one (ps_ret (pe_lst pa_nil))) pss_nil)
    (pss_cons (ps_set (i := 1) sc_Machine_ended.nd rfl (by first | exact Or.inl rfl | exact Or.inr rfl) (pe_lst (pa_cons (pe_tup (pa_cons (pe_fld (pv 0) rfl) (pa_cons (pe_tup (pa_cons (pe_fld (pv 0) rfl) (pa_cons (pe_fld (pv 0) rfl) pa_nil))) pa_nil))) pa_nil)))
    (pss_cons (ps_fld (pv 0) pe_non rfl)
    (pss_one (ps_ret (pv 1))))))
      , ?_⟩
    rw [show start N_Machine_ended [V.ref p] = [some (.ref p), none] from rfl]
    have hc := T.c_Machine.cl
    have n1 := T.n_Machine_word
    have n2 := T.n_Machine_place
    have n3 := T.n_Machine_begun
    walk_at "rdh"
    cases hw : m.word with
    | none =>
      simp only [oV, ite_true]
      intro l hl
      refine k l _ [] hl upd_same ?_ ?_ ((same_new hl).kp _)
      · simp only [MS.out, hw]; exact .nil
      · rw [upd_old hM hl]
        simp only [MS.drop, ← hw]
    | some z =>
      simp only [oV, reduceCtorEq, ite_false]
      intro t ht u hu l hl
      have ht' := none_upd hu
      have n4 := ne_upd hu
      have n5 := ne_upd hl
      have n6 := ne_upd (none_upd' hl n5)
      have n7 := none_upd (none_upd' hl n5)
      have e1 := ne_of_none hM ht
      have e2 := ne_of_none hM ht'
      have e3 := ne_of_none hM n7
      walk_at "rdh"
      refine k l _ [.ref u] n7 ?_ ?_ ?_ ?_
      · rw [upd_ne (Ne.symm e3), upd_same]
      · simp only [MS.out, hw]
        refine .cons ⟨u, t, rfl, ?_, ?_⟩ .nil
        · rw [upd_ne (Ne.symm e2), upd_ne (Ne.symm n5), upd_same]
        · rw [upd_ne (Ne.symm e1), upd_ne (Ne.symm n6), upd_ne (Ne.symm n4), upd_same]
      · rw [upd_same, MS.drop]
      · exact ((((same_new ht).trans (same_new hu)).trans (same_new hl)).kp p).upd
/-- the machine's sign: a sign outside of quoted stretches -/
def sp_plain (a : Ad) : Sp := fun vs H Q _ => ∃ p dx m c dr r, vs = [.ref p, .str (S [c])] ∧ H p = some (.ins a.c_Machine dx (MS.f m)) ∧ H m.rules = some (.ins a.c_Rules dr (RS.f r)) ∧ r.hard.length + r.soft.length ≤ 100 ∧ m.Ok ∧ m.place < 100000 ∧
  ∀ l H' xs, H l = none → H' l = some (.lst xs) → Fnds H' xs (m.plain r c).2 → H' p = some (.ins a.c_Machine dx (m.plain r c).1.f) → Kp p H H' → Q (.ref l) H'
def sp_quotes (a : Ad) : Sp := fun vs H Q _ => ∃ p dr r, vs = [.ref p] ∧ H p = some (.ins a.c_Rules dr (RS.f r)) ∧ r.hard.length + r.soft.length ≤ 100 ∧ Q (.str (S r.quotes)) H
theorem ok_Rules_quotes (T : Txt K mg a) : FnOk P w K mg base CX0 1 a.f_Rules_quotes a.d_Rules_quotes P_Rules_quotes (sp_quotes a) := by
  refine T.F_Rules_quotes.ok sc_Rules_quotes (fun vs H Q E h => ?_) (fun cdv A outer s H vs Q E hr h => ?_)
  · obtain ⟨p, dx, m, rfl, _⟩ := h
    rfl
  · obtain ⟨p, dx, m, rfl, hM, hz, k⟩ := h
    refine ⟨_,
(pss_one (ps_ret (pe_op op_add_str (pe_fld (pv 0) rfl) (pe_fld (pv 0) rfl))))
      , ?_⟩
    rw [show start N_Rules_quotes [V.ref p] = [some (.ref p)] from rfl]
    have hc := T.c_Rules.cl
    have n1 := T.n_Rules_hard
    have n2 := T.n_Rules_soft
    walk_at "rdh"
    exact ⟨Nat.le_trans hz (by decide), k⟩
theorem ok_Machine_plain (T : Txt K mg a) : FnOk P w K mg base CX0 2 a.f_Machine_plain a.d_Machine_plain P_Machine_plain (sp_plain a) := by
  refine T.F_Machine_plain.ok sc_Machine_plain (fun vs H Q E h => ?_) (fun cdv A outer s H vs Q E hr h => ?_)
  · obtain ⟨p, dx, m, c, dr, r, rfl, _⟩ := h
    rfl
  · obtain ⟨p, dx, m, c, dr, r, rfl, hM, hR, hq, ok, hz, k⟩ := h
    have G_Machine_ended := ok_Machine_ended (P := P) (w := w) (base := base) T
    have B_Machine_ended := bi_Machine_ended T
    have G_Machine_begin := ok_Machine_begin (P := P) (w := w) (base := base) T
    have B_Machine_begin := bi_Machine_begin T
    have G_Rules_quotes := ok_Rules_quotes (P := P) (w := w) (base := base) T
    have B_Rules_quotes := bi_Rules_quotes T
    refine ⟨_,
(pss_cons (ps_set (i := 2) sc_Machine_plain.nd rfl (by first | exact Or.inl rfl | exact Or.inr rfl) (pe_fld (pv 0) rfl))
    (pss_cons (ps_if (pt_cmpR op_in_sign (pv 1) (pe_fld (pv 2) rfl) rfl) (pss_one (ps_ret (pe_meth0 (pv 0) T.c_Machine.cl T.m_Machine_ended G_Machine_ended (hr.mono (by decide)) B_Machine_ended .nil pass0))) pss_nil)
    (pss_cons (ps_if (pt_cmpR op_in_sign (pv 1) (pe_fld (pv 2) rfl) rfl) (pss_cons (ps_fld (pv 0) (pe_glob (v := .str ("note" : Str)) rfl T.g_NOTED ⟨_, rfl⟩) rfl)
    (pss_one (ps_ret (pe_meth0 (pv 0) T.c_Machine.cl T.m_Machine_ended G_Machine_ended (hr.mono (by decide)) B_Machine_ended .nil pass0)))) pss_nil)
    (pss_cons (ps_expr (pe_meth0 (pv 0) T.c_Machine.cl T.m_Machine_begin G_Machine_begin (hr.mono (by decide)) B_Machine_begin .nil pass0))
    (pss_cons (ps_if (pt_cmpR op_in_sign (pv 1) (pe_meth0 (pv 2) T.c_Rules.cl T.m_Rules_quotes G_Rules_quotes (hr.mono (by decide)) B_Rules_quotes .nil pass0) rfl) (pss_cons (ps_fld (pv 0) (pv 1) rfl)
    (pss_one (ps_fld (pv 0) (pe_fld (pv 0) rfl) rfl))) (pss_one (ps_if (pt_cmpR op_in_sign (pv 1) (pe_fld (pv 2) rfl) rfl) (pss_cons (ps_fld (pv 0) pe_bl rfl)
    (pss_one (ps_fld (pv 0) (pe_fld (pv 0) rfl) rfl))) (pss_one (ps_fldaug (pv 0) (pv 1) in_addS)))))
    (pss_one (ps_ret (pe_lst pa_nil))))))))
      , ?_⟩
    rw [show start N_Machine_plain [V.ref p, V.str (S [c])] = [some (.ref p), some (.str (S [c])), none] from rfl]
    have hc := T.c_Machine.cl
    have hd := T.c_Rules.cl
    have n1 := T.n_Machine_word
    have n2 := T.n_Machine_place
    have n3 := T.n_Machine_rules
    have n4 := T.n_Machine_state
    have n5 := T.n_Machine_opened
    have n6 := T.n_Machine_bent
    have r1 := T.n_Rules_breaks
    have r2 := T.n_Rules_note
    have r3 := T.n_Rules_bend
    have hne := rm_ne hM hR
    walk_at "rdh"
    refine ite2 (fun c1 => ?_) (fun c1 => ?_)
    · refine ⟨p, dx, m, rfl, hM, fun l H' xs hl h1 h2 h3 h4 => k l H' xs hl h1 ?_ ?_ h4⟩
      · simpa only [MS.plain, if_pos c1] using h2
      · simpa only [MS.plain, if_pos c1] using h3
    refine ite2 (fun c2 => ?_) (fun c2 => ?_)
    · refine ⟨p, dx, _, rfl, upd_same, fun l H' xs hl h1 h2 h3 h4 => k l H' xs (none_upd hl) h1 ?_ ?_ (kp_upd.trans h4)⟩
      · simpa only [MS.plain, if_neg c1, if_pos c2, MS.out] using h2
      · simpa only [MS.plain, if_neg c1, if_pos c2, MS.drop] using h3
    refine ⟨p, dx, m, rfl, hM, fun H' h1 h2 => ?_⟩
    have hR' := h2 _ _ hR hne
    have er : m.begin.rules = m.rules := by unfold MS.begin; split <;> rfl
    have bk : ∀ {o u l}, upd (upd H' p o) l u p = some o → True := fun _ => trivial
    walk_at "rdh"
    refine ⟨_, _, _, rfl, hR', hq, ?_⟩
    walk_at "rdh"
    have fin : ∀ (m' : MS) (l : Addr), upd H' p (.ins a.c_Machine dx m'.f) l = none → MS.plain r m c = (m', []) → Q (.ref l) (upd (upd H' p (.ins a.c_Machine dx m'.f)) l (.lst [])) := fun m' l hl e => by
      have e1 := ne_upd hl
      refine k l _ [] ?_ upd_same ?_ ?_ ?_
      · cases q : H l with
        | none => rfl
        | some o => exact absurd (h2 l o q e1) (by rw [none_upd hl]; intro z; cases z)
      · rw [e]; exact .nil
      · rw [e, upd_ne (Ne.symm e1), upd_same]
      · exact (h2.upd).trans ((same_new hl).kp p)
    refine ite2 (fun c3 => ?_) (fun c3 => ?_)
    · intro l hl
      exact fin _ l hl (by simp only [MS.plain, if_neg c1, if_neg c2, if_pos c3, er])
    refine ite2 (fun c4 => ?_) (fun c4 => ?_)
    · intro l hl
      exact fin _ l hl (by simp only [MS.plain, if_neg c1, if_neg c2, if_neg c3, if_pos c4, er])
    obtain ⟨z, hz1, hz2⟩ : ∃ z, m.begin.word = some z ∧ z.length ≤ m.place := by
      unfold MS.begin
      cases hw : m.word with
      | none => exact ⟨[], rfl, Nat.zero_le _⟩
      | some z => exact ⟨z, hw, ok.ln z hw⟩
    rw [hz1]
    simp only [oV]
    walk_at "rdh"
    refine ⟨Nat.le_trans (Nat.succ_le_of_lt (Nat.lt_of_le_of_lt hz2 hz)) (by decide), fun l hl => ?_⟩
    exact fin _ l hl (by simp only [MS.plain, if_neg c1, if_neg c2, if_neg c3, if_neg c4, MS.add, er, hz1, Option.map])
def sp_quoted (a : Ad) : Sp := fun vs H Q _ => ∃ p dx m c dr r q z, vs = [.ref p, .str (S [c])] ∧ H p = some (.ins a.c_Machine dx (MS.f m)) ∧ H m.rules = some (.ins a.c_Rules dr (RS.f r)) ∧ m.state = [q] ∧ m.word = some z ∧ z.length ≤ m.place ∧ m.place < 100000 ∧
  ∀ H', H' p = some (.ins a.c_Machine dx (m.quoted r c).f) → Kp p H H' → Q .non H'
theorem ok_Machine_quoted (T : Txt K mg a) : FnOk P w K mg base CX0 1 a.f_Machine_quoted a.d_Machine_quoted P_Machine_quoted (sp_quoted a) := by
  refine T.F_Machine_quoted.ok sc_Machine_quoted (fun vs H Q E h => ?_) (fun cdv A outer s H vs Q E hr h => ?_)
  · obtain ⟨p, dx, m, c, dr, r, q, z, rfl, _⟩ := h
    rfl
  · obtain ⟨p, dx, m, c, dr, r, q, z, rfl, hM, hR, hs, hw, hz, hp, k⟩ := h
    obtain ⟨mr, ms, mb, mw, m1, m2, m3⟩ := m
    dsimp only at hs hw hR hz hp
    subst hs hw
    refine ⟨_,
(pss_one (ps_if (pt_cmpR op_eq (pv 1) (pe_fld (pv 0) rfl) (nomark _)) (pss_one (ps_fld (pv 0) (pe_glob (v := .str ("" : Str)) rfl T.g_PLAIN ⟨_, rfl⟩) rfl)) (pss_one (ps_if (PW.pt (pw_and (pt_cmpR op_in_sign (pv 1) (pe_fld (pe_fld (pv 0) rfl) rfl) rfl) (pw_and1 (pt_cmpR op_in_sign (pe_fld (pv 0) rfl) (pe_fld (pe_fld (pv 0) rfl) rfl) rfl)))) (pss_one (ps_fld (pv 0) pe_bl rfl)) (pss_one (ps_fldaug (pv 0) (pv 1) in_addS))))))
      , ?_⟩
    rw [show start N_Machine_quoted [V.ref p, V.str (S [c])] = [some (.ref p), some (.str (S [c]))] from rfl]
    have hc := T.c_Machine.cl
    have hd := T.c_Rules.cl
    have n1 := T.n_Machine_word
    have n3 := T.n_Machine_rules
    have n4 := T.n_Machine_state
    have n6 := T.n_Machine_bent
    have r1 := T.n_Rules_soft
    have r3 := T.n_Rules_bend
    have hne : mr ≠ p := rm_ne hM hR
    walk_at "rdh"
    simp only [oV]
    walk_at "rdh"
    have hl : List.length z + 1 ≤ sizeLine := Nat.le_trans (Nat.succ_le_of_lt (Nat.lt_of_le_of_lt hz hp)) (by decide)
    simp only [MS.quoted, MS.add, List.cons.injEq, and_true, List.all_cons, List.all_nil, Bool.and_true, decide_eq_true_eq, Option.map] at k
    refine ite2 (fun c1 => ?_) (fun c1 => ?_)
    · refine k _ ?_ kp_upd
      rw [upd_same, if_pos c1]
    refine ite2 (fun c2 => ?_) (fun c2 => ?_)
    · refine ite2 (fun c3 => ?_) (fun c3 => ?_)
      · refine k _ ?_ kp_upd
        rw [upd_same, if_neg c1, if_pos ⟨c2, c3⟩]
      · refine ⟨hl, k _ ?_ kp_upd⟩
        rw [upd_same, if_neg c1, if_neg (fun h => c3 h.2)]
    · refine ⟨hl, k _ ?_ kp_upd⟩
      rw [upd_same, if_neg c1, if_neg (fun h => c2 h.1)]
def sp_fault (a : Ad) : Sp := fun vs H Q _ => ∃ p dx m, vs = [.ref p] ∧ H p = some (.ins a.c_Machine dx (MS.f m)) ∧
  ∀ H', Same H H' → Q (match m.fault with | none => .non | some n => .int n) H'
theorem ok_Machine_fault (T : Txt K mg a) : FnOk P w K mg base CX0 1 a.f_Machine_fault a.d_Machine_fault P_Machine_fault (sp_fault a) := by
  refine T.F_Machine_fault.ok sc_Machine_fault (fun vs H Q E h => ?_) (fun cdv A outer s H vs Q E hr h => ?_)
  · obtain ⟨p, dx, m, rfl, _⟩ := h
    rfl
  · obtain ⟨p, dx, m, rfl, hM, k⟩ := h
    refine ⟨_,
(pss_one (ps_ret (pe_ifExp (PW.pt (pw_or (pt_val (pe_fld (pv 0) rfl)) (pw_or1 (pt_cmpR op_notIn_seq (pe_fld (pv 0) rfl) (pe_tup (pa_cons (pe_glob (v := .str ("" : Str)) rfl T.g_PLAIN ⟨_, rfl⟩) (pa_cons (pe_glob (v := .str ("note" : Str)) rfl T.g_NOTED ⟨_, rfl⟩) pa_nil))) rfl)))) (pe_fld (pv 0) rfl) pe_non)))
      , ?_⟩
    rw [show start N_Machine_fault [V.ref p] = [some (.ref p)] from rfl]
    have hc := T.c_Machine.cl
    have n4 := T.n_Machine_state
    have n5 := T.n_Machine_opened
    have n6 := T.n_Machine_bent
    walk_at "rdh"
    refine ite2 (fun c1 => ?_) (fun c1 => ?_)
    · have := k H (Same.refl H)
      rw [MS.fault, if_pos (.inl c1)] at this
      exact this
    intro t ht
    refine ⟨t, _, rfl, .inr (SqT.of upd_same), rfl, rfl, _, rfl, ?_⟩
    have hM' : upd H t (HO.tup [V.str (S []), V.str (S NT)]) p = some (HO.ins a.c_Machine dx m.f) := upd_old hM ht
    have c2 : (if true = true then !inV (V.str (S m.state)) [V.str (S []), V.str (S NT)] else inV (V.str (S m.state)) [V.str (S []), V.str (S NT)]) = decide (m.state ≠ [] ∧ m.state ≠ NT) := by
      simp only [inV, List.any, eqV, S_inj, ite_true, S_beq, Bool.or_false]
      rw [Bool.eq_iff_iff]
      simp only [Bool.not_eq_true', Bool.or_eq_false_iff, decide_eq_false_iff_not, decide_eq_true_eq]
      exact ⟨fun h => ⟨fun e => h.1 e.symm, fun e => h.2 e.symm⟩, fun h => ⟨fun e => h.1 e.symm, fun e => h.2 e.symm⟩⟩
    rw [c2]
    refine ite2 (fun c3 => ?_) (fun c3 => ?_)
    · walk_at "rdh"
      have := k (upd H t (HO.tup [V.str (S []), V.str (S NT)])) (same_new ht)
      rw [MS.fault, if_pos (.inr (of_decide_eq_true c3))] at this
      exact this
    · have := k (upd H t (HO.tup [V.str (S []), V.str (S NT)])) (same_new ht)
      rw [MS.fault, if_neg (fun h => h.elim c1 fun h => c3 (decide_eq_true h))] at this
      exact this
/-! ### a sign -/
theorem MS.rules_begin (m : MS) : m.begin.rules = m.rules := by unfold MS.begin; split <;> rfl
def sp_step (a : Ad) : Sp := fun vs H Q _ => ∃ p dx m c dr r, vs = [.ref p, .str (S [c])] ∧ H p = some (.ins a.c_Machine dx (MS.f m)) ∧ H m.rules = some (.ins a.c_Rules dr (RS.f r)) ∧ r.hard.length + r.soft.length ≤ 100 ∧ m.Ok ∧ m.place < 100000 ∧
  ∀ l H' xs, H l = none → H' l = some (.lst xs) → Fnds H' xs (m.step r c).2 → H' p = some (.ins a.c_Machine dx (m.step r c).1.f) → Kp p H H' → Q (.ref l) H'
theorem ok_Machine_step (T : Txt K mg a) : FnOk P w K mg base CX0 3 a.f_Machine_step a.d_Machine_step P_Machine_step (sp_step a) := by
  refine T.F_Machine_step.ok sc_Machine_step (fun vs H Q E h => ?_) (fun cdv A outer s H vs Q E hr h => ?_)
  · obtain ⟨p, dx, m, c, dr, r, rfl, _⟩ := h
    rfl
  · obtain ⟨p, dx, m, c, dr, r, rfl, hM, hR, hq, ok, hz, k⟩ := h
    have G_Machine_plain := ok_Machine_plain (P := P) (w := w) (base := base) T
    have B_Machine_plain := bi_Machine_plain T
    have G_Machine_quoted := ok_Machine_quoted (P := P) (w := w) (base := base) T
    have B_Machine_quoted := bi_Machine_quoted T
    refine ⟨_,
(pss_cons (ps_set (i := 2) sc_Machine_step.nd rfl (by first | exact Or.inl rfl | exact Or.inr rfl) (pe_lst pa_nil))
    (pss_cons (ps_if (PW.pt (pw_and (pt_cmpR op_eq (pe_fld (pv 0) rfl) (pe_glob (v := .str ("note" : Str)) rfl T.g_NOTED ⟨_, rfl⟩) (nomark _)) (pw_and1 (pt_cmpR op_eq (pv 1) (pe_glob (v := .str ("\n" : Str)) rfl T.g_LINE_END ⟨_, rfl⟩) (nomark _))))) (pss_one (ps_fld (pv 0) (pe_glob (v := .str ("" : Str)) rfl T.g_PLAIN ⟨_, rfl⟩) rfl)) pss_nil)
    (pss_cons (ps_if (pt_val (pe_fld (pv 0) rfl)) (pss_cons (ps_fld (pv 0) pe_bl rfl)
    (pss_one (ps_fldaug (pv 0) (pv 1) in_addS))) (pss_one (ps_if (pt_cmpR op_eq (pe_fld (pv 0) rfl) (pe_glob (v := .str ("" : Str)) rfl T.g_PLAIN ⟨_, rfl⟩) (nomark _)) (pss_one (ps_set (i := 2) sc_Machine_step.nd rfl (by first | exact Or.inl rfl | exact Or.inr rfl) (pe_meth (pv 0) T.c_Machine.cl T.m_Machine_plain G_Machine_plain (hr.mono (by decide)) B_Machine_plain .nil pass0 (pa_cons (pv 1) pa_nil)))) (pss_one (ps_if (pt_cmpR op_ne (pe_fld (pv 0) rfl) (pe_glob (v := .str ("note" : Str)) rfl T.g_NOTED ⟨_, rfl⟩) (nomark _)) (pss_one (ps_expr (pe_meth (pv 0) T.c_Machine.cl T.m_Machine_quoted G_Machine_quoted (hr.mono (by decide)) B_Machine_quoted .nil pass0 (pa_cons (pv 1) pa_nil)))) pss_nil)))))
    (pss_cons (ps_fldaug (pv 0) pe_int in_add)
    (pss_one (ps_ret (pv 2)))))))
      , ?_⟩
    rw [show start N_Machine_step [V.ref p, V.str (S [c])] = [some (.ref p), some (.str (S [c])), none] from rfl]
    have hc := T.c_Machine.cl
    have hd := T.c_Rules.cl
    have n1 := T.n_Machine_word
    have n2 := T.n_Machine_place
    have n4 := T.n_Machine_state
    have n6 := T.n_Machine_bent
    have hne := rm_ne hM hR
    walk_at "rdh"
    intro l0 hl0
    have S1 := same_new (o := HO.lst []) hl0
    have hM1 := S1 _ _ hM
    have hR1 := S1 _ _ hR
    have hL1 : upd H l0 (HO.lst []) l0 = some (HO.lst []) := upd_same
    generalize upd H l0 (HO.lst []) = H1 at *
    have np : p ≠ l0 := ne_of_none hM hl0
    -- the end: the place, and what is told
    have fin : ∀ (m' : MS) (l : Addr) (H' : Hp) (xs : List V), H l = none → H' l = some (.lst xs) → Fnds H' xs (m.step r c).2 → H' p = some (.ins a.c_Machine dx m'.f) → { m' with place := m'.place + 1 } = (m.step r c).1 → Kp p H H' →
        Q (.ref l) (upd H' p (.ins a.c_Machine dx { m' with place := m'.place + 1 }.f)) := fun m' l H' xs h1 h2 h3 h4 h5 h6 => by
      have e1 : l ≠ p := fun z => by rw [z] at h1; rw [h1] at hM; cases hM
      refine k l _ xs h1 ?_ (h3.mono (kp_upd.tk h4 fun _ z => by cases z)) ?_ (h6.upd)
      · rw [upd_ne e1]; exact h2
      · rw [upd_same, h5]
    have fin0 : ∀ m'' : MS, m.step r c = (m'', []) → Q (.ref l0) (upd H1 p (.ins a.c_Machine dx m''.f)) := fun m'' e => by
      refine k l0 _ [] hl0 ?_ (by rw [e]; exact .nil) (by rw [upd_same, e]) ((S1.kp p).upd)
      rw [upd_ne (Ne.symm np)]
      exact hL1
    have word : m.bent = true ∨ (∃ q, m.state = [q]) → ∃ z, m.word = some z ∧ z.length ≤ m.place := fun h => by
      obtain ⟨z, e⟩ := ok.wd h
      exact ⟨z, e, ok.ln z e⟩
    have room : ∀ z : Tx, z.length ≤ m.place → z.length + 1 ≤ sizeLine := fun z h => Nat.le_trans (Nat.succ_le_of_lt (Nat.lt_of_le_of_lt h hz)) (by decide)
    walk_at "rdh"
    by_cases hb : m.bent = true
    · obtain ⟨z, w1, w2⟩ := word (.inl hb)
      simp only [hb, w1, oV, ite_true]
      walk_at "rdh"
      refine ite2 (fun c1 => ?_) (fun c1 => ?_)
      · refine ite2 (fun c2 => ?_) (fun c2 => ?_)
        · exact fin0 _ (by simp [MS.step, c1, c2, hb, MS.add, w1])
        · exact fin0 _ (by simp [MS.step, c1, c2, hb, MS.add, w1])
      · exact fin0 _ (by simp [MS.step, c1, hb, MS.add, w1])
    · have hb' : m.bent = false := by simpa using hb
      simp only [hb', Bool.false_eq_true, ite_false]
      -- plain
      have pl : ∀ (m1 : MS) (H2 : Hp), H2 p = some (.ins a.c_Machine dx m1.f) → Kp p H H2 → m1.rules = m.rules → m1.place = m.place → m1.Ok → m.step r c = ({ (m1.plain r c).1 with place := (m1.plain r c).1.place + 1 }, (m1.plain r c).2) →
          sp_plain a [V.ref p, V.str (S [c])] H2 (fun x H1 => ∃ x_1 x_2 x_3, H1 p = some (HO.ins x_1 x_2 x_3) ∧ Cls K x_1 ∧ NoAttr K x_1 (Str.ofString "place") ∧ ∃ x_4, List.lookup (Str.ofString "place") x_3 = some x_4 ∧
            ∃ i, x_4 = V.int i ∧ ∃ dx' fs', H1 p = some (HO.ins x_1 dx' fs') ∧ fs'.length < 1000 ∧ Q x (upd H1 p (HO.ins x_1 dx' (putF (Str.ofString "place") (V.int (i + 1)) fs')))) E0 := fun m1 H2 h1 h2 h3 h4 h5 h6 => by
        refine ⟨p, dx, m1, c, dr, r, rfl, h1, (by rw [h3]; exact h2 _ _ hR hne), hq, h5, (by rw [h4]; exact hz), fun l H' xs g1 g2 g3 g4 g5 => ?_⟩
        walk_at "rdh"
        refine fin _ l H' xs ?_ g2 (by rw [h6]; exact g3) g4 (by rw [h6]) (h2.trans g5)
        cases e : H l with
        | none => rfl
        | some o =>
          have ne : l ≠ p := fun z => by rw [z] at g1; rw [g1] at h1; cases h1
          have := h2 _ _ e ne
          rw [g1] at this; cases this
      refine ite2 (fun c1 => ?_) (fun c1 => ?_)
      · refine ite2 (fun c2 => ?_) (fun c2 => ?_)
        · refine pl { m with state := [], bent := false } _ upd_same ((S1.kp p).upd) rfl rfl ⟨.inl rfl, fun h => ?_, ok.ln⟩ ?_
          · rcases h with h | ⟨q, h⟩ <;> cases h
          · simp only [MS.step, c1, c2, and_self, ite_true, hb', Bool.false_eq_true, ite_false]
        · have c3 : ¬ m.state = [] := by rw [c1]; intro z; cases z
          refine ite2 (fun c => absurd c c3) (fun _ => ?_)
          refine ite2 (fun c => absurd c1 c) (fun _ => ?_)
          exact fin0 _ (by simp [MS.step, c1, c2, hb'])
      · refine ite2 (fun c2 => ?_) (fun c2 => ?_)
        · refine pl m H1 hM1 (S1.kp p) rfl rfl ok ?_
          simp only [MS.step, if_neg (show ¬ (m.state = NT ∧ c = LE) from fun h => c1 h.1), hb', Bool.false_eq_true, ite_false, if_pos c2]
        · refine ite2 (fun _ => ?_) (fun c => absurd c1 c)
          obtain ⟨q, hs⟩ : ∃ q, m.state = [q] := by
            rcases ok.st with h | h | h
            · exact absurd h c2
            · exact absurd h c1
            · exact h
          obtain ⟨z, w1, w2⟩ := word (.inr ⟨q, hs⟩)
          refine ⟨p, dx, m, c, dr, r, q, z, rfl, hM1, hR1, hs, w1, w2, hz, fun H' g1 g2 => ?_⟩
          walk_at "rdh"
          have hL' := g2 _ _ hL1 (Ne.symm np)
          refine fin (m.quoted r c) l0 H' [] hl0 hL' (by simp [MS.step, c1, c2, hb']; exact .nil) g1 (by simp [MS.step, c1, c2, hb']) ((S1.kp p).trans g2)
end
end Qw

set_option Elab.async false
set_option linter.all false
set_option maxRecDepth 100000
set_option maxHeartbeats 4000000
namespace Qw
open PySem L2
local macro_rules | `(tactic| walk_at "rd") => `(tactic| simp only [tSeq, tNext, tAsg, tRet, tRetN, tDrop, tIfS, sFld, sFldAug, tVar, tC, tOp, tUn, tTest, tB, tAnd, tOr, tNot, tAndV, tOrV, tNotV, tIf, tTup, tLst, tCons, tNil, tCB, tCall, tMeth, tMake, tFld, rI, rI0, rU, rEq, rNe, rCat, gName, gTup, gCons, gNil, tPar, tPar3, tBM, tBM0, rAppend, rExtend, rPopAt, rIxL, rIxT, rIxS, tSl, rSlS, rSlL, tPart, tNoPart, iStr, iTup, iList, iRng1, tAug, ipI, L2.rAdd, L2.rSub, L2.rAddS, tChain, rIsB, rNotB, scal_ss, scal_ii, scal_bb, scal_nn, scal_in, scal_ni, tYes,
  cx_K, cx_N, List.getElem?_cons_zero, List.getElem?_cons_succ, List.set_cons_zero, List.set_cons_succ, List.nil_append, List.cons_append, List.append_nil, List.length_cons, List.length_nil, Nat.zero_add,
  Option.some.injEq, V.ref.injEq, V.int.injEq, V.str.injEq, V.bl.injEq, HO.ins.injEq, HO.lst.injEq, HO.tup.injEq, List.cons.injEq, exists_eq_left, exists_eq_left', exists_eq_right, exists_eq_right', and_true, true_and, exists_and_left, exists_and_right, and_assoc, decide_eq_true_eq, Bool.not_eq_true', decide_eq_false_iff_not, reduceCtorEq, exists_const, forall_const, if_true, if_false, false_and, and_false, ite_true, ite_false, Bool.true_eq_false, Bool.false_eq_true, Nat.reduceLeDiff, Nat.reduceAdd, small_line, small_lt, upd_ne, ne_eq, not_false_eq_true, Nat.zero_le, Prod.mk.injEq, upd_same, upd_upd, S_tl, S_len, S_app, S_one, S_inj,
  lk_breaks, lk_hard, lk_soft, lk_bend, lk_note, lk_rules, lk_state, lk_bent, lk_word, lk_begun, lk_opened, lk_place, pt_state, pt_bent, pt_word, pt_wordS, pt_wordN, pt_begun, pt_opened, pt_place, pt_place1, len_mf, litv_empty, litv_note, litv_nl, mf_inj, rf_inj, lkn_begin, lkn_ended, lkn_plain, lkn_quoted, lkn_step, lkn_fault, lkn_key, lkn_told, lkn_quotes, lkn_special, pt_open1, not_true_eq_false, not_false_eq_true])
local macro_rules | `(tactic| walk_at "rdh") => `(tactic| simp only [tSeq, tNext, tAsg, tRet, tRetN, tDrop, tIfS, sFld, sFldAug, tVar, tC, tOp, tUn, tTest, tB, tAnd, tOr, tNot, tAndV, tOrV, tNotV, tIf, tTup, tLst, tCons, tNil, tCB, tCall, tMeth, tMake, tFld, rI, rI0, rU, rEq, rNe, rCat, gName, gTup, gCons, gNil, tPar, tPar3, tBM, tBM0, rAppend, rExtend, rPopAt, rIxL, rIxT, rIxS, tSl, rSlS, rSlL, tPart, tNoPart, iStr, iTup, iList, iRng1, tAug, ipI, L2.rAdd, L2.rSub, L2.rAddS, tChain, rIsB, rNotB, scal_ss, scal_ii, scal_bb, scal_nn, scal_in, scal_ni, tYes,
  cx_K, cx_N, List.getElem?_cons_zero, List.getElem?_cons_succ, List.set_cons_zero, List.set_cons_succ, List.nil_append, List.cons_append, List.append_nil, List.length_cons, List.length_nil, Nat.zero_add,
  Option.some.injEq, V.ref.injEq, V.int.injEq, V.str.injEq, V.bl.injEq, HO.ins.injEq, HO.lst.injEq, HO.tup.injEq, List.cons.injEq, exists_eq_left, exists_eq_left', exists_eq_right, exists_eq_right', and_true, true_and, exists_and_left, exists_and_right, and_assoc, decide_eq_true_eq, Bool.not_eq_true', decide_eq_false_iff_not, reduceCtorEq, exists_const, forall_const, if_true, if_false, false_and, and_false, ite_true, ite_false, Bool.true_eq_false, Bool.false_eq_true, Nat.reduceLeDiff, Nat.reduceAdd, small_line, small_lt, upd_ne, ne_eq, not_false_eq_true, Nat.zero_le, Prod.mk.injEq, upd_same, upd_upd, S_tl, S_len, S_app, S_one, S_inj,
  lk_breaks, lk_hard, lk_soft, lk_bend, lk_note, lk_rules, lk_state, lk_bent, lk_word, lk_begun, lk_opened, lk_place, pt_state, pt_bent, pt_word, pt_wordS, pt_wordN, pt_begun, pt_opened, pt_place, pt_place1, len_mf, litv_empty, litv_note, litv_nl, mf_inj, rf_inj, lkn_begin, lkn_ended, lkn_plain, lkn_quoted, lkn_step, lkn_fault, lkn_key, lkn_told, lkn_quotes, lkn_special, pt_open1, not_true_eq_false, not_false_eq_true, *])
/-! ### the machine over a text -/
theorem MS.rules_plain (r : RS) (m : MS) (c : Nat) : (m.plain r c).1.rules = m.rules := by
  unfold MS.plain
  repeat' split
  all_goals first | rfl | exact m.rules_begin
theorem MS.rules_quoted (r : RS) (m : MS) (c : Nat) : (m.quoted r c).rules = m.rules := by
  unfold MS.quoted
  repeat' split
  all_goals rfl
theorem MS.place_begin (m : MS) : m.begin.place = m.place := by unfold MS.begin; split <;> rfl
theorem MS.place_plain (r : RS) (m : MS) (c : Nat) : (m.plain r c).1.place = m.place := by
  unfold MS.plain
  repeat' split
  all_goals first | rfl | exact m.place_begin
theorem MS.place_quoted (r : RS) (m : MS) (c : Nat) : (m.quoted r c).place = m.place := by
  unfold MS.quoted
  repeat' split
  all_goals rfl
/-- the sign's ways -/
theorem MS.step_cases (r : RS) (m : MS) (c : Nat) (R : MS × List W3 → Prop)
    (h1 : ∀ m1 : MS, (m1 = m ∨ m1 = { m with state := [] }) → m1.bent = true → R ({ (({ m1 with bent := false } : MS).add c) with place := m1.place + 1 }, []))
    (h2 : ∀ m1 : MS, (m1 = m ∨ m1 = { m with state := [] }) → m1.bent = false → m1.state = [] → R ({ (m1.plain r c).1 with place := (m1.plain r c).1.place + 1 }, (m1.plain r c).2))
    (h3 : m.bent = false → m.state = NT → c ≠ LE → R ({ m with place := m.place + 1 }, []))
    (h4 : m.bent = false → m.state ≠ [] → m.state ≠ NT → R ({ (m.quoted r c) with place := (m.quoted r c).place + 1 }, [])) : R (m.step r c) := by
  by_cases e : m.state = NT ∧ c = LE
  · simp only [MS.step, if_pos e]
    by_cases b : m.bent = true
    · simp only [if_pos b]
      exact h1 _ (.inr rfl) b
    · have b' : m.bent = false := by simpa using b
      simp only [if_neg b, if_true]
      exact h2 _ (.inr rfl) b' rfl
  · simp only [MS.step, if_neg e]
    by_cases b : m.bent = true
    · simp only [if_pos b]
      exact h1 _ (.inl rfl) b
    · have b' : m.bent = false := by simpa using b
      simp only [if_neg b]
      by_cases s1 : m.state = []
      · simp only [if_pos s1]
        exact h2 _ (.inl rfl) b' s1
      · by_cases s2 : m.state = NT
        · simp only [if_neg s1, if_pos s2]
          exact h3 b' s2 fun z => e ⟨s2, z⟩
        · simp only [if_neg s1, if_neg s2]
          exact h4 b' s1 s2
theorem MS.Ok.begin {m : MS} (ok : m.Ok) : m.begin.Ok ∧ ∃ w, m.begin.word = some w := by
  unfold MS.begin
  cases h : m.word with
  | none => exact ⟨⟨ok.st, fun _ => ⟨[], rfl⟩, fun w e => by cases e; exact Nat.zero_le _⟩, ⟨[], rfl⟩⟩
  | some w => exact ⟨ok, ⟨w, h⟩⟩
theorem MS.Ok.step {m : MS} (ok : m.Ok) (r : RS) (c : Nat) : (m.step r c).1.Ok := by
  have same : ∀ m1 : MS, (m1 = m ∨ m1 = { m with state := [] }) → m1.bent = false ∨ m1 = m → m1.Ok := fun m1 h b => by
    rcases h with h | h
    · rw [h]; exact ok
    · rcases b with b | b
      · rw [h] at b ⊢
        exact ⟨.inl rfl, fun z => z.elim (fun z => absurd (b.symm.trans z) (by decide)) (fun ⟨q, z⟩ => nomatch z), ok.ln⟩
      · rw [b]; exact ok
  refine MS.step_cases r m c (fun x => x.1.Ok) (fun m1 h b => ?_) (fun m1 h b s1 => ?_) (fun b s1 _ => ?_) fun b s1 s2 => ?_
  · have e : m1.word = m.word ∧ m1.place = m.place ∧ (m1.bent = true → ∃ w, m1.word = some w) ∧ (m1.state = [] ∨ m1.state = NT ∨ ∃ q, m1.state = [q]) := by
      rcases h with h | h <;> subst h
      · exact ⟨rfl, rfl, fun z => ok.wd (.inl z), ok.st⟩
      · exact ⟨rfl, rfl, fun z => ok.wd (.inl z), .inl rfl⟩
    obtain ⟨w, hw⟩ := e.2.2.1 b
    refine ⟨e.2.2.2, fun _ => ⟨w ++ [c], by simp [MS.add, hw]⟩, fun w' e' => ?_⟩
    simp only [MS.add, hw, Option.map, Option.some.injEq] at e'
    subst e'
    have := ok.ln w (e.1 ▸ hw)
    simp only [List.length_append, List.length_cons, List.length_nil]
    show _ ≤ m1.place + 1
    rw [e.2.1]; omega
  · have ok1 := same m1 h (.inl b)
    have up : ∀ m2 : MS, m2.Ok → ({ m2 with place := m2.place + 1 } : MS).Ok := fun m2 o => ⟨o.st, o.wd, fun w e => Nat.le_succ_of_le (o.ln w e)⟩
    suffices q : ((m1.plain r c).1).Ok ∨ (∃ w, m1.begin.word = some w ∧ (m1.plain r c).1 = m1.begin.add c) by
      rcases q with q | ⟨w, hw, q⟩
      · exact up _ q
      · have o := ok1.begin.1
        show ({ (m1.plain r c).1 with place := (m1.plain r c).1.place + 1 } : MS).Ok
        rw [q]
        refine ⟨o.st, fun _ => ⟨w ++ [c], by simp [MS.add, hw]⟩, fun w' e' => ?_⟩
        simp only [MS.add, hw, Option.map, Option.some.injEq] at e'
        subst e'
        have := o.ln w hw
        simp only [List.length_append, List.length_cons, List.length_nil, MS.add]
        omega
    have o := ok1.begin
    unfold MS.plain
    split
    · exact .inl ⟨ok1.st, fun z => z.elim (fun z => absurd (b.symm.trans z) (by decide)) (fun ⟨q, z⟩ => absurd (s1.symm.trans z) (by intro y; cases y)), fun w e => by cases e⟩
    split
    · exact .inl ⟨.inr (.inl rfl), fun z => z.elim (fun z => absurd (b.symm.trans z) (by decide)) (fun ⟨q, z⟩ => absurd (show NT = [q] from z) (by intro y; cases y)), fun w e => by cases e⟩
    split
    · exact .inl ⟨.inr (.inr ⟨c, rfl⟩), fun _ => o.2, o.1.ln⟩
    split
    · exact .inl ⟨o.1.st, fun _ => o.2, o.1.ln⟩
    · obtain ⟨w, hw⟩ := o.2
      exact .inr ⟨w, hw, rfl⟩
  · exact ⟨ok.st, ok.wd, fun w e => Nat.le_succ_of_le (ok.ln w e)⟩
  · obtain ⟨q, hq⟩ : ∃ q, m.state = [q] := by
      rcases ok.st with h | h | h
      · exact absurd h s1
      · exact absurd h s2
      · exact h
    obtain ⟨w, hw⟩ := ok.wd (.inr ⟨q, hq⟩)
    have l := ok.ln w hw
    show ({ m.quoted r c with place := (m.quoted r c).place + 1 } : MS).Ok
    rw [MS.place_quoted]
    unfold MS.quoted
    split
    · exact ⟨.inl rfl, fun _ => ⟨w, hw⟩, fun w' e => Nat.le_succ_of_le (ok.ln w' e)⟩
    split
    · exact ⟨.inr (.inr ⟨q, hq⟩), fun _ => ⟨w, hw⟩, fun w' e => Nat.le_succ_of_le (ok.ln w' e)⟩
    · refine ⟨.inr (.inr ⟨q, hq⟩), fun _ => ⟨w ++ [c], by simp [MS.add, hw]⟩, fun w' e' => ?_⟩
      simp only [MS.add, hw, Option.map, Option.some.injEq] at e'
      subst e'
      simp only [List.length_append, List.length_cons, List.length_nil]
      omega
theorem MS.place_step (r : RS) (m : MS) (c : Nat) : (m.step r c).1.place = m.place + 1 := by
  refine MS.step_cases r m c (fun x => x.1.place = m.place + 1) (fun m1 h _ => ?_) (fun m1 h _ _ => ?_) (fun _ _ _ => rfl) fun _ _ _ => congrArg (· + 1) (m.place_quoted r c)
  · rcases h with h | h <;> subst h <;> rfl
  · show (m1.plain r c).1.place + 1 = _
    rw [MS.place_plain]
    rcases h with h | h <;> subst h <;> rfl
theorem MS.rules_step (r : RS) (m : MS) (c : Nat) : (m.step r c).1.rules = m.rules := by
  refine MS.step_cases r m c (fun x => x.1.rules = m.rules) (fun m1 h _ => ?_) (fun m1 h _ _ => ?_) (fun _ _ _ => rfl) fun _ _ _ => m.rules_quoted r c
  · rcases h with h | h <;> subst h <;> rfl
  · show (m1.plain r c).1.rules = _
    rw [MS.rules_plain]
    rcases h with h | h <;> subst h <;> rfl
theorem MS.out_step (r : RS) (m : MS) (c : Nat) : (m.step r c).2.length ≤ 1 := by
  have o : ∀ m1 : MS, m1.out.length ≤ 1 := fun m1 => by unfold MS.out; split <;> simp
  refine MS.step_cases r m c (fun x => x.2.length ≤ 1) (fun m1 h _ => Nat.zero_le _) (fun m1 h _ _ => ?_) (fun _ _ _ => Nat.zero_le _) fun _ _ _ => Nat.zero_le _
  show (m1.plain r c).2.length ≤ 1
  unfold MS.plain
  repeat' split
  all_goals first | exact o m1 | exact Nat.zero_le _
def MS.run (r : RS) (m : MS) : Tx → MS × List W3
  | [] => (m, [])
  | c :: t => (((m.step r c).1.run r t).1, (m.step r c).2 ++ ((m.step r c).1.run r t).2)
theorem MS.run_app (r : RS) : ∀ (t u : Tx) (m : MS), m.run r (t ++ u) = (((m.run r t).1.run r u).1, (m.run r t).2 ++ ((m.run r t).1.run r u).2)
  | [], u, m => by simp [MS.run]
  | c :: t, u, m => by
    have ih := MS.run_app r t u (m.step r c).1
    simp only [List.cons_append, MS.run, ih, List.append_assoc]
theorem MS.run_one (r : RS) (t : Tx) (c : Nat) (m : MS) : m.run r (t ++ [c]) = (((m.run r t).1.step r c).1, (m.run r t).2 ++ ((m.run r t).1.step r c).2) := by
  rw [MS.run_app]
  simp [MS.run]
theorem MS.Ok.run (r : RS) : ∀ (t : Tx) {m : MS}, m.Ok → (m.run r t).1.Ok
  | [], _, ok => ok
  | c :: t, m, ok => MS.Ok.run r t (ok.step r c)
theorem MS.place_run (r : RS) : ∀ (t : Tx) (m : MS), (m.run r t).1.place = m.place + t.length
  | [], _ => rfl
  | c :: t, m => by
    show ((m.step r c).1.run r t).1.place = _
    rw [MS.place_run r t, MS.place_step, List.length_cons]; omega
theorem MS.rules_run (r : RS) : ∀ (t : Tx) (m : MS), (m.run r t).1.rules = m.rules
  | [], _ => rfl
  | c :: t, m => by
    show ((m.step r c).1.run r t).1.rules = _
    rw [MS.rules_run r t, MS.rules_step]
theorem MS.out_run (r : RS) : ∀ (t : Tx) (m : MS), (m.run r t).2.length ≤ t.length
  | [], _ => Nat.le_refl _
  | c :: t, m => by
    show ((m.step r c).2 ++ ((m.step r c).1.run r t).2).length ≤ _
    rw [List.length_append, List.length_cons]
    have h1 := MS.out_step r m c
    have h2 := MS.out_run r t (m.step r c).1
    omega
theorem take_more {α : Type} : ∀ {l : List α} {i : Nat} {x : α}, l[i]? = some x → l.take (i + 1) = l.take i ++ [x]
  | [], i, x, h => by simp at h
  | a :: l, 0, x, h => by
    have e : a = x := Option.some.inj h
    subst e
    rfl
  | a :: l, i + 1, x, h => by
    have ih := take_more (l := l) (i := i) (x := x) h
    simp only [List.take_succ_cons, List.cons_append, List.cons.injEq, true_and]
    exact ih
/-- all words with their places, or the fault's place -/
def readAll (r : RS) (t : Tx) (rp : Addr) : Except Nat (List W3) :=
  match ((MS.zero rp).run r t).1.fault with
  | some n => .error n
  | none => .ok (((MS.zero rp).run r t).2 ++ ((MS.zero rp).run r t).1.out)
section
variable {P : Program} {w : World} {K : PySem.W.Frag} {mg : Str → Option Value} {base : Heap} {a : Ad}
/-- what read_all tells, at a new tuple -/
def ToldAll (H H' : Hp) (tp : Addr) (x : Except Nat (List W3)) : Prop :=
  match x with
  | .error n => H' tp = some (.tup [.non, .int n])
  | .ok ds => ∃ l xs, H l = none ∧ H' tp = some (.tup [.ref l, .non]) ∧ H' l = some (.lst xs) ∧ Fnds H' xs ds
def sp_read_all (a : Ad) : Sp := fun vs H Q _ => ∃ rp dr r t, vs = [.ref rp, .str (S t)] ∧ H rp = some (.ins a.c_Rules dr (RS.f r)) ∧ r.hard.length + r.soft.length ≤ 100 ∧ t.length ≤ 50000 ∧
  ∀ tp H', H tp = none → Same H H' → ToldAll H H' tp (readAll r t rp) → Q (.ref tp) H'
theorem ok_read_all (T : Txt K mg a) : FnOk P w K mg base CX0 4 a.f_read_all a.d_read_all P_read_all (sp_read_all a) := by
  refine T.F_read_all.ok sc_read_all (fun vs H Q E h => ?_) (fun cdv A outer s H vs Q E hr h => ?_)
  · obtain ⟨rp, dr, r, t, rfl, _⟩ := h
    rfl
  · obtain ⟨rp, dr, r, t, rfl, hR, hq, ht, k⟩ := h
    have G_Machine_init := ok_Machine_init (P := P) (w := w) (base := base) T
    have B_Machine_init := bi_Machine_init T
    have G_Machine_step := ok_Machine_step (P := P) (w := w) (base := base) T
    have B_Machine_step := bi_Machine_step T
    have G_Machine_fault := ok_Machine_fault (P := P) (w := w) (base := base) T
    have B_Machine_fault := bi_Machine_fault T
    have G_Machine_ended := ok_Machine_ended (P := P) (w := w) (base := base) T
    have B_Machine_ended := bi_Machine_ended T
    refine ⟨_,
(pss_cons (ps_par (i := 2) (j := 3) (by rfl) sc_read_all.nd rfl rfl (by decide) rfl rfl (pa_cons (pe_make T.c_Machine.mc G_Machine_init (hr.mono (by decide)) rfl T.c_Machine.g B_Machine_init .nil pass0 (pa_cons (pv 0) pa_nil)) (pa_cons (pe_lst pa_nil) pa_nil)) (by rfl))
    (pss_cons (ps_for PassesOwn.never rfl (pi_str (pv 1)) (pg_name (i := 4) sc_read_all.nd rfl (by first | exact Or.inl rfl | exact Or.inr rfl))
    (pss_one (ps_expr (pe_bm PySem.F.plainAttrs_list PySem.F.slot_list_extend PySem.F.type_list_extend mt_extend (pv 3) (pa_cons (pe_meth (pv 2) T.c_Machine.cl T.m_Machine_step G_Machine_step (hr.mono (by decide)) B_Machine_step .nil pass0 (pa_cons (pv 4) pa_nil)) pa_nil)))))
    (pss_cons (ps_if (pt_cmpR op_notN (pe_meth0 (pv 2) T.c_Machine.cl T.m_Machine_fault G_Machine_fault (hr.mono (by decide)) B_Machine_fault .nil pass0) pe_non (nomark _)) (pss_one (ps_ret (pe_tup (pa_cons pe_non (pa_cons (pe_meth0 (pv 2) T.c_Machine.cl T.m_Machine_fault G_Machine_fault (hr.mono (by decide)) B_Machine_fault .nil pass0) pa_nil))))) pss_nil)
    (pss_one (ps_ret (pe_tup (pa_cons (pe_op op_cat (pv 3) (pe_meth0 (pv 2) T.c_Machine.cl T.m_Machine_ended G_Machine_ended (hr.mono (by decide)) B_Machine_ended .nil pass0)) (pa_cons pe_non pa_nil))))))))
      , ?_⟩
    rw [show start N_read_all [V.ref rp, V.str (S t)] = [some (.ref rp), some (.str (S t)), none, none, none] from rfl]
    have hc := T.c_Machine.cl
    walk_at "rd"
    intro p dx hp hdx ne
    refine ⟨p, dx, rp, rfl, upd_same, fun H1 h1 h2 => ⟨rfl, fun f hf => ?_⟩⟩
    have S1 : Same H H1 := Same.made hp hdx h2
    have nf : H f = none := S1.free hf
    have npf : p ≠ f := ne_of_none h1 hf
    refine ⟨_, rfl, S t, rfl, for_it (n := t.length) (G := fun _ => True) (Y := fun i H v H' => H' = H ∧ ∃ c, t[i]? = some c ∧ v = .str (S [c])) ?_ (fun i σ H2 => ∃ v xs, σ = [some (.ref rp), some (.str (S t)), some (.ref p), some (.ref f), v] ∧
      H2 p = some (.ins a.c_Machine dx (((MS.zero rp).run r (t.take i)).1).f) ∧ H2 f = some (.lst xs) ∧ Fnds H2 xs ((MS.zero rp).run r (t.take i)).2 ∧ Same H H2)
      ?_ (fun _ _ _ _ _ => trivial) ?_ ?_⟩
    · have w := walk_str (z := S t)
      rw [S_size] at w
      exact w.mono (fun _ _ => trivial) fun i H x H' hi _ ⟨e, c, h1, h2⟩ => ⟨e, c, by simpa [S] using h1, h2⟩
    · refine ⟨none, [], rfl, ?_, upd_same, .nil, (S1.mut nf)⟩
      rw [upd_ne npf]
      exact h1
    · rintro i x σ H2 H3 hi ⟨v, xs, rfl, g1, g2, g3, g4⟩ ⟨rfl, c, hc1, rfl⟩
      walk_at "rdh"
      have pl : ((MS.zero rp).run r (t.take i)).1.place = i := by
        rw [MS.place_run, List.length_take]
        show 0 + _ = i
        omega
      have ru : ((MS.zero rp).run r (t.take i)).1.rules = rp := MS.rules_run r _ _
      have ok := (MS.Ok.zero rp).run r (t.take i)
      have e1 := take_more hc1
      have pf : f ≠ p := Ne.symm npf
      have el : xs.length ≤ i := by
        have h1 := g3.length
        have h2 := MS.out_run r (t.take i) (MS.zero rp)
        rw [List.length_take] at h2
        omega
      refine ⟨.inl ⟨rfl, _, .inl (.inl g2)⟩, p, dx, _, c, dr, r, rfl, g1, (by rw [ru]; exact g4 _ _ hR), hq, ok, (by rw [pl]; omega), fun l H' ys q1 q2 q3 q4 q5 => ?_⟩
      have nlf : l ≠ f := fun z => by rw [z, g2] at q1; cases q1
      refine ⟨l, rfl, xs, q5 _ _ g2 pf, ys, q2, ?_, ?_, ?_, ?_⟩
      · have h1 := q3.length
        have h2 := MS.out_step r ((MS.zero rp).run r (t.take i)).1 c
        exact Nat.le_trans (show xs.length + ys.length ≤ 100000 by omega) (by decide)
      · rw [e1, MS.run_one]
        exact q4
      · rw [e1, MS.run_one]
        have k2 : Tk H' (upd H' f (.lst (xs ++ ys))) := kp_upd.tk (q5 _ _ g2 pf) fun _ z => by cases z
        exact Paired.app ((g3.mono (q5.tk g1 fun _ z => by cases z)).mono k2) (q3.mono k2)
      · refine Same.mut (fun b o e => q5 b o (g4 b o e) fun z => ?_) nf
        rw [z, hp] at e; cases e
    · rintro σ H2 ⟨v, xs, rfl, g1, g2, g3, g4⟩
      rw [List.take_length] at g1 g3
      walk_at "rdh"
      refine ⟨p, dx, _, rfl, g1, fun H3 s3 => ?_⟩
      have nof : f ≠ p := Ne.symm npf
      cases ef : ((MS.zero rp).run r t).1.fault with
      | some n =>
        simp only [ef]
        refine ite2 (fun _ => ?_) (fun c => absurd (by intro z; cases z) c)
        refine ⟨dx, _, s3 _ _ g1, lkn_fault _, p, dx, _, rfl, s3 _ _ g1, fun H4 s4 => ?_⟩
        simp only [ef]
        intro tp htp
        refine k tp _ (((g4.trans s3).trans s4).free htp) (((g4.trans s3).trans s4).trans (same_new htp)) ?_
        simp only [readAll, ef, ToldAll]
        exact upd_same
      | none =>
        simp only [ef]
        refine ite2 (fun c => absurd trivial c) (fun _ => ?_)
        refine ⟨dx, _, s3 _ _ g1, lkn_ended _, p, dx, _, rfl, s3 _ _ g1, fun l H4 ys q1 q2 q3 q4 q5 => ?_⟩
        have f4 := q5 _ _ (s3 _ _ g2) nof
        have S4 : Same H H4 := fun b o e => q5 b o (s3 _ _ (g4 b o e)) fun z => by rw [z, hp] at e; cases e
        refine ⟨l, rfl, xs, f4, ys, q2, ?_, fun l2 h2' tp htp => ?_⟩
        · have h1 := q3.length
          have h2 := g3.length
          have h3 := MS.out_run r t (MS.zero rp)
          have h4 : ((MS.zero rp).run r t).1.out.length ≤ 1 := by unfold MS.out; split <;> simp
          exact Nat.le_trans (show xs.length + ys.length ≤ 100000 by omega) (by decide)
        have htp' := none_upd htp
        have n1 := ne_upd htp
        have s5 := same_new (o := HO.lst (xs ++ ys)) h2'
        have s6 := same_new (o := HO.tup [V.ref l2, V.non]) htp
        refine k tp _ (S4.free htp') ((S4.trans s5).trans s6) ?_
        simp only [readAll, ef, ToldAll]
        refine ⟨l2, xs ++ ys, S4.free h2', upd_same, ?_, ?_⟩
        · rw [upd_ne (Ne.symm n1), upd_same]
        · have tk : Tk H4 _ := (s5.trans s6).tk
          exact Paired.app (((g3.mono s3.tk).mono (q5.tk (s3 _ _ g1) fun _ z => by cases z)).mono tk) (q3.mono tk)
end
end Qw

set_option Elab.async false
set_option linter.all false
set_option maxRecDepth 100000
set_option maxHeartbeats 4000000
/-! promises of defs that know that no list is being shown around them; str of data -/
namespace Qw
open PySem L2 PySem.Spec PyProof.Rows

def Free (A : Around) : Prop := A.guards = some []
theorem Free.deeper {A : Around} (h : Free A) (e : Env) : Free (A.deeper e) := h
theorem free_caller : Free callerA := rfl

structure FnG (P : Program) (w : World) (K : PySem.W.Frag) (mg : Str → Option Value) (base : Heap) (k : Nat) (f : Addr) (fd : FuncData) (ps : List Str) (sp : Sp) : Prop where
  lenG : ∀ vs H Q E, sp vs H Q E → vs.length = ps.length
  runG : ∀ (A : Around) (out : List Env) (s : Shared) (H : Hp) (as : Args) (us : List Value) (vs : List V) (Q : VK) (E : XK),
    Free A → Room k A → Env0 P w K mg base A out s H → BindsTo s fd as (ps.zip us) → Vals vs us → sp vs H Q E → codeAny (model P w) A (.call (.ref f) as) (CR CX0 out P w H s Q E) s
section
variable {P : Program} {w : World} {K : PySem.W.Frag} {mg : Str → Option Value} {base : Heap}

theorem fnG_of {k : Nat} {x qual : Str} {st : Stmt} {f : Addr} {fd : FuncData} {N ps : List Str} {sp : Sp} (F : L2.Fun K x qual st f fd) (S : FnScope N ps (defScope st))
    (ln : ∀ vs H Q E, sp vs H Q E → vs.length = ps.length)
    (hb : ∀ (cd : Value) (A : Around) (out : List Env) (s : Shared) (H : Hp) (vs : List V) (Q : VK) (E : XK),
      Free (A.deeper (envOfC qual (defScope st) s.heap.objs.size f cd)) → Room k (A.deeper (envOfC qual (defScope st) s.heap.objs.size f cd)) → sp vs H Q E →
      ∃ t, PSs (cxOf CX0 P w K mg base N qual (defScope st) f cd A out s H E).nox (defBody st) t ∧ t { nx := fun _ H' => Q .non H', rt := Q } (start N vs) H) :
    FnG P w K mg base (k + 1) f fd ps sp := by
  obtain ⟨oc, od, kV, doc, pm, an, cd, ct, osl, rfl, lk, hc⟩ := F.ex
  refine ⟨ln, fun A out s H as us vs Q E hf hr e0 b r q => ?_⟩
  have KX : K.In s.heap := e0.mod.kin.keeps fun _ _ e => (e0.bs _ _ e).1
  have lim : s.heap.NoLimit := e0.mod.nolimit.keeps fun _ _ e => (e0.bs _ _ e).1
  have kinds : ∀ y ∈ ps.zip us, (defScope st).names.lookup y.1 = some .local ∨
      ((defScope st).names.lookup y.1 = some .cell ∧ ((cellsFrom (s.heap.objs.size + 1) (defScope st).names []).lookup y.1).isSome = true) := by
    rintro ⟨n, v⟩ hy
    exact (S.par n (List.of_mem_zip hy).1).imp id fun z => ⟨z, PySem.W.cellsFrom_some _ _ _ (.inl z)⟩
  refine codeAny_call_function hr.depth (KX _ _ lk) rfl S.co
    S.gen rfl (PySem.W.codeRec_of KX hc) (b _ _ _ _ ?_)
  refine wpAny_newFunctionEnv_cells S.kind kinds fun env he s1 x => ?_
  cases he
  refine ⟨lim.keeps x.toInCall.keep, codeAny_func ?_⟩
  obtain ⟨t, ht, hq⟩ := hb cd A out s H vs Q E (hf.deeper _) (hr.deeper _) q
  have J := inv_start (CX := CX0) (P := P) (w := w) (K := K) (mg := mg) (base := base) (N := N) (cd := cd) (E := E) S hr.hd e0 (ln _ _ _ _ q) r x
  refine wpAny_mono (ht.nox.run [] s1 (start N vs) H _ J hq) (fun fl s' hs => ?_) fun _ _ hs => hs
  cases fl with
  | brk => exact hs.elim fun _ z => z.elim fun _ z => z.2.elim
  | cont => exact hs.elim fun _ z => z.elim fun _ z => z.2.elim
  | ret u =>
    obtain ⟨v, σ', H', I, rv, h⟩ := hs
    exact ⟨v, H', I.os, I.bare, I.base, I.hok, rv, h⟩
  | next =>
    obtain ⟨σ', H', I, h⟩ := hs
    exact ⟨V.non, H', I.os, I.bare, I.base, I.hok, rfl, h⟩
end

section
variable {X : Cx} {k : Nat} {f : Addr} {fd : FuncData} {ps : List Str} {sp : Sp} {dvs : List V} {ds : List Value} {E : XK} {x : Str} {p pos : Pos} {e : Expr} {es : List Expr} {t : TA}
theorem run_fnG {pins : List (Addr × Obj)} {σ : L2.St} {H : Hp} {s : Shared} {Q : VK} {us : List Value} {vs : List V} (F : FnG X.prog X.w X.K X.mg X.base k f fd ps sp) (hf : Free X.A) (hr : Room k X.A)
    (hb : Binds X.K fd ps []) (I : Inv X pins σ H s) (r : Vals vs us) (h : sp vs H Q E) : wpAny (model X.prog X.w) X.A (call (.ref f) us) (EP X pins σ Q) X.xe s := by
  have hl : (us ++ []).length = ps.length := by
    rw [List.append_nil, ← r.length]
    exact F.lenG _ _ _ _ h
  have bd := hb s us I.kIn hl
  rw [List.append_nil] at bd
  refine wpAny_call (codeAny_mono (F.runG X.A X.stack s H ⟨us, []⟩ us vs Q E hf hr I.env0 bd r h) fun y s' q => ?_)
  match y, q with
  | .error _, q => exact q.elim
  | .ok (.ret u), q => exact I.after q
theorem pe_callG (F : FnG X.prog X.w X.K X.mg X.base k f fd ps sp) (hf : Free X.A) (hr : Room k X.A) (hg : Gl X x) (hm : X.mg x = some (.ref f)) (hk : PySem.W.keepIn X.K (.ref f) = true) (hb : Binds X.K fd ps [])
    (ha : PA X (e :: es) t) (hdb : (x == ("__debug__" : Str)) = false := by decide) (he : starEach (e :: es) X.env = (false, eval e X.env) :: starEach es X.env := by rfl)
    (hpl : (backTo pos (starEach es X.env)).any (·.1) = false := by rfl) : PE X (.Call (.Name x p) (e :: es) [] pos) (tCall sp [] E0 t) := by
  refine ⟨fun pins s σ H Q I h => wpAny_Call_Name_kw (ld_glob I hg hm ?_ hdb)⟩
  refine PySem.W.callWith_K (h₀ := X.base) I.ok.mod.kin hk ?_ he hpl
  refine thn (ha.run pos pins s σ H _ I h) fun us s1 ⟨vs, H1, I1, r, q⟩ => ⟨I1.kIn, ?_⟩
  have q : sp (vs ++ []) H1 Q E0 := q
  rw [List.append_nil] at q
  exact run_fnG F hf hr hb I1 r q
/-- str(x) of data that holds no dict -/
theorem call_str_data (hf : Free X.A) (hu : X.A.units + 64 < cLine) : CallR X (.type "str") (fun xs H Q => ∃ a d, xs = [.ref a] ∧ Dp X.K H (.ref a) d ∧ d.showable = true ∧ d.hasDict = false ∧ d.depth ≤ 32 ∧ d.shown.length ≤ sizeLine ∧
    Q (.str d.shown) H) := by
  intro pins s σ H xs us Q I r h
  obtain ⟨a, d, rfl, hd, h1, h2, h3, h4, q⟩ := h
  obtain ⟨u, rfl, ru⟩ := vals1 r
  obtain ⟨as, rd⟩ := Dp.reads I d _ u hd ru
  cases ru
  refine str_of_reads rd h1 (PyData.noDict_hsm h2) hf (by omega) (fun _ _ e => e) (fun h' u tk hk => ?_) h4
  exact ⟨.str d.shown, H, I.kept (t' := tk) hk, ⟨u, rfl⟩, q⟩
end

/-! ### the end -/
theorem law_callG {P : Program} {w : World} {K : PySem.W.Frag} {mg mb : Str → Option Value} {k : Nat} {fa a : Addr} {fd : FuncData} {x : Str} {sp : Sp} {s₁ : Shared} {vs : List Value} {ns : List Int}
    (KX : K.In s₁.heap) (hns : s₁.heap.Ns mainGlobals mg) (hb : s₁.heap.Ns builtinsNs mb) (hbb : ∀ x : Str, x ≠ "__name__" → mb x = bootBuiltins x)
    (hlim : s₁.heap.NoLimit) (hg : s₁.gens = #[]) (ha : s₁.heap.get? a = some { cls := .type "list", data := .seq vs.toArray }) (hi : IntsAre vs ns)
    (hl : ns.length ≤ sizeLine) (hr : Room k callerA) (F : ∀ base : Heap, K.In base → base.Ns mainGlobals mg → FnG P w K mg base k fa fd [x] sp)
    (hbind : ∀ (s : Shared) (u : Value), BindsTo s fd ⟨[u], []⟩ [(x, u)])
    (hsp : ∀ H : Hp, Only H → SqL K H a (ns.map V.int) → sp [.ref a] H (fun v _ => v = .bl true) E0) :
    codeAny (model P w) callerA (.call (.ref fa) ⟨[.ref a], []⟩)
      (fun r s' => r = .ok (.ret (.bool true)) ∧ OldK s₁.heap s'.heap ∧ s'.os = s₁.os ∧ AllBare s'.gens) s₁ := by
  have rv := vals_ints hi
  have core : ∀ H : Hp, Only H → SqL K H a (ns.map V.int) → HOk P w H s₁.heap → (∀ b, H b ≠ none → b = a) → (H a ≠ none → K.lookup a = none) →
      codeAny (model P w) callerA (.call (.ref fa) ⟨[.ref a], []⟩)
        (fun r s' => r = .ok (.ret (.bool true)) ∧ OldK s₁.heap s'.heap ∧ s'.os = s₁.os ∧ AllBare s'.gens) s₁ := by
    intro H hO hS hok hA hK
    have there : ∀ {b : Addr}, H b ≠ none → s₁.heap.get? b = some { cls := .type "list", data := .seq vs.toArray } ∧ K.lookup b = none := fun {b} z => by
      cases hA b z
      exact ⟨ha, hK z⟩
    have hid : ∀ {b : Addr} {o : Obj}, s₁.heap.get? b = some o → H b = none → (hidT s₁.heap H).get? b = some o := fun e n => hidT_get e n
    have ns' : ∀ {b : Addr} {m : Str → Option Value}, s₁.heap.Ns b m → (hidT s₁.heap H).Ns b m := by
      rintro b m ⟨o, es, ep, e, d, r⟩
      refine ⟨o, es, ep, hid e (Classical.byContradiction fun z => ?_), d, r⟩
      rw [(there z).1] at e
      cases e
      exact nomatch (show Data.seq vs.toArray _ = Data.dict es ep from d)
    have hKb : K.In (hidT s₁.heap H) := fun b o e => by
      refine hid (KX b o e) (Classical.byContradiction fun z => ?_)
      rw [(there z).2] at e
      cases e
    have hM : Mod K mg (hidT s₁.heap H) := by
      obtain ⟨mc, l1, l2⟩ := hlim
      exact ⟨hKb, ns' hns, ⟨mb, ns' hb, hbb⟩, ⟨mc, ns' l1, l2⟩⟩
    have e0 : Env0 P w K mg (hidT s₁.heap H) callerA [] s₁ H :=
      ⟨rfl, hM, fun _ _ e => of_hidT e, Nat.le_of_eq (hidT_size _ _), trivial, fun b z => (by cases z), hok, .of_eq hg⟩
    have run := (F _ hKb (ns' hns)).runG callerA [] s₁ H ⟨[.ref a], []⟩ [.ref a] [.ref a] _ _ free_caller hr e0 (hbind s₁ (.ref a)) (.cons rfl .nil) (hsp H hO hS)
    refine codeAny_mono run fun r s' h => ?_
    match r, h with
    | .error _, h => exact h.elim
    | .ok (.ret u), h =>
      obtain ⟨v, H', os, bare, un, hok', r', q⟩ := h
      cases (show v = .bl true from q)
      cases (show u = Value.bool true from r')
      refine ⟨rfl, OldK.of_keep fun b o e => ?_, os, bare⟩
      rcases hO b with z | ⟨ob, xs, z⟩
      · exact un.keep b o e z (by intro y; cases y) (by simp)
      · have e1 := (hok b _ z).1
        rw [e] at e1
        cases e1
        exact (hok' b _ (un.frzs b _ _ z)).1
  have lenV := hi.length
  rcases hk : K.lookup a with _ | o
  · let o : Obj := { cls := .type "list", data := .seq vs.toArray }
    have own : ∀ {b : Addr} {u : HO}, (if b = a then some (HO.frz o (.lst (ns.map V.int))) else none) = some u → b = a ∧ u = HO.frz o (.lst (ns.map V.int)) := fun {b u} z => by
      by_cases e : b = a
      · rw [if_pos e] at z
        exact ⟨e, (Option.some.inj z).symm⟩
      · rw [if_neg e] at z
        cases z
    refine core (fun b => if b = a then some (.frz o (.lst (ns.map V.int))) else none) (fun b => ?_) (.inl (.inr ⟨o, if_pos rfl⟩)) (fun b u z => ?_) (fun b z => ?_) fun _ => hk
    · by_cases e : b = a
      · exact .inr ⟨_, _, if_pos e⟩
      · exact .inl (if_neg e)
    · obtain ⟨rfl, rfl⟩ := own z
      exact ⟨ha, by rw [List.length_map]; exact hl, vs, _, rv, ha⟩
    · exact Classical.byContradiction fun e => z (if_neg e)
  · have e := KX a o hk
    rw [ha] at e
    cases e
    refine core (fun _ => none) (fun _ => .inl rfl) ?_ (fun b u z => nomatch (show (none : Option HO) = some u from z)) (fun b z => absurd rfl z) fun z => absurd rfl z
    exact .inr ⟨_, vs.toArray, _, hk, rfl, rfl, rfl, by rw [List.size_toArray, lenV]; exact hl, by simpa using rv⟩
/-- a law: F gives the written part, the function object, the promise over every base -/
theorem walk_ofG {l : PySem.W.OpenLaw} {n k : Nat} {q : Program} {loose : List Str} {XP : (Str → Option Value) → Heap → Prop} {YP : World → Heap → Prop} {d : DefRec} {x : Str}
    (hn : l.most = some n) (hn2 : n ≤ sizeLine) (hdf : d.params.defaults = []) (hr : Room k callerA)
    (F : ∀ (w : World) (mg : Str → Option Value) (fa : Addr) (h : Heap), YP w h → h.Ns mainGlobals mg → mg d.name = some (.ref fa) →
      ∃ (K : PySem.W.Frag) (fd : FuncData) (sp : Sp), K.In h ∧ (∀ (s : Shared) (u : Value), BindsTo s fd ⟨[u], []⟩ [(x, u)]) ∧
        (∀ (H : Hp) (a : Addr) (ns : List Int), ns.length ≤ n → (∀ z ∈ ns, Builtin.Int.intBits z ≤ 1048576) → Only H → SqL K H a (ns.map V.int) → sp [.ref a] H (fun v _ => v = .bl true) E0) ∧
        ∀ base : Heap, K.In base → base.Ns mainGlobals mg → FnG l.prog w K mg base k fa fd [x] sp) : PySem.W.WalkO q loose XP YP l.row.toRowW d [] (fun f vs => PySem.call f vs) := by
  refine Att.attach_callB hn hdf fun w _ s₁ mg mb fa o pm cd doc a vs ns G Y ho hd hcd hmg hob hin hlen hbits hg => ?_
  obtain ⟨K, fd, sp, KX, hb, hsp, hF⟩ := F w mg fa _ Y G.T.g hmg
  exact law_callG KX G.T.g G.T.b G.T.builtins G.T.nolimit hg hob hin (Nat.le_trans hlen hn2) hr hF hb fun H hO hS => hsp H a ns hlen hbits hO hS
end Qw

set_option Elab.async false
set_option linter.all false
set_option maxRecDepth 100000
set_option maxHeartbeats 4000000
/-! data of none, short ints, texts, lists and tuples: shown, compared -/
namespace Qw
open PySem L2
mutual
def tame : PyData → Bool
  | .none => true
  | .int i => decide (i.natAbs < 1000000000)
  | .str x => PyData.strOk x
  | .list xs => tameAll xs
  | .tuple xs => tameAll xs
  | .bool _ => false
  | .dict _ => false
def tameAll : List PyData → Bool
  | [] => true
  | x :: xs => tame x && tameAll xs
end
theorem tameAll_iff : ∀ {xs : List PyData}, tameAll xs = true ↔ ∀ x ∈ xs, tame x = true
  | [] => by simp [tameAll]
  | x :: xs => by simp [tameAll, tameAll_iff (xs := xs)]
theorem short13 {i : Int} (h : i.natAbs < 1000000000) : PyData.intsShort 13 (.int i) = true := by
  have := PyData.intsShortAll_ints [i] (fun n hn => by cases List.mem_singleton.mp hn; exact Nat.lt_trans h (by decide))
  simpa [PyData.intsShortAll] using this
mutual
theorem tame_has : ∀ d : PyData, tame d = true → PyData.canLay0 d = true ∧ PyData.showable d = true ∧ PyData.hasDict d = false ∧ PyData.intsShort 13 d = true
  | .none, _ => ⟨by simp [PyData.canLay0], by simp [PyData.showable], by simp [PyData.hasDict], by simp [PyData.intsShort]⟩
  | .int i, h => by
    have h' : i.natAbs < 1000000000 := by simpa [tame] using h
    refine ⟨by simp [PyData.canLay0], ?_, by simp [PyData.hasDict], short13 h'⟩
    simp only [PyData.showable, decide_eq_true_eq]
    by_cases z : i.natAbs = 0
    · rw [z]; decide
    · have : i.natAbs.log2 < 30 := (Nat.log2_lt z).mpr (by omega)
      omega
  | .str x, h => ⟨by simpa [tame, PyData.canLay0] using h, by simp [PyData.showable], by simp [PyData.hasDict], by simp [PyData.intsShort]⟩
  | .list xs, h => by
    have := tameAll_has xs (by simpa [tame] using h)
    exact ⟨by simp only [PyData.canLay0]; exact this.1, by simp only [PyData.showable]; exact this.2.1, by simp only [PyData.hasDict]; exact this.2.2.1, by simp only [PyData.intsShort]; exact this.2.2.2⟩
  | .tuple xs, h => by
    have := tameAll_has xs (by simpa [tame] using h)
    exact ⟨by simp only [PyData.canLay0]; exact this.1, by simp only [PyData.showable]; exact this.2.1, by simp only [PyData.hasDict]; exact this.2.2.1, by simp only [PyData.intsShort]; exact this.2.2.2⟩
  | .bool _, h => by simp [tame] at h
  | .dict _, h => by simp [tame] at h
theorem tameAll_has : ∀ xs : List PyData, tameAll xs = true → PyData.canLayAll0 xs = true ∧ PyData.showableAll xs = true ∧ PyData.hasDictAll xs = false ∧ PyData.intsShortAll 13 xs = true
  | [], _ => ⟨by simp [PyData.canLayAll0], by simp [PyData.showableAll], by simp [PyData.hasDictAll], by simp [PyData.intsShortAll]⟩
  | x :: xs, h => by
    have h' : tame x = true ∧ tameAll xs = true := by simpa [tameAll] using h
    have a := tame_has x h'.1
    have b := tameAll_has xs h'.2
    exact ⟨by simp [PyData.canLayAll0, a, b], by simp [PyData.showableAll, a, b], by simp [PyData.hasDictAll, a, b], by simp [PyData.intsShortAll, a, b]⟩
end
mutual
theorem eqv_iff : ∀ d e : PyData, tame d = true → tame e = true → (PyData.eqv d e = true ↔ d = e)
  | .list xs, .list ys, h, k => by
    simp only [PyData.eqv, PyData.list.injEq]
    exact eqvAll_iff xs ys (by simpa [tame] using h) (by simpa [tame] using k)
  | .tuple xs, .tuple ys, h, k => by
    simp only [PyData.eqv, PyData.tuple.injEq]
    exact eqvAll_iff xs ys (by simpa [tame] using h) (by simpa [tame] using k)
  | .none, e, _, k => by cases e <;> simp [PyData.eqv, tame] at k ⊢
  | .int _, e, _, k => by cases e <;> simp [PyData.eqv, tame] at k ⊢
  | .str _, e, _, k => by cases e <;> simp [PyData.eqv, tame] at k ⊢
  | .bool _, _, h, _ => by simp [tame] at h
  | .dict _, _, h, _ => by simp [tame] at h
  | .list _, .none, _, _ => by simp [PyData.eqv]
  | .list _, .int _, _, _ => by simp [PyData.eqv]
  | .list _, .str _, _, _ => by simp [PyData.eqv]
  | .list _, .tuple _, _, _ => by simp [PyData.eqv]
  | .list _, .bool _, _, k => by simp [tame] at k
  | .list _, .dict _, _, k => by simp [tame] at k
  | .tuple _, .none, _, _ => by simp [PyData.eqv]
  | .tuple _, .int _, _, _ => by simp [PyData.eqv]
  | .tuple _, .str _, _, _ => by simp [PyData.eqv]
  | .tuple _, .list _, _, _ => by simp [PyData.eqv]
  | .tuple _, .bool _, _, k => by simp [tame] at k
  | .tuple _, .dict _, _, k => by simp [tame] at k
theorem eqvAll_iff : ∀ xs ys : List PyData, tameAll xs = true → tameAll ys = true → (PyData.eqvAll xs ys = true ↔ xs = ys)
  | [], [], _, _ => by simp [PyData.eqvAll]
  | [], _ :: _, _, _ => by simp [PyData.eqvAll]
  | _ :: _, [], _, _ => by simp [PyData.eqvAll]
  | x :: xs, y :: ys, h, k => by
    have h' : tame x = true ∧ tameAll xs = true := by simpa [tameAll] using h
    have k' : tame y = true ∧ tameAll ys = true := by simpa [tameAll] using k
    simp only [PyData.eqvAll, Bool.and_eq_true, List.cons.injEq]
    rw [eqv_iff x y h'.1 k'.1, eqvAll_iff xs ys h'.2 k'.2]
end
theorem eqv_dec {d e : PyData} {p : Prop} [Decidable p] (h : tame d = true) (k : tame e = true) (i : d = e ↔ p) : PyData.eqv d e = decide p := by
  rw [Bool.eq_iff_iff, eqv_iff d e h k, i, decide_eq_true_eq]
theorem shaped_of {d : PyData} (h : tame d = true) (hd : d.depth ≤ 32) : SeqAt.shaped d = true := by
  show (PyData.canLay0 d && decide (d.depth ≤ 64)) = true
  rw [(tame_has d h).1, Bool.true_and, decide_eq_true_eq]
  omega
theorem shown_of {d : PyData} (h : tame d = true) (hd : d.depth ≤ 32) (hw : d.weight ≤ 1048576) : d.shown.length ≤ sizeLine := by
  refine PyData.shown_fits_of_layable0 (B := 13) (by decide) (by decide) ?_ (tame_has d h).2.2.2
  show (PyData.canLay0 d && decide (PyData.depth d ≤ 64) && decide (PyData.weight d ≤ 2 ^ 20)) = true
  rw [(tame_has d h).1, Bool.true_and, Bool.and_eq_true, decide_eq_true_eq, decide_eq_true_eq]
  exact ⟨by omega, hw⟩
/-! ### words, places -/
def ok8 (t : Tx) : Prop := ∀ c ∈ t, c < 1000
theorem strOk_S {t : Tx} (h : ok8 t) : PyData.strOk (S t) = true := by
  show (S t).cps.all (· < 0x110000) = true
  rw [show (S t).cps = t.toArray from rfl]
  simp only [List.all_toArray, List.all_eq_true, decide_eq_true_eq]
  exact fun c hc => Nat.lt_trans (h c hc) (by decide)
def wsD (ws : List Tx) : PyData := .list (ws.map fun t => .str (S t))
def plD (p : Int × Int) : PyData := .tuple [.int p.1, .int p.2]
def psD (ps : List (Int × Int)) : PyData := .list (ps.map plD)
theorem S_inj' {x y : Tx} : PyData.str (S x) = PyData.str (S y) ↔ x = y := by simp [S_inj]
theorem map_inj {α β : Type} {f : α → β} (h : ∀ {x y}, f x = f y ↔ x = y) {l m : List α} : l.map f = m.map f ↔ l = m :=
  ⟨fun e => List.map_inj_right (fun x y => h.mp) |>.mp e, fun e => by rw [e]⟩
theorem wsD_inj {x y : List Tx} : wsD x = wsD y ↔ x = y := by
  simp only [wsD, PyData.list.injEq]
  exact map_inj S_inj'
theorem plD_inj {x y : Int × Int} : plD x = plD y ↔ x = y := by
  obtain ⟨a, b⟩ := x; obtain ⟨c, d⟩ := y
  simp [plD]
theorem psD_inj {x y : List (Int × Int)} : psD x = psD y ↔ x = y := by
  simp only [psD, PyData.list.injEq]
  exact map_inj plD_inj
def okI (i : Int) : Prop := i.natAbs < 1000000
theorem wsD_tame {ws : List Tx} (h : ∀ t ∈ ws, ok8 t) : tame (wsD ws) = true := by
  simp only [wsD, tame, tameAll_iff, List.mem_map]
  rintro _ ⟨t, ht, rfl⟩
  simp only [tame]
  exact strOk_S (h t ht)
theorem psD_tame {ps : List (Int × Int)} (h : ∀ p ∈ ps, okI p.1 ∧ okI p.2) : tame (psD ps) = true := by
  simp only [psD, tame, tameAll_iff, List.mem_map]
  rintro _ ⟨p, hp, rfl⟩
  have := h p hp
  simp only [okI] at this
  simp only [plD, tame, tameAll, Bool.and_true, Bool.and_eq_true, decide_eq_true_eq]
  omega
theorem depthAll_le {n : Nat} : ∀ {xs : List PyData}, (∀ x ∈ xs, x.depth ≤ n) → PyData.depthAll xs ≤ n
  | [], _ => by simp [PyData.depthAll]
  | x :: xs, h => by
    simp only [PyData.depthAll]
    exact Nat.max_le.mpr ⟨h x (.head _), depthAll_le fun y hy => h y (.tail _ hy)⟩
theorem wsD_depth (ws : List Tx) : (wsD ws).depth ≤ 1 := by
  simp only [wsD, PyData.depth]
  refine Nat.succ_le_succ (depthAll_le fun x hx => ?_)
  obtain ⟨t, _, rfl⟩ := List.mem_map.mp hx
  simp [PyData.depth]
theorem psD_depth (ps : List (Int × Int)) : (psD ps).depth ≤ 2 := by
  simp only [psD, PyData.depth]
  refine Nat.succ_le_succ (depthAll_le fun x hx => ?_)
  obtain ⟨t, _, rfl⟩ := List.mem_map.mp hx
  simp [plD, PyData.depth, PyData.depthAll]
theorem weightAll_le {n : Nat} : ∀ {xs : List PyData}, (∀ x ∈ xs, x.weight ≤ n) → PyData.weightAll xs ≤ (n + 1) * xs.length
  | [], _ => by simp [PyData.weightAll]
  | x :: xs, h => by
    simp only [PyData.weightAll, List.length_cons, Nat.mul_succ]
    have h1 := h x (.head _)
    have h2 := weightAll_le (xs := xs) fun y hy => h y (.tail _ hy)
    omega
theorem wsD_weight {ws : List Tx} {n : Nat} (h : ∀ t ∈ ws, t.length ≤ n) : (wsD ws).weight ≤ (n + 1) * ws.length := by
  simp only [wsD, PyData.weight]
  have := weightAll_le (n := n) (xs := ws.map fun t => PyData.str (S t)) fun x hx => by
    obtain ⟨t, ht, rfl⟩ := List.mem_map.mp hx
    simp only [PyData.weight, S_size]
    exact h t ht
  rwa [List.length_map] at this
theorem int_weight {i : Int} (h : okI i) : (PyData.int i).weight ≤ 30 := by
  simp only [PyData.weight]
  split
  · omega
  · rename_i z
    have z' : i.natAbs ≠ 0 := by simpa using z
    have : i.natAbs.log2 < 20 := (Nat.log2_lt z').mpr (Nat.lt_trans h (by decide))
    omega
theorem psD_weight {ps : List (Int × Int)} (h : ∀ p ∈ ps, okI p.1 ∧ okI p.2) : (psD ps).weight ≤ 63 * ps.length := by
  simp only [psD, PyData.weight]
  have := weightAll_le (n := 62) (xs := ps.map plD) fun x hx => by
    obtain ⟨p, hp, rfl⟩ := List.mem_map.mp hx
    have h1 := int_weight (h p hp).1
    have h2 := int_weight (h p hp).2
    simp only [plD]
    rw [PyData.weight]
    simp only [PyData.weightAll]
    omega
  rwa [List.length_map] at this
/-! ### where they lie -/
def Pls (H : Hp) (x : V) (d : Int × Int) : Prop := ∃ t, x = .ref t ∧ H t = some (.tup [.int d.1, .int d.2])
theorem Pls.mono {H H' : Hp} {x : V} {d : Int × Int} (h : Pls H x d) (t : ∀ b xs, H b = some (.tup xs) → H' b = some (.tup xs)) : Pls H' x d := by
  obtain ⟨b, e, h1⟩ := h
  exact ⟨b, e, t _ _ h1⟩
theorem dpAll_map {α : Type} {K : PySem.W.Frag} {H : Hp} {f : α → V} {g : α → PyData} : ∀ (l : List α), (∀ x ∈ l, Dp K H (f x) (g x)) → DpAll K H (l.map f) (l.map g)
  | [], _ => .nil
  | x :: l, h => .cons (h x (.head _)) (dpAll_map l fun y hy => h y (.tail _ hy))
theorem dpAll_paired {α : Type} {K : PySem.W.Frag} {H : Hp} {F : V → α → Prop} {g : α → PyData} (h : ∀ x y, F x y → Dp K H x (g y)) : ∀ {xs : List V} {l : List α}, Paired F xs l → DpAll K H xs (l.map g)
  | _, _, .nil => .nil
  | _, _, .cons r t => .cons (h _ _ r) (dpAll_paired h t)
theorem dp_ws {K : PySem.W.Frag} {H : Hp} {p : Addr} {ws : List Tx} (h : SqL K H p (ws.map fun t => V.str (S t))) : Dp K H (.ref p) (wsD ws) := .lst h (dpAll_map ws fun _ _ => .str _)
theorem dp_pl {K : PySem.W.Frag} {H : Hp} {x : V} {d : Int × Int} (h : Pls H x d) : Dp K H x (plD d) := by
  obtain ⟨t, rfl, h⟩ := h
  exact .tup (.inl (.inl h)) (.cons (.int _) (.cons (.int _) .nil))
theorem dp_ps {K : PySem.W.Frag} {H : Hp} {p : Addr} {xs : List V} {ps : List (Int × Int)} (h : SqL K H p xs) (q : Paired (Pls H) xs ps) : Dp K H (.ref p) (psD ps) := .lst h (dpAll_paired (g := plD) (fun _ _ z => dp_pl z) q)
/-! ### what a reading tells -/
abbrev Told := Except Int (List Tx × List (Int × Int))
instance : DecidableEq Told := fun x y => match x, y with
  | .error i, .error j => decidable_of_iff (i = j) (by simp)
  | .ok p, .ok q => decidable_of_iff (p = q) (by simp)
  | .error _, .ok _ => isFalse (by simp)
  | .ok _, .error _ => isFalse (by simp)
def tD : Told → PyData
  | .error n => .int n
  | .ok (ws, ps) => .tuple [wsD ws, psD ps]
structure TOk (n : Nat) (x : Told) : Prop where
  er : ∀ i, x = .error i → okI i
  ws : ∀ l ps, x = .ok (l, ps) → (∀ t ∈ l, ok8 t ∧ t.length ≤ n) ∧ l.length ≤ n
  ps : ∀ l ps, x = .ok (l, ps) → (∀ p ∈ ps, okI p.1 ∧ okI p.2) ∧ ps.length ≤ n
theorem tD_inj {x y : Told} : tD x = tD y ↔ x = y := by
  cases x with
  | error i => cases y with
    | error j => simp [tD]
    | ok q => simp [tD]
  | ok p => cases y with
    | error j => simp [tD]
    | ok q =>
      obtain ⟨a, b⟩ := p; obtain ⟨c, d⟩ := q
      simp only [tD, PyData.tuple.injEq, List.cons.injEq, and_true, wsD_inj, psD_inj, Except.ok.injEq, Prod.mk.injEq]
theorem tD_tame {n : Nat} {x : Told} (h : TOk n x) : tame (tD x) = true := by
  cases x with
  | error i =>
    have := h.er i rfl
    simp only [okI] at this
    simp only [tD, tame, decide_eq_true_eq]
    omega
  | ok p =>
    obtain ⟨l, ps⟩ := p
    simp only [tD, tame, tameAll, Bool.and_true, Bool.and_eq_true]
    exact ⟨wsD_tame fun t ht => ((h.ws l ps rfl).1 t ht).1, psD_tame (h.ps l ps rfl).1⟩
theorem tD_depth (x : Told) : (tD x).depth ≤ 3 := by
  cases x with
  | error i => simp [tD, PyData.depth]
  | ok p =>
    obtain ⟨l, ps⟩ := p
    simp only [tD, PyData.depth, PyData.depthAll]
    have h1 := wsD_depth l
    have h2 := psD_depth ps
    omega
theorem tD_weight {n : Nat} (hn : n ≤ 900) {x : Told} (h : TOk n x) : (tD x).weight ≤ 1000000 := by
  cases x with
  | error i =>
    have := int_weight (h.er i rfl)
    simp only [tD]
    omega
  | ok p =>
    obtain ⟨l, ps⟩ := p
    have h1 := wsD_weight (n := n) fun t ht => ((h.ws l ps rfl).1 t ht).2
    have h2 := psD_weight (h.ps l ps rfl).1
    have h3 := (h.ws l ps rfl).2
    have h4 := (h.ps l ps rfl).2
    have h5 : (n + 1) * l.length ≤ 901 * 900 := Nat.mul_le_mul (by omega) (by omega)
    simp only [tD]
    rw [PyData.weight]
    simp only [PyData.weightAll]
    omega
end Qw

set_option Elab.async false
set_option linter.all false
set_option maxRecDepth 100000
set_option maxHeartbeats 4000000
namespace Qw
open PySem L2
def sgn (c : Nat) : Bool := decide (32 ≤ c ∧ c ≤ 126) || decide (c = 10)
def RS.every (r : RS) : Tx := r.breaks ++ (r.hard ++ (r.soft ++ (r.bend ++ r.note)))
structure RS.Ok (r : RS) : Prop where
  l1 : r.breaks.length ≤ 4
  l2 : r.hard.length ≤ 2
  l3 : r.soft.length ≤ 2
  l4 : r.bend.length ≤ 1
  l5 : r.note.length ≤ 1
  ne : r.breaks ≠ []
  sg : r.every.all sgn = true
  nd : r.every.Nodup
/-! ### bounds of what is read -/
/-- where a machine is behind a text u -/
structure MS.Bd (m : MS) (u : Tx) : Prop where
  wd : ∀ w, m.word = some w → (∀ c ∈ w, c ∈ u)
  be : m.begun ≤ m.place
  op : m.opened ≤ m.place
def W3.Bd (d : W3) (u : Tx) (n : Nat) : Prop := (∀ c ∈ d.1, c ∈ u) ∧ d.1.length ≤ n ∧ d.2.1 ≤ n ∧ d.2.2 ≤ n
theorem MS.Bd.begin {m : MS} {u : Tx} (b : m.Bd u) : m.begin.Bd u := by
  unfold MS.begin
  split
  · exact ⟨fun w e => by cases e; simp, Nat.le_refl _, b.op⟩
  · exact b
theorem MS.Bd.add {m : MS} {u : Tx} {c : Nat} (b : m.Bd u) (hc : c ∈ u) : (m.add c).Bd u := by
  refine ⟨fun w e => ?_, b.be, b.op⟩
  unfold MS.add at e
  cases h : m.word with
  | none => rw [h] at e; cases e
  | some z =>
    rw [h] at e
    cases (Option.some.inj e : z ++ [c] = w)
    intro x hx
    rcases List.mem_append.mp hx with q | q
    · exact b.wd z h x q
    · rw [List.mem_singleton.mp q]; exact hc
theorem MS.Bd.mono {m : MS} {u v : Tx} (b : m.Bd u) (h : ∀ c ∈ u, c ∈ v) : m.Bd v := ⟨fun w e c hc => h c (b.wd w e c hc), b.be, b.op⟩
theorem MS.Bd.up {m : MS} {u : Tx} (b : m.Bd u) : ({ m with place := m.place + 1 } : MS).Bd u := ⟨b.wd, Nat.le_succ_of_le b.be, Nat.le_succ_of_le b.op⟩
theorem MS.Bd.out {m : MS} {u : Tx} (b : m.Bd u) (ok : m.Ok) : ∀ d ∈ m.out, d.Bd u m.place := by
  intro d hd
  unfold MS.out at hd
  cases h : m.word with
  | none => rw [h] at hd; cases hd
  | some w =>
    rw [h] at hd
    cases List.mem_singleton.mp hd
    exact ⟨b.wd w h, ok.ln w h, b.be, Nat.le_refl _⟩
theorem MS.Bd.step {m : MS} {u : Tx} (b : m.Bd u) (ok : m.Ok) (r : RS) (c : Nat) : (m.step r c).1.Bd (u ++ [c]) ∧ ∀ d ∈ (m.step r c).2, d.Bd (u ++ [c]) m.place := by
  have hc : c ∈ u ++ [c] := by simp
  have b' : m.Bd (u ++ [c]) := b.mono fun x hx => by simp [hx]
  refine MS.step_cases r m c (fun x => x.1.Bd (u ++ [c]) ∧ ∀ d ∈ x.2, d.Bd (u ++ [c]) m.place) (fun m1 h _ => ?_) (fun m1 h _ _ => ?_) (fun _ _ _ => ⟨b'.up, fun _ z => (nomatch z)⟩) fun _ _ _ => ⟨?_, fun _ z => (nomatch z)⟩
  · have b1 : m1.Bd (u ++ [c]) := by rcases h with h | h <;> subst h <;> exact ⟨b'.wd, b'.be, b'.op⟩
    refine ⟨?_, fun _ z => (nomatch z)⟩
    have b2 : ({ m1 with bent := false } : MS).Bd (u ++ [c]) := ⟨b1.wd, b1.be, b1.op⟩
    exact (b2.add hc).up
  · have b1 : m1.Bd (u ++ [c]) := by rcases h with h | h <;> subst h <;> exact ⟨b'.wd, b'.be, b'.op⟩
    have e1 : m1.out = m.out := by rcases h with h | h <;> subst h <;> rfl
    have ot : ∀ d ∈ m1.out, d.Bd (u ++ [c]) m.place := fun d hd => by
      rw [e1] at hd
      exact b'.out ok d hd
    suffices q : (m1.plain r c).1.Bd (u ++ [c]) ∧ ∀ d ∈ (m1.plain r c).2, d.Bd (u ++ [c]) m.place from ⟨q.1.up, q.2⟩
    have bb := b1.begin
    unfold MS.plain
    split
    · exact ⟨⟨fun w e => (nomatch e), b1.be, b1.op⟩, ot⟩
    split
    · exact ⟨⟨fun w e => (nomatch e), b1.be, b1.op⟩, ot⟩
    split
    · exact ⟨⟨bb.wd, bb.be, Nat.le_refl _⟩, fun _ z => (nomatch z)⟩
    split
    · exact ⟨⟨bb.wd, bb.be, Nat.le_refl _⟩, fun _ z => (nomatch z)⟩
    · exact ⟨bb.add hc, fun _ z => (nomatch z)⟩
  · suffices q : (m.quoted r c).Bd (u ++ [c]) from q.up
    unfold MS.quoted
    split
    · exact ⟨b'.wd, b'.be, b'.op⟩
    split
    · exact ⟨b'.wd, b'.be, b'.op⟩
    · exact b'.add hc
theorem MS.Bd.run (r : RS) : ∀ (t : Tx) {m : MS} {u : Tx}, m.Bd u → m.Ok → (m.run r t).1.Bd (u ++ t) ∧ ∀ d ∈ (m.run r t).2, d.Bd (u ++ t) (m.place + t.length)
  | [], m, u, b, _ => ⟨by rw [List.append_nil]; exact b, fun _ z => (nomatch z)⟩
  | c :: t, m, u, b, ok => by
    have h1 := b.step ok r c
    have h2 := MS.Bd.run r t h1.1 (ok.step r c)
    rw [MS.place_step] at h2
    have e : u ++ c :: t = u ++ [c] ++ t := by simp
    rw [e, List.length_cons]
    refine ⟨h2.1, fun d hd => ?_⟩
    rcases List.mem_append.mp hd with q | q
    · obtain ⟨a1, a2, a3, a4⟩ := h1.2 d q
      exact ⟨fun x hx => List.mem_append_left _ (a1 x hx), by omega, by omega, by omega⟩
    · obtain ⟨a1, a2, a3, a4⟩ := h2.2 d q
      exact ⟨a1, by omega, by omega, by omega⟩
theorem readAll_bd (r : RS) (t : Tx) (rp : Addr) : match readAll r t rp with
    | .error n => n ≤ t.length
    | .ok ds => ds.length ≤ t.length + 1 ∧ ∀ d ∈ ds, d.Bd t t.length := by
  have z : (MS.zero rp).Bd [] := ⟨fun w e => (by cases e), Nat.le_refl _, Nat.le_refl _⟩
  have h := MS.Bd.run r t z (MS.Ok.zero rp)
  have pl := MS.place_run r t (MS.zero rp)
  have pz : (MS.zero rp).place = 0 := rfl
  have ok := (MS.Ok.zero rp).run r t
  rw [pz, Nat.zero_add] at pl
  rw [List.nil_append, pz, Nat.zero_add] at h
  unfold readAll
  split
  · rename_i n e
    split at e
    · rename_i n' e'
      cases e
      unfold MS.fault at e'
      split at e'
      · cases e'
        rw [← pl]; exact h.1.op
      · cases e'
    · cases e
  · rename_i ds e
    split at e
    · cases e
    · cases e
      refine ⟨?_, fun d hd => ?_⟩
      · rw [List.length_append]
        have h1 := MS.out_run r t (MS.zero rp)
        have h2 : ((MS.zero rp).run r t).1.out.length ≤ 1 := by unfold MS.out; split <;> simp
        omega
      · rcases List.mem_append.mp hd with q | q
        · exact h.2 d q
        · have := h.1.out ok d q
          rwa [pl] at this
/-- what an answer tells of a text -/
def told3 (x : Except Nat (List W3)) : Told := match x with
  | .error n => .error n
  | .ok ds => .ok (ds.map (·.1), ds.map fun d => ((d.2.1 : Int), (d.2.2 : Int)))
theorem TOk.mono {m n : Nat} {x : Told} (h : TOk m x) (le : m ≤ n) : TOk n x :=
  ⟨h.er, fun l ps e => ⟨fun t ht => ⟨((h.ws l ps e).1 t ht).1, Nat.le_trans ((h.ws l ps e).1 t ht).2 le⟩, Nat.le_trans (h.ws l ps e).2 le⟩, fun l ps e => ⟨(h.ps l ps e).1, Nat.le_trans (h.ps l ps e).2 le⟩⟩
theorem told3_ok1 {r : RS} {t : Tx} {rp : Addr} (h8 : ok8 t) (hn : t.length ≤ 10000) : TOk (t.length + 1) (told3 (readAll r t rp)) := by
  have h := readAll_bd r t rp
  cases e : readAll r t rp with
  | error n =>
    rw [e] at h
    refine ⟨fun i q => ?_, fun _ _ q => (nomatch q), fun _ _ q => (nomatch q)⟩
    cases q
    have h : n ≤ t.length := h
    simp only [okI]
    omega
  | ok ds =>
    rw [e] at h
    refine ⟨fun i q => (nomatch q), fun l ps q => ?_, fun l ps q => ?_⟩
    · cases q
      refine ⟨fun w hw => ?_, by rw [List.length_map]; have := h.1; omega⟩
      obtain ⟨d, hd, rfl⟩ := List.mem_map.mp hw
      have hb := h.2 d hd
      exact ⟨fun c hc => h8 c (hb.1 c hc), by have := hb.2.1; omega⟩
    · cases q
      refine ⟨fun w hw => ?_, by rw [List.length_map]; have := h.1; omega⟩
      obtain ⟨d, hd, rfl⟩ := List.mem_map.mp hw
      have hb := h.2 d hd
      have h1 := hb.2.2.1
      have h2 := hb.2.2.2
      simp only [okI]
      omega
theorem told3_ok {r : RS} {t : Tx} {rp : Addr} (h8 : ok8 t) (hn : t.length ≤ 800) : TOk 900 (told3 (readAll r t rp)) := (told3_ok1 h8 (by omega)).mono (by omega)
theorem ok8_of {t : Tx} (h : t.all sgn = true) : ok8 t := fun c hc => by
  have := List.all_eq_true.mp h c hc
  simp only [sgn, Bool.or_eq_true, decide_eq_true_eq] at this
  omega
end Qw

set_option Elab.async false
set_option linter.all false
set_option maxRecDepth 100000
set_option maxHeartbeats 4000000
namespace Qw
open PySem L2
/-! ### the law's own reading, in plain Lean -/
theorem drop_at {t : Tx} {i c : Nat} (h : t[i]? = some c) : t.drop i = c :: t.drop (i + 1) := by
  obtain ⟨hi, e⟩ := List.getElem?_eq_some_iff.mp h
  rw [List.drop_eq_getElem_cons hi, e]
theorem drop_end {t : Tx} {i : Nat} (h : t[i]? = none) : t.drop i = [] := List.drop_eq_nil_of_le (List.getElem?_eq_none_iff.mp h)
def lq (r : RS) (q b : Nat) : Tx → Nat → Tx → Except Nat (Tx × Nat)
  | [], _, _ => .error b
  | [c], k, f => if c = q then .ok (f, k + 1) else .error b
  | c :: d :: rest, k, f => if c = q then .ok (f, k + 1)
      else if q ∈ r.soft ∧ r.bend = [c] then lq r q b rest (k + 2) (f ++ [d]) else lq r q b (d :: rest) (k + 1) (f ++ [c])
theorem lq_one {r : RS} {q b c : Nat} {rest : Tx} {k : Nat} {f : Tx} (h : c = q) : lq r q b (c :: rest) k f = .ok (f, k + 1) := by
  cases rest <;> simp [lq, h]
theorem lq_plain {r : RS} {q b c : Nat} {rest : Tx} {k : Nat} {f : Tx} (h : c ≠ q) (h2 : ¬ (q ∈ r.soft ∧ r.bend = [c])) : lq r q b (c :: rest) k f = lq r q b rest (k + 1) (f ++ [c]) := by
  cases rest with
  | nil => simp [lq, h]
  | cons d l => simp only [lq, if_neg h, if_neg h2]
theorem lq_bend {r : RS} {q b c d : Nat} {rest : Tx} {k : Nat} {f : Tx} (h : c ≠ q) (h2 : q ∈ r.soft ∧ r.bend = [c]) : lq r q b (c :: d :: rest) k f = lq r q b rest (k + 2) (f ++ [d]) := by
  simp only [lq, if_neg h, if_pos h2]
theorem lq_last {r : RS} {q b c : Nat} {k : Nat} {f : Tx} (h : c ≠ q) : lq r q b [c] k f = .error b := by
  simp [lq, h]
theorem lq_bd (r : RS) (q b : Nat) : ∀ (t : Tx) (k : Nat) (f : Tx), match lq r q b t k f with
    | .error n => n = b
    | .ok (g, e) => k + 1 ≤ e ∧ e ≤ k + t.length ∧ g.length + k + 1 ≤ f.length + e
  | [], k, f => by simp [lq]
  | [c], k, f => by
    by_cases h : c = q
    · simp [lq, h]; omega
    · simp [lq, h]
  | c :: d :: rest, k, f => by
    have h1 := lq_bd r q b rest (k + 2) (f ++ [d])
    have h2 := lq_bd r q b (d :: rest) (k + 1) (f ++ [c])
    unfold lq
    by_cases c1 : c = q
    · simp only [if_pos c1, List.length_cons]; omega
    · by_cases c2 : q ∈ r.soft ∧ r.bend = [c]
      · simp only [if_neg c1, if_pos c2]
        cases e : lq r q b rest (k + 2) (f ++ [d]) with
        | error n => rw [e] at h1; exact h1
        | ok p =>
          obtain ⟨g, e'⟩ := p
          rw [e] at h1
          simp only [List.length_append, List.length_cons, List.length_nil] at h1 ⊢
          omega
      · simp only [if_neg c1, if_neg c2]
        cases e : lq r q b (d :: rest) (k + 1) (f ++ [c]) with
        | error n => rw [e] at h2; exact h2
        | ok p =>
          obtain ⟨g, e'⟩ := p
          rw [e] at h2
          simp only [List.length_append, List.length_cons, List.length_nil] at h2 ⊢
          omega
def lw (r : RS) (t : Tx) : Nat → Nat → Tx → Except Nat (Tx × Nat)
  | 0, k, f => .ok (f, k)
  | n + 1, k, f => match t[k]? with
    | none => .ok (f, k)
    | some c => if c ∈ r.breaks ++ r.note then .ok (f, k)
      else if c ∈ r.hard ++ r.soft then (match lq r c k (t.drop (k + 1)) (k + 1) [] with
        | .error b => .error b
        | .ok (g, e) => lw r t n e (f ++ g))
      else if r.bend = [c] then (match t[k + 1]? with
        | none => .error k
        | some d => lw r t n (k + 2) (f ++ [d]))
      else lw r t n (k + 1) (f ++ [c])
theorem lw_bd (r : RS) (t : Tx) : ∀ (n k : Nat) (f : Tx), k ≤ t.length → match lw r t n k f with
    | .error b => b ≤ t.length
    | .ok (g, e) => k ≤ e ∧ e ≤ t.length ∧ g.length + k ≤ f.length + e
  | 0, k, f, hk => by simp only [lw]; omega
  | n + 1, k, f, hk => by
    unfold lw
    cases h : t[k]? with
    | none => simp only []; omega
    | some c =>
      have hk' : k < t.length := (List.getElem?_eq_some_iff.mp h).1
      simp only []
      by_cases c1 : c ∈ r.breaks ++ r.note
      · simp only [if_pos c1]; omega
      by_cases c2 : c ∈ r.hard ++ r.soft
      · simp only [if_neg c1, if_pos c2]
        have b1 := lq_bd r c k (t.drop (k + 1)) (k + 1) []
        cases e : lq r c k (t.drop (k + 1)) (k + 1) [] with
        | error b => rw [e] at b1; simp only at b1 ⊢; omega
        | ok p =>
          obtain ⟨g, e'⟩ := p
          rw [e] at b1
          rw [List.length_drop] at b1
          simp only [List.length_nil] at b1
          have ih := lw_bd r t n e' (f ++ g) (by omega)
          cases e2 : lw r t n e' (f ++ g) with
          | error b => rw [e2] at ih; simp only [e2]; exact ih
          | ok p =>
            obtain ⟨g2, e3⟩ := p
            rw [e2] at ih
            simp only [List.length_append, e2] at ih ⊢
            omega
      by_cases c3 : r.bend = [c]
      · simp only [if_neg c1, if_neg c2, if_pos c3]
        cases h2 : t[k + 1]? with
        | none => simp only []; omega
        | some d =>
          have hk2 : k + 1 < t.length := (List.getElem?_eq_some_iff.mp h2).1
          have ih := lw_bd r t n (k + 2) (f ++ [d]) (by omega)
          simp only []
          cases e2 : lw r t n (k + 2) (f ++ [d]) with
          | error b => rw [e2] at ih; exact ih
          | ok p =>
            obtain ⟨g2, e3⟩ := p
            rw [e2] at ih
            simp only [List.length_append, List.length_cons, List.length_nil] at ih ⊢
            omega
      · simp only [if_neg c1, if_neg c2, if_neg c3]
        have ih := lw_bd r t n (k + 1) (f ++ [c]) (by omega)
        cases e2 : lw r t n (k + 1) (f ++ [c]) with
        | error b => rw [e2] at ih; exact ih
        | ok p =>
          obtain ⟨g2, e3⟩ := p
          rw [e2] at ih
          simp only [List.length_append, List.length_cons, List.length_nil] at ih ⊢
          omega
theorem lw_pos {r : RS} {t : Tx} {n k c : Nat} {f g : Tx} {e : Nat} (hc : t[k]? = some c) (h : c ∉ r.breaks ++ r.note) (q : lw r t (n + 1) k f = .ok (g, e)) : k + 1 ≤ e := by
  have hk : k < t.length := (List.getElem?_eq_some_iff.mp hc).1
  simp only [lw, hc, if_neg h] at q
  split at q
  · have b1 := lq_bd r c k (t.drop (k + 1)) (k + 1) []
    split at q
    · cases q
    · rename_i g2 e2 e3
      rw [e3, List.length_drop] at b1
      have b2 := lw_bd r t n e2 (f ++ g2) (by omega)
      rw [q] at b2
      omega
  · split at q
    · split at q
      · cases q
      · rename_i d h2
        have hk2 : k + 1 < t.length := (List.getElem?_eq_some_iff.mp h2).1
        have b2 := lw_bd r t n (k + 2) (f ++ [d]) (by omega)
        rw [q] at b2
        omega
    · have b2 := lw_bd r t n (k + 1) (f ++ [c]) (by omega)
      rw [q] at b2
      omega
/-- signs up to the line's end -/
def nlk : Tx → Nat
  | [] => 0
  | c :: r => if c = LE then 0 else nlk r + 1
def nlAt (t : Tx) (i : Nat) : Nat := i + nlk (t.drop i)
theorem nlk_spec : ∀ t : Tx, nlk t ≤ t.length ∧ (∀ v, v < nlk t → t[v]? ≠ some LE) ∧ (nlk t < t.length → t[nlk t]? = some LE)
  | [] => by simp [nlk]
  | c :: r => by
    have ih := nlk_spec r
    by_cases h : c = LE
    · simp [nlk, h]
    · simp only [nlk, if_neg h, List.length_cons]
      refine ⟨by omega, fun v hv => ?_, fun hl => ?_⟩
      · cases v with
        | zero => simpa using h
        | succ v => simpa using ih.2.1 v (by omega)
      · simpa using ih.2.2 (by omega)
theorem nlAt_spec {t : Tx} {i : Nat} (h : i ≤ t.length) : i ≤ nlAt t i ∧ nlAt t i ≤ t.length ∧ (∀ v, i ≤ v → v < nlAt t i → t[v]? ≠ some LE) ∧ (nlAt t i < t.length → t[nlAt t i]? = some LE) := by
  have s := nlk_spec (t.drop i)
  rw [List.length_drop] at s
  unfold nlAt
  refine ⟨by omega, by omega, fun v h1 h2 => ?_, fun hl => ?_⟩
  · have := s.2.1 (v - i) (by omega)
    rwa [List.getElem?_drop, show i + (v - i) = v by omega] at this
  · have := s.2.2 (by omega)
    rwa [List.getElem?_drop] at this
theorem find_nl {t : Tx} {i : Nat} (h : i ≤ t.length) : (Txt.find3 (S t) (S [LE]) (i : Int) = -1 ∧ nlAt t i = t.length) ∨ (Txt.find3 (S t) (S [LE]) (i : Int) = (nlAt t i : Int) ∧ nlAt t i < t.length) := by
  have s := nlAt_spec h
  have fi : fromIndex (S t).length (i : Int) = i := by
    unfold fromIndex
    rw [if_neg (by omega)]
    omega
  have gd : ∀ v, v < t.length → ((S t).cps.getD v 0 = LE ↔ t[v]? = some LE) := fun v hv => by
    rw [List.getElem?_eq_getElem hv, Option.some.injEq]
    simp [S, Array.getD, hv]
  have fs := StrLaws.find3_spec (S t) LE (i : Int)
  rw [fi, S_len] at fs
  rcases fs with ⟨e, hn⟩ | ⟨k, e, h1, h2, h3, h4⟩
  · refine .inl ⟨e, ?_⟩
    rcases Nat.lt_or_ge (nlAt t i) t.length with l | l
    · exact absurd ((gd _ l).mpr (s.2.2.2 l)) (hn _ s.1 l)
    · omega
  · have ek : k = nlAt t i := by
      rcases Nat.lt_trichotomy k (nlAt t i) with l | l | l
      · exact absurd ((gd _ h2).mp h3) (s.2.2.1 k h1 l)
      · exact l
      · exact absurd ((gd _ (by omega)).mpr (s.2.2.2 (by omega))) (h4 _ s.1 l)
    exact .inr ⟨by rw [← ek]; exact e, by omega⟩
def lr (r : RS) (t : Tx) : Nat → Nat → List W3 → Except Nat (List W3)
  | 0, _, acc => .ok acc
  | n + 1, k, acc => match t[k]? with
    | none => .ok acc
    | some c0 => match t[if r.note = [c0] then nlAt t (k + 1) else k]? with
      | none => .ok acc
      | some c => if c ∈ r.breaks then lr r t n ((if r.note = [c0] then nlAt t (k + 1) else k) + 1) acc
        else if c ∈ r.note then lr r t n (if r.note = [c0] then nlAt t (k + 1) else k) acc
        else match lw r t t.length (if r.note = [c0] then nlAt t (k + 1) else k) [] with
          | .error b => .error b
          | .ok (w, e) => lr r t n e (acc ++ [(w, (if r.note = [c0] then nlAt t (k + 1) else k), e)])
end Qw

set_option Elab.async false
set_option linter.all false
set_option maxRecDepth 100000
set_option maxHeartbeats 4000000
namespace Qw
open PySem L2
/-! ### the machine reads as the law's own reading does -/
def fin (r : RS) (m : MS) (rest : Tx) (acc : List W3) : Except Nat (List W3) := match (m.run r rest).1.fault with
  | some n => .error n
  | none => .ok (acc ++ ((m.run r rest).2 ++ (m.run r rest).1.out))
theorem fin_step (r : RS) (m : MS) (c : Nat) (rest : Tx) (acc : List W3) : fin r m (c :: rest) acc = fin r (m.step r c).1 rest (acc ++ (m.step r c).2) := by
  unfold fin
  rw [MS.run]
  dsimp only
  split
  · rfl
  · simp only [List.append_assoc]
theorem one_NT (q : Nat) : ¬ ([q] = NT) := by intro h; cases h
theorem nil_NT : ¬ (([] : Tx) = NT) := by intro h; cases h
theorem NT_nil : ¬ (NT = ([] : Tx)) := by intro h; cases h
/-- a sign in a quoted stretch -/
theorem step_quoted {r : RS} {m : MS} {q c : Nat} (hs : m.state = [q]) (hb : m.bent = false) : m.step r c = ({ (m.quoted r c) with place := m.place + 1 }, []) := by
  unfold MS.step
  rw [if_neg (fun h => one_NT q (hs ▸ h.1))]
  simp only [hb, Bool.false_eq_true, if_false, hs, List.cons_ne_nil, one_NT]
  rw [MS.place_quoted]
theorem step_bent {r : RS} {m : MS} {c : Nat} (hs : m.state ≠ NT) (hb : m.bent = true) : m.step r c = ({ (({ m with bent := false } : MS).add c) with place := m.place + 1 }, []) := by
  unfold MS.step
  rw [if_neg (fun h => hs h.1)]
  simp only [hb, if_true]
  rfl
theorem step_plain {r : RS} {m : MS} {c : Nat} (hs : m.state = []) (hb : m.bent = false) : m.step r c = ({ (m.plain r c).1 with place := m.place + 1 }, (m.plain r c).2) := by
  unfold MS.step
  rw [if_neg (fun h => nil_NT (hs ▸ h.1))]
  simp only [hb, Bool.false_eq_true, if_false, hs, if_true]
  rw [MS.place_plain]
theorem fin_lq (r : RS) (hb1 : r.bend.length ≤ 1) (q b : Nat) : ∀ (rest : Tx) (k : Nat) (f w0 : Tx) (m : MS) (acc : List W3), m.state = [q] → m.bent = false → m.word = some (w0 ++ f) → m.place = k → m.opened = b →
    match lq r q b rest k f with
    | .error _ => fin r m rest acc = .error b
    | .ok (g, e) => fin r m rest acc = fin r { m with state := [], word := some (w0 ++ g), place := e } (rest.drop (e - k)) acc
  | [], k, f, w0, m, acc, hs, hb, hw, hp, ho => by
    have : m.fault = some b := by
      unfold MS.fault
      rw [if_pos (.inr ⟨by rw [hs]; simp, by rw [hs]; exact one_NT q⟩), ho]
    simp [lq, fin, MS.run, this]
  | c :: rest, k, f, w0, m, acc, hs, hb, hw, hp, ho => by
    have mem : c ∈ r.bend ↔ r.bend = [c] := by
      constructor
      · intro h
        match hbn : r.bend, h, hb1 with
        | [x], h, _ => rw [List.mem_singleton.mp h]
      · intro h; rw [h]; exact List.mem_singleton.mpr rfl
    rw [fin_step, step_quoted hs hb, List.append_nil]
    by_cases c1 : c = q
    · rw [lq_one c1]
      have : m.quoted r c = { m with state := [] } := by
        unfold MS.quoted
        rw [if_pos (by rw [hs, c1])]
      rw [this]
      show fin r _ rest acc = fin r _ ((c :: rest).drop (k + 1 - k)) acc
      rw [show k + 1 - k = 1 by omega]
      show fin r { m with state := [], place := m.place + 1 } rest acc = fin r { m with state := [], word := some (w0 ++ f), place := k + 1 } rest acc
      rw [hp, ← hw]
    have c1' : ¬ ([c] = m.state) := fun h => c1 (by rw [hs] at h; cases h; rfl)
    by_cases c2 : q ∈ r.soft ∧ r.bend = [c]
    · have qd : m.quoted r c = { m with bent := true } := by
        unfold MS.quoted
        rw [if_neg c1', if_pos ⟨mem.mpr c2.2, by rw [hs]; simpa using c2.1⟩]
      rw [qd]
      cases rest with
      | nil =>
        rw [lq_last c1]
        have : ({ m with bent := true, place := m.place + 1 } : MS).fault = some b := by
          unfold MS.fault
          rw [if_pos (.inl rfl)]
          exact congrArg some ho
        simp [fin, MS.run, this]
      | cons d rest =>
        rw [lq_bend c1 c2, fin_step, step_bent (m := { m with bent := true, place := m.place + 1 }) (by show m.state ≠ NT; rw [hs]; exact one_NT q) rfl, List.append_nil]
        have ih := fin_lq r hb1 q b rest (k + 2) (f ++ [d]) w0 { (({ m with bent := false, place := m.place + 1 } : MS).add d) with place := m.place + 1 + 1 } acc hs rfl (by simp [MS.add, hw]) (by show m.place + 1 + 1 = k + 2; omega) ho
        cases e : lq r q b rest (k + 2) (f ++ [d]) with
        | error x => rw [e] at ih; exact ih
        | ok z =>
          obtain ⟨g, e2⟩ := z
          rw [e] at ih
          have bd := lq_bd r q b rest (k + 2) (f ++ [d])
          rw [e] at bd
          dsimp only at ih bd ⊢
          rw [show e2 - k = (e2 - (k + 2)) + 2 by omega]
          show _ = fin r _ (rest.drop (e2 - (k + 2))) acc
          refine Eq.trans ih ?_
          rw [hb]
          rfl
    · have qd : m.quoted r c = m.add c := by
        unfold MS.quoted
        rw [if_neg c1', if_neg (fun h => c2 ⟨by rw [hs] at h; simpa using h.2, mem.mp h.1⟩)]
      rw [qd, lq_plain c1 c2]
      have ih := fin_lq r hb1 q b rest (k + 1) (f ++ [c]) w0 { (m.add c) with place := m.place + 1 } acc hs hb (by simp [MS.add, hw]) (by show m.place + 1 = k + 1; omega) ho
      cases e : lq r q b rest (k + 1) (f ++ [c]) with
      | error x => rw [e] at ih; exact ih
      | ok z =>
        obtain ⟨g, e2⟩ := z
        rw [e] at ih
        have bd := lq_bd r q b rest (k + 1) (f ++ [c])
        rw [e] at bd
        dsimp only at ih bd ⊢
        rw [show e2 - k = (e2 - (k + 1)) + 1 by omega]
        exact ih
termination_by rest => rest.length
theorem bend_mem {r : RS} (hb1 : r.bend.length ≤ 1) {c : Nat} : c ∈ r.bend ↔ r.bend = [c] := by
  constructor
  · intro h
    match hbn : r.bend, h, hb1 with
    | [x], h, _ => rw [List.mem_singleton.mp h]
  · intro h; rw [h]; exact List.mem_singleton.mpr rfl
theorem begin_some {m : MS} {w : Tx} (h : m.word = some w) : m.begin = m := by
  unfold MS.begin
  rw [h]
theorem fin_lw (r : RS) (hb1 : r.bend.length ≤ 1) (t : Tx) : ∀ (n k : Nat) (f : Tx) (m : MS) (acc : List W3), m.state = [] → m.bent = false → m.word = some f → m.place = k → k ≤ t.length → t.length ≤ n + k →
    match lw r t n k f with
    | .error b => fin r m (t.drop k) acc = .error b
    | .ok (g, e) => (t[e]? = none ∨ ∃ c, t[e]? = some c ∧ c ∈ r.breaks ++ r.note) ∧ ∃ o, fin r m (t.drop k) acc = fin r { m with word := some g, place := e, opened := o } (t.drop e) acc
  | 0, k, f, m, acc, hs, hb, hw, hp, hk, hn => by
    simp only [lw]
    refine ⟨.inl (List.getElem?_eq_none_iff.mpr (by omega)), m.opened, ?_⟩
    rw [← hw, ← hp]
  | n + 1, k, f, m, acc, hs, hb, hw, hp, hk, hn => by
    have stay : ∃ o, fin r m (t.drop k) acc = fin r { m with word := some f, place := k, opened := o } (t.drop k) acc := ⟨m.opened, by rw [← hw, ← hp]⟩
    cases hc : t[k]? with
    | none =>
      simp only [lw, hc]
      exact ⟨.inl trivial, stay⟩
    | some c =>
      have hk' : k < t.length := (List.getElem?_eq_some_iff.mp hc).1
      by_cases c1 : c ∈ r.breaks ++ r.note
      · simp only [lw, hc, if_pos c1]
        exact ⟨.inr ⟨c, rfl, c1⟩, stay⟩
      have c1' : ¬ c ∈ r.breaks ∧ ¬ c ∈ r.note := ⟨fun h => c1 (List.mem_append_left _ h), fun h => c1 (List.mem_append_right _ h)⟩
      have bg := begin_some hw
      rw [drop_at hc, fin_step, step_plain hs hb]
      by_cases c2 : c ∈ r.hard ++ r.soft
      · have pl : m.plain r c = ({ m with state := [c], opened := m.place }, []) := by
          unfold MS.plain
          rw [if_neg c1'.1, if_neg c1'.2, if_pos (show c ∈ r.quotes from c2), bg]
        rw [pl]
        simp only [lw, hc, if_neg c1, if_pos c2, List.append_nil]
        have q := fin_lq r hb1 c k (t.drop (k + 1)) (k + 1) [] f { m with state := [c], opened := m.place, place := m.place + 1 } acc rfl hb (by simp [hw]) (by show m.place + 1 = k + 1; omega) hp
        have bd := lq_bd r c k (t.drop (k + 1)) (k + 1) []
        cases e : lq r c k (t.drop (k + 1)) (k + 1) [] with
        | error b =>
          rw [e] at q bd
          dsimp only at q bd ⊢
          rw [bd]
          exact q
        | ok z =>
          obtain ⟨g, e2⟩ := z
          rw [e] at q bd
          rw [List.length_drop] at bd
          dsimp only at q bd ⊢
          rw [List.drop_drop, show k + 1 + (e2 - (k + 1)) = e2 by omega] at q
          have ih := fin_lw r hb1 t n e2 (f ++ g) { m with state := [], opened := m.place, word := some (f ++ g), place := e2 } acc rfl hb rfl rfl (by omega) (by omega)
          cases e3 : lw r t n e2 (f ++ g) with
          | error b =>
            rw [e3] at ih
            exact Eq.trans q ih
          | ok z =>
            obtain ⟨g3, e4⟩ := z
            rw [e3] at ih
            obtain ⟨i1, o, i2⟩ := ih
            refine ⟨i1, o, Eq.trans q (Eq.trans i2 ?_)⟩
            rw [← hs]
      have c2' : ¬ c ∈ r.quotes := c2
      by_cases c3 : r.bend = [c]
      · have pl : m.plain r c = ({ m with bent := true, opened := m.place }, []) := by
          unfold MS.plain
          rw [if_neg c1'.1, if_neg c1'.2, if_neg c2', if_pos ((bend_mem hb1).mpr c3), bg]
        rw [pl]
        simp only [lw, hc, if_neg c1, if_neg c2, if_pos c3, List.append_nil]
        cases hd : t[k + 1]? with
        | none =>
          have e0 : t.drop (k + 1) = [] := drop_end hd
          rw [e0]
          have : ({ m with bent := true, opened := m.place, place := m.place + 1 } : MS).fault = some k := by
            unfold MS.fault
            rw [if_pos (.inl rfl)]
            exact congrArg some hp
          simp [fin, MS.run, this]
        | some d =>
          have hk2 : k + 1 < t.length := (List.getElem?_eq_some_iff.mp hd).1
          rw [drop_at hd, fin_step, step_bent (m := { m with bent := true, opened := m.place, place := m.place + 1 }) (by show m.state ≠ NT; rw [hs]; exact nil_NT) rfl, List.append_nil]
          have ih := fin_lw r hb1 t n (k + 2) (f ++ [d]) { (({ m with bent := false, opened := m.place, place := m.place + 1 } : MS).add d) with place := m.place + 1 + 1 } acc hs rfl (by simp [MS.add, hw]) (by show m.place + 1 + 1 = k + 2; omega) (by omega) (by omega)
          dsimp only
          cases e3 : lw r t n (k + 2) (f ++ [d]) with
          | error b =>
            rw [e3] at ih
            exact ih
          | ok z =>
            obtain ⟨g3, e4⟩ := z
            rw [e3] at ih
            obtain ⟨i1, o, i2⟩ := ih
            refine ⟨i1, o, Eq.trans i2 ?_⟩
            rw [hb]
            rfl
      · have pl : m.plain r c = (m.add c, []) := by
          unfold MS.plain
          rw [if_neg c1'.1, if_neg c1'.2, if_neg c2', if_neg (fun h => c3 ((bend_mem hb1).mp h)), bg]
        rw [pl]
        simp only [lw, hc, if_neg c1, if_neg c2, if_neg c3, List.append_nil]
        have ih := fin_lw r hb1 t n (k + 1) (f ++ [c]) { (m.add c) with place := m.place + 1 } acc hs hb (by simp [MS.add, hw]) (by show m.place + 1 = k + 1; omega) (by omega) (by omega)
        cases e3 : lw r t n (k + 1) (f ++ [c]) with
        | error b =>
          rw [e3] at ih
          exact ih
        | ok z =>
          obtain ⟨g3, e4⟩ := z
          rw [e3] at ih
          obtain ⟨i1, o, i2⟩ := ih
          exact ⟨i1, o, i2⟩
theorem fin_note (r : RS) : ∀ (rest : Tx) (m : MS) (acc : List W3), m.state = NT → m.bent = false → fin r m rest acc = fin r { m with place := m.place + nlk rest } (rest.drop (nlk rest)) acc
  | [], m, acc, _, _ => rfl
  | c :: rest, m, acc, hs, hb => by
    by_cases h : c = LE
    · simp only [nlk, if_pos h]
      rfl
    · have st : m.step r c = ({ m with place := m.place + 1 }, []) := by
        unfold MS.step
        rw [if_neg (fun z => h z.2)]
        simp only [hb, Bool.false_eq_true, if_false, hs, NT_nil, if_true]
      rw [fin_step, st, List.append_nil]
      simp only [nlk, if_neg h]
      have ih := fin_note r rest { m with place := m.place + 1 } acc hs hb
      rw [ih]
      show fin r { m with place := m.place + 1 + nlk rest } _ acc = fin r { m with place := m.place + (nlk rest + 1) } _ acc
      rw [show m.place + 1 + nlk rest = m.place + (nlk rest + 1) by omega]
      rfl
theorem step_begin {r : RS} {m : MS} {c : Nat} (hs : m.state = []) (hb : m.bent = false) (h1 : ¬ c ∈ r.breaks) (h2 : ¬ c ∈ r.note) : m.step r c = m.begin.step r c := by
  have bs : m.begin.state = [] := by unfold MS.begin; split <;> exact hs
  have bb : m.begin.bent = false := by unfold MS.begin; split <;> exact hb
  have bw : ∃ w, m.begin.word = some w := by
    unfold MS.begin
    cases h : m.word with
    | none => exact ⟨[], rfl⟩
    | some w => exact ⟨w, h⟩
  obtain ⟨w, bw⟩ := bw
  have b2 : m.begin.begin = m.begin := begin_some bw
  rw [step_plain hs hb, step_plain bs bb, MS.place_begin]
  have : m.begin.plain r c = m.plain r c := by
    unfold MS.plain
    rw [if_neg h1, if_neg h2, if_neg h1, if_neg h2, b2]
  rw [this]
theorem fin_lr (r : RS) (ok : r.Ok) (t : Tx) : ∀ (n k : Nat) (acc acc0 : List W3) (m : MS), m.state = [] → m.bent = false → m.place = k → k ≤ t.length → t.length < n + k → acc = acc0 ++ m.out →
    (m.word = none ∨ t[k]? = none ∨ ∃ c, t[k]? = some c ∧ c ∈ r.breaks ++ r.note) → fin r m (t.drop k) acc0 = lr r t n k acc
  | 0, k, acc, acc0, m, _, _, _, hk, hn, _, _ => by omega
  | n + 1, k, acc, acc0, m, hs, hb, hp, hk, hn, ha, hw => by
    have hb1 := ok.l4
    have fault0 : ∀ m' : MS, m'.bent = false → (m'.state = [] ∨ m'.state = NT) → m'.fault = none := fun m' h1 h2 => by
      unfold MS.fault
      rw [if_neg]
      rintro (h | h)
      · rw [h1] at h; cases h
      · exact h2.elim h.1 h.2
    have stop : ∀ (m' : MS) acc', m'.bent = false → (m'.state = [] ∨ m'.state = NT) → fin r m' [] acc' = .ok (acc' ++ m'.out) := fun m' acc' h1 h2 => by
      simp [fin, MS.run, fault0 m' h1 h2]
    cases hc : t[k]? with
    | none =>
      simp only [lr, hc]
      rw [drop_end hc, stop m acc0 hb (.inl hs), ha]
    | some c =>
      have hk' : k < t.length := (List.getElem?_eq_some_iff.mp hc).1
      -- a sign that is not the note's
      have go : ∀ (k1 : Nat) (m : MS) (acc0 : List W3) (c' : Nat), k ≤ k1 → m.state = [] → m.bent = false → m.place = k1 → t[k1]? = some c' → acc = acc0 ++ m.out → (m.word = none ∨ c' ∈ r.breaks ++ r.note) → (c' ∈ r.note → k < k1) →
          fin r m (t.drop k1) acc0 = (if c' ∈ r.breaks then lr r t n (k1 + 1) acc else if c' ∈ r.note then lr r t n k1 acc else match lw r t t.length k1 [] with
            | .error b => .error b
            | .ok (w, e) => lr r t n e (acc ++ [(w, k1, e)])) := fun k1 m acc0 c' hkk hs hb hp hc' ha hw hnn => by
        have hk1 : k1 < t.length := (List.getElem?_eq_some_iff.mp hc').1
        by_cases d1 : c' ∈ r.breaks
        · rw [if_pos d1, drop_at hc', fin_step, step_plain hs hb]
          have pl : m.plain r c' = (m.drop, m.out) := by
            unfold MS.plain
            rw [if_pos d1]
          rw [pl]
          exact fin_lr r ok t n (k1 + 1) acc (acc0 ++ m.out) { m.drop with place := m.place + 1 } hs hb (by show m.place + 1 = _; omega) (by omega) (by omega) (by rw [ha]; simp [MS.out, MS.drop]) (.inl rfl)
        rw [if_neg d1]
        by_cases d2 : c' ∈ r.note
        · rw [if_pos d2]
          have := hnn d2
          exact fin_lr r ok t n k1 acc acc0 m hs hb hp (by omega) (by omega) ha (.inr (.inr ⟨c', hc', List.mem_append_right _ d2⟩))
        rw [if_neg d2]
        have d3 : c' ∉ r.breaks ++ r.note := fun h => (List.mem_append.mp h).elim d1 d2
        have w0 : m.word = none := hw.elim id fun h => absurd h d3
        have out0 : m.out = [] := by unfold MS.out; rw [w0]
        rw [out0, List.append_nil] at ha
        have bg : m.begin = { m with word := some [], begun := m.place } := by
          unfold MS.begin
          rw [w0]
        have e0 : fin r m (t.drop k1) acc0 = fin r m.begin (t.drop k1) acc0 := by
          rw [drop_at hc', fin_step, fin_step, step_begin hs hb d1 d2]
        rw [e0, bg]
        have q := fin_lw r hb1 t t.length k1 [] { m with word := some [], begun := m.place } acc0 hs hb rfl hp (by omega) (by omega)
        cases e : lw r t t.length k1 [] with
        | error b =>
          rw [e] at q
          exact q
        | ok z =>
          obtain ⟨g, e2⟩ := z
          rw [e] at q
          obtain ⟨q1, o, q2⟩ := q
          have bd := lw_bd r t t.length k1 [] (by omega)
          rw [e] at bd
          have ps : k1 + 1 ≤ e2 := by
            obtain ⟨n', hn'⟩ : ∃ n', t.length = n' + 1 := ⟨t.length - 1, by omega⟩
            rw [hn'] at e
            exact lw_pos hc' d3 e
          dsimp only at bd ⊢
          refine Eq.trans q2 ?_
          exact fin_lr r ok t n e2 (acc ++ [(g, k1, e2)]) acc0 { m with word := some g, begun := m.place, place := e2, opened := o } hs hb rfl (by omega) (by omega) (by rw [ha]; simp [MS.out, hp]) (.inr q1)
      by_cases hnote : r.note = [c]
      · have cn : c ∈ r.note := by rw [hnote]; exact List.mem_singleton.mpr rfl
        have cb : ¬ c ∈ r.breaks := fun h => by
          have nd := ok.nd
          simp only [RS.every] at nd
          exact (List.nodup_append.mp nd).2.2 c h c (by simp [cn]) rfl
        have pl : m.plain r c = ({ m.drop with state := NT }, m.out) := by
          unfold MS.plain
          rw [if_neg cb, if_pos cn]
        simp only [lr, hc, if_pos hnote]
        rw [drop_at hc, fin_step, step_plain hs hb, pl]
        dsimp only
        rw [← ha]
        rw [fin_note r (t.drop (k + 1)) { m.drop with state := NT, place := m.place + 1 } acc rfl hb]
        have ns := nlAt_spec (t := t) (i := k + 1) (by omega)
        have ed : (t.drop (k + 1)).drop (nlk (t.drop (k + 1))) = t.drop (nlAt t (k + 1)) := by rw [List.drop_drop]; rfl
        have ep : m.place + 1 + nlk (t.drop (k + 1)) = nlAt t (k + 1) := by rw [hp]; rfl
        rw [ed]
        show fin r { m.drop with state := NT, place := m.place + 1 + nlk (t.drop (k + 1)) } _ acc = _
        rw [ep]
        generalize nlAt t (k + 1) = k1 at *
        cases hc' : t[k1]? with
        | none =>
          dsimp only
          rw [drop_end hc']
          refine Eq.trans (stop { m.drop with state := NT, place := k1 } acc hb (.inr rfl)) ?_
          simp [MS.out, MS.drop]
        | some c' =>
          have hk1 : k1 < t.length := (List.getElem?_eq_some_iff.mp hc').1
          have cl : c' = LE := by
            have := ns.2.2.2 hk1
            rw [hc'] at this
            exact Option.some.inj this
          have e1 : fin r { m.drop with state := NT, place := k1 } (t.drop k1) acc = fin r { m.drop with state := [], place := k1 } (t.drop k1) acc := by
            rw [drop_at hc', fin_step, fin_step]
            have : ({ m.drop with state := NT, place := k1 } : MS).step r c' = ({ m.drop with state := [], place := k1 } : MS).step r c' := by
              rw [step_plain (m := { m.drop with state := [], place := k1 }) rfl hb]
              unfold MS.step
              rw [if_pos ⟨rfl, cl⟩]
              have hb' : ({ m.drop with state := NT, place := k1 } : MS).bent = false := hb
              have hb'' : m.drop.bent = false := hb
              simp only [hb'', Bool.false_eq_true, if_false, if_true]
              rw [MS.place_plain]
            rw [this]
          rw [e1]
          exact go k1 { m.drop with state := [], place := k1 } acc c' (by omega) rfl hb rfl hc' (by simp [MS.out, MS.drop]) (.inl rfl) (fun _ => by omega)
      · simp only [lr, hc, if_neg hnote]
        have cn : ¬ c ∈ r.note := fun h => hnote (by
          have l5 := ok.l5
          match hnn : r.note, h, l5 with
          | [x], h, _ => rw [List.mem_singleton.mp h])
        refine go k m acc0 c (Nat.le_refl _) hs hb hp hc ha ?_ (fun h => absurd h cn)
        rcases hw with h | h | ⟨c', h, h2⟩
        · exact .inl h
        · rw [hc] at h; cases h
        · rw [hc] at h; cases h; exact .inr h2
theorem readAll_lr {r : RS} (ok : r.Ok) (t : Tx) (rp : Addr) : readAll r t rp = lr r t (t.length + 1) 0 [] := by
  have := fin_lr r ok t (t.length + 1) 0 [] [] (MS.zero rp) rfl rfl rfl (Nat.zero_le _) (by omega) rfl (.inl rfl)
  rw [List.drop_zero] at this
  rw [← this]
  unfold readAll fin
  split <;> simp_all
end Qw

set_option Elab.async false
set_option linter.all false
set_option maxRecDepth 100000
set_option maxHeartbeats 4000000
namespace Qw
open PySem L2
section
variable {X : Cx}
/-! ### list(text) -/
def rListStr : List V → Hp → VK → Prop := fun xs H Q => ∃ l : Tx, xs = [.str (S l)] ∧ l.length ≤ 100000 ∧ ∀ p, H p = none → Q (.ref p) (upd H p (.lst (l.map fun c => .str (S [c]))))
theorem call_list_str (hc : X.calm = true) : CallR X (.type "list") rListStr := by
  rintro pins s σ H xs us Q I r ⟨l, rfl, hl, q⟩
  obtain ⟨u, rfl, t, rfl⟩ := vals1 r
  have hz : (S l).cps.size ≤ sizeLine := by rw [S_size]; exact Nat.le_trans hl (by decide)
  refine PySem.call_list_str (hn := hz) (I.ok.hd hc) (S l) t fun h' tk acc c' hk hS hi => ?_
  have hv : Vals (l.map fun c => V.str (S [c])) acc.toList := by
    refine vals_of_at ?_ fun j x u h1 h2 => ?_
    · rw [List.length_map, ← S_size l]; exact hi.1.symm
    · rw [Array.getElem?_toList] at h2
      obtain ⟨c, t', e1, e2⟩ := hi.2 j u h2
      rw [List.getElem?_map] at h1
      have e3 : l[j]? = some c := by simpa [S] using e1
      rw [e3] at h1
      cases h1
      exact ⟨t', e2⟩
  refine ⟨.ref s.heap.objs.size, _, I.laid (t' := tk) (o := .lst (l.map fun c => V.str (S [c]))) hk (Nat.le_refl _) ⟨?_, acc.toList, c', hv, by simpa using hS⟩, rfl, q _ (I.hok.fresh (Nat.le_refl _))⟩
  rw [List.length_map]; rw [S_size] at hz; exact hz
/-! ### text * number -/
def rMulS : R2 := fun x y H Q => ∃ (l : Tx) (n : Nat), x = .str (S l) ∧ y = .int n ∧ n < 1000 ∧ l.length < 1000 ∧ Q (.str (S (List.replicate n l).flatten)) H
theorem foldl_cat (l : Tx) : ∀ (n : Nat) (acc : Array Nat), (List.replicate n (S l).cps).foldl (· ++ ·) acc = acc ++ ((List.replicate n l).flatten).toArray
  | 0, acc => by simp
  | n + 1, acc => by
    rw [List.replicate_succ, List.foldl_cons, foldl_cat l n, List.replicate_succ, List.flatten_cons]
    simp [S]
theorem op_mul_str : OpR X (binaryOp .Mult) rMulS := by
  rintro pins s σ H x y v u Q I rx ry ⟨l, n, rfl, rfl, hn, hl, q⟩
  obtain ⟨t, rfl⟩ := rx
  obtain ⟨t', rfl⟩ := ry
  have hS : (S l).length = l.length := S_len l
  have big : l.length * n ≤ 1000 * 1000 := Nat.mul_le_mul (Nat.le_of_lt hl) (Nat.le_of_lt hn)
  refine P.mul_str ?_ (fun h1 _ => ?_) (fun h1 _ => ?_) ?_
  · have a1 : ¬ ((n : Int) < -(2 ^ 63)) := by omega
    have a2 : ¬ ((n : Int) ≥ 2 ^ 63) := by omega
    rw [decide_eq_false a1, decide_eq_false a2]; rfl
  · rw [hS]
    have h2 : (0 : Int) < n := by omega
    intro z
    have z' : (2 ^ 63 - 1 : Int) / n < l.length := z
    have := (Int.ediv_lt_iff_lt_mul h2).mp z'
    have e : ((l.length : Nat) : Int) * n = ((l.length * n : Nat) : Int) := by push_cast; rfl
    rw [e] at this
    omega
  · rw [hS, Int.toNat_natCast]
    exact decide_eq_false (Nat.not_lt.mpr (Nat.le_trans big (by decide)))
  · have er : ((List.replicate n (S l).cps).foldl (· ++ ·) #[]) = ((List.replicate n l).flatten).toArray := by rw [foldl_cat]; simp
    have el : ((List.replicate n l).flatten).length = n * l.length := by simp
    split
    · have : n = 0 := by omega
      subst this
      exact ⟨Nat.zero_le _, .str (S []), H, I.tok _, ⟨_, rfl⟩, q⟩
    split
    · rename_i h1 h2
      have : n = 1 ∨ l = [] := by
        rcases Bool.or_eq_true _ _ ▸ h2 with h | h
        · left
          have := beq_iff_eq.mp h
          omega
        · right
          have := beq_iff_eq.mp h
          rw [hS] at this
          exact List.length_eq_zero_iff.mp this
      refine ⟨.str (S l), H, I, ⟨_, rfl⟩, ?_⟩
      have e : (List.replicate n l).flatten = l := by
        rcases this with h | h
        · subst h; simp
        · subst h; simp
      rw [e] at q
      exact q
    · rw [Int.toNat_natCast, er]
      refine ⟨?_, .str (S _), H, I.tok _, ⟨_, rfl⟩, q⟩
      show (S _).length ≤ _
      rw [S_len, el, Nat.mul_comm]
      exact Nat.le_trans big (by decide)
/-! ### list.count(True), of truths -/
def rCntB (K : PySem.W.Frag) : V → List V → Hp → VK → Prop := fun x xs H Q => ∃ (p : Addr) (bs : List Bool) (k : Bool), x = .ref p ∧ xs = [.bl k] ∧ SqL K H p (bs.map V.bl) ∧ Q (.int (bs.count k : Nat)) H
def isB (k : Bool) : Value → Bool
  | .bool b => b == k
  | _ => false
theorem mt_lcountB : MtR X "list.count" (rCntB X.K) := by
  rintro pins s σ H x xs v us Q I rx rxs ⟨p, bs, k, rfl, rfl, hs, q⟩
  cases rx
  obtain ⟨u, rfl, ru⟩ := rxs.one
  cases ru
  obtain ⟨its, rv, ⟨⟨cls, dd, data, sl⟩, n, ho, hc, hdn, hd⟩, hlen⟩ := I.list hs
  simp only at hc hd
  subst hc hd
  have bool_at : ∀ {bs : List Bool} {its : List Value}, Vals (bs.map V.bl) its → its.countP (isB k) = bs.count k ∧ ∀ y ∈ its, ∃ b, y = .bool b := by
    intro bs
    induction bs with
    | nil => intro its r; cases r; exact ⟨rfl, fun y hy => by cases hy⟩
    | cons b bs ih =>
      intro its r
      cases r with
      | cons r t =>
        cases r
        obtain ⟨h1, h2⟩ := ih t
        refine ⟨?_, fun y hy => ?_⟩
        · rw [List.countP_cons, List.count_cons, h1]; rfl
        · rcases List.mem_cons.mp hy with e | e
          · exact ⟨b, e⟩
          · exact h2 y e
  obtain ⟨ec, hb⟩ := bool_at rv
  refine call_meets PySem.F.slot_list_count ⟨_, ho, rfl⟩ PySem.F.entry_list_count (PySem.F.args_list_count_2 _ _)
    (SeqAt.list_countAt p its.toArray n dd sl (.bool k) (isB k)) ⟨ho, fun y hy => ?_, ?_⟩
  · obtain ⟨b, rfl⟩ := hb y (by simpa using hy)
    have := eqAt_V (A := X.A.in1) (s := s) (y := .bl b) (x := .bl k) (u := .bool b) (v := .bool k) rfl rfl rfl rfl
    exact this
  · refine ⟨.int (bs.count k : Nat), H, I.tok _, ⟨s.toks, ?_⟩, q⟩
    show Value.int ((its.toArray.toList.countP (isB k) : Nat) : Int) s.toks = Value.int ((bs.count k : Nat) : Int) s.toks
    rw [show its.toArray.toList = its from rfl, ec]
/-! ### text[::-1] -/
def tRevS (te : TE) : TE := fun σ H Q => te σ H fun x H1 => ∃ l : Tx, x = .str (S l) ∧ l.length ≤ 100000 ∧ Q (.str (S l.reverse)) H1
theorem rev_indices (n : Nat) : Builtin.Str.strSliceIndices none none (-1) n = (List.range n).reverse := by
  have h : Builtin.Str.strSliceIndices none none (-1) n = sliceRange ((n : Int) - 1) (-1) (-1) := rfl
  rw [h, PySem.W.krv_sliceRange, PySem.W.krv_range]
theorem pe_revS {e : Expr} {te : TE} {k : Nat} {p1 p2 p3 pos : Pos} (he : PE X e te) : PE X (.Subscript e (.Slice none none (some (.UnaryOp .USub (.Constant (.int 1) k p1) p2)) p3) pos) (tRevS te) := by
  refine ⟨fun pins s σ H Q I h => ?_⟩
  refine PyProof.Rows.Subscript_ (thn (he.run pins s σ H _ I h) fun v s1 hv => ?_)
  obtain ⟨x, H1, I1, r1, l, rfl, hl, q⟩ := hv
  obtain ⟨t, rfl⟩ := r1
  have third : PO X (some (.UnaryOp .USub (.Constant (.int 1) k p1) p2)) (tPart (tUn (rU fun i => .int (-i)) (tC (.int 1)))) := po_some (pe_un un_neg pe_int)
  refine wpAny_Slice (thn (po_none.run pins s1 σ H1 (fun o Hx => o = none ∧ Hx = H1) I1 ⟨rfl, rfl⟩) fun a1 s2 h2 => ?_)
  obtain ⟨o2, H2, I2, p2', rfl, rfl⟩ := h2
  cases p2'
  refine thn (po_none.run pins s2 σ H2 (fun o Hx => o = none ∧ Hx = H2) I2 ⟨rfl, rfl⟩) fun a2 s3 h3 => ?_
  obtain ⟨o3, H3, I3, p3', rfl, rfl⟩ := h3
  cases p3'
  refine thn (third.run pins s3 σ H3 (fun o Hx => o = some (-1) ∧ Hx = H3) I3 ⟨1, rfl, -1, rfl, rfl, rfl⟩) fun a3 s4 h4 => ?_
  obtain ⟨o4, H4, I4, p4', rfl, rfl⟩ := h4
  obtain ⟨t4, rfl⟩ : ∃ t4, a3 = .int (-1) t4 := by cases p4' with | int i t => exact ⟨t, rfl⟩
  have I5 : L2.Inv X pins σ H4 { s4 with heap := s4.heap.push { cls := .type "slice", data := .fields #[.none, .none, .int (-1) t4] } } := I4.kept (t' := s4.toks) fun b ob z => Heap.get?_push_of_some _ z
  refine PyProof.Rows.tail_any (ops := [.str (S l) t, .ref s4.heap.objs.size]) (typeIs_str _ _ _) (PySem.F.slot_str_getitem.lookup) ?_ (by with_unfolding_all rfl)
  refine wpAny_getItem_str_slice (l := none) (u := none) (st := some (-1, t4)) ⟨_, Heap.get?_push_size _ rfl, rfl, rfl⟩ (show ((-1 : Int) == 0) = false by decide) ?_
  have e1 : slicePicked (S l) none none (some (-1, t4)) = (List.range l.length).reverse := by
    show Builtin.Str.strSliceIndices none none (-1) (S l).length = _
    rw [S_len, rev_indices]
  have e2 : ((List.range l.length).reverse.filterMap ((S l).cps[·]?)) = l.reverse := by
    rw [List.filterMap_reverse]
    have := PySem.W.krv_all (S l).cps
    rw [S_size] at this
    rw [this]
    rfl
  unfold sliceMade
  split
  · rename_i hc
    have hc' : ((-1 : Int) == 1 && (slicePicked (S l) none none (some (-1, t4))).length == (S l).length) = true := hc
    rw [show ((-1 : Int) == 1) = false by decide, Bool.false_and] at hc'
    cases hc'
  rw [e1, e2]
  refine ⟨?_, .str (S l.reverse), H4, I5.tok _, ⟨_, rfl⟩, q⟩
  show (S l.reverse).length ≤ _
  rw [S_len, List.length_reverse]
  exact Nat.le_trans hl (by decide)
/-! ### zip(list, tuple) -/
theorem nn {x y : Nat} (h : x ≠ y) : (x : Addr) ≠ y := h
theorem sep_nat (n a b : Nat) (la : a < n) (lb : b < n) : ZipSep2 (n + 4) (n + 2) (n + 3) n (n + 1) [n, a] [n + 1, b] := by
  have nl : ∀ (x y z : Nat), x ≠ y → x ≠ z → x ∉ [y, z] := fun x y z h1 h2 h => by
    rcases List.mem_cons.mp h with e | e
    · exact h1 e
    · exact h2 (List.mem_singleton.mp e)
  exact ⟨nn (by omega), nn (by omega), nn (by omega), nn (by omega), List.mem_cons_self .., nl _ _ _ (by omega) (by omega), nl _ _ _ (by omega) (by omega), nn (by omega), List.mem_cons_self .., nl _ _ _ (by omega) (by omega), nl _ _ _ (by omega) (by omega), nl _ _ _ (by omega) (by omega), nl _ _ _ (by omega) (by omega)⟩
theorem back : ∀ {xs : List V} {us : List Value} {i : Nat} {u : Value}, Vals xs us → us[i]? = some u → ∃ x, xs[i]? = some x ∧ RelV x u
  | _, _, _, _, .nil, e => by simp at e
  | _, _, 0, _, .cons r _, e => by simp at e; subst e; exact ⟨_, rfl, r⟩
  | _, _, i + 1, u, .cons _ t, e => by
    obtain ⟨x, h1, h2⟩ := back (i := i) (u := u) t (by simpa using e)
    exact ⟨x, by simpa using h1, h2⟩
/-- the list at a and the tuple at b as they stand at each turn, the items in new pairs -/
def ItzLT (K : PySem.W.Frag) (a b : Addr) : It :=
  ⟨fun i H => ∃ (xs ys : List V), SqL K H a xs ∧ SqT K H b ys ∧ i < min xs.length ys.length,
    fun i H v H' => ∃ T x y, v = .ref T ∧ H T = none ∧ H' = upd H T (.tup [x, y]) ∧ (∀ xs, SqL K H a xs → xs[i]? = some x) ∧ ∀ ys, SqT K H b ys → ys[i]? = some y,
    fun i H => ∃ xs ys : List V, SqL K H a xs ∧ SqT K H b ys ∧ i = min xs.length ys.length⟩
def ZiSt (a b z TI TO i1 i2 : Addr) (i : Nat) (h : Heap) : Prop :=
  IsZip h z TI TO .none ∧ IsTupOf2 h TI (.ref i1) (.ref i2) ∧ (∃ a1 a2, IsTupOf2 h TO a1 a2) ∧ h.IsListIter i1 a i ∧ h.IsTupleIter i2 b i
theorem in5 {c z TI TO i1 i2 : Addr} : c ∈ [z, TI, TO, i1, i2] ↔ c = z ∨ c = TI ∨ c = TO ∨ c = i1 ∨ c = i2 := by simp
theorem turn_zipLT {P : Program} {w : World} {K : PySem.W.Frag} {elts : List Expr} {kk : Nat} {tpos : Pos} {a b z TI TO i1 i2 : Addr} (D : ZipSep2 z TI TO i1 i2 [i1, a] [i2, b]) (na : a ≠ i1) (nb : b ≠ i2) :
    Turn P w K (.Tuple elts kk tpos) (ItzLT K a b) [z, TI, TO, i1, i2] z (ZiSt a b z TI TO i1 i2) where
  mem := in5.mpr (.inl rfl)
  obj := fun i h st c hc => by
    obtain ⟨h1, h2, ⟨x, y, h3⟩, ⟨o1, e1, _, d1⟩, ⟨o2, e2, _, d2⟩⟩ := st
    rcases in5.mp hc with q | q | q | q | q <;> subst q
    · exact ⟨_, h1, nofun⟩
    · exact ⟨_, h2, nofun⟩
    · exact ⟨_, h3, nofun⟩
    · exact ⟨o1, e1, fun v q => by rw [d1] at q; cases q⟩
    · exact ⟨o2, e2, fun v q => by rw [d2] at q; cases q⟩
  keep := fun i h h' st k => by
    obtain ⟨h1, h2, ⟨x, y, h3⟩, h4, h5⟩ := st
    exact ⟨k z (by simp) _ h1, k TI (by simp) _ h2, ⟨x, y, k TO (by simp) _ h3⟩, h4.at fun o q => k i1 (by simp) o q, h5.at fun o q => k i2 (by simp) o q⟩
  item := by
    intro X hP hw hK hc i pins s σ H E I hf st hg
    subst hP hw hK
    obtain ⟨xs, ys, hqx, hqy, hi⟩ := hg
    obtain ⟨its, rv, p, _⟩ := I.list hqx
    obtain ⟨its2, rv2, p2, _⟩ := I.tuple hqy
    have hh : X.A.in1.handled = none := I.ok.hd hc
    have W := WalksT.zipD2 (prog := X.prog) (w := X.w) D (Draws.list hh i1 a na its.toArray) (Draws.tuple hh i2 b nb its2.toArray)
    obtain ⟨h1, h2, h3, h4, h5⟩ := st
    have l1 := rv.length
    have l2 := rv2.length
    refine W.item i s _ _ (by simp only [List.size_toArray]; omega) ⟨h1, h2, h3, ⟨h4, p.isList⟩, ⟨h5, p2⟩⟩ fun T vals h' tk hv hT tup mid kk' => ⟨_, rfl, ?_⟩
    obtain ⟨x1, x2, y1, y2, rfl⟩ := hv
    have nT : T ∉ [z, TO, i1, i2] := W.apart _ _ _ mid
    refine W.go elts kk tpos i T { s with heap := h', toks := tk } _ _ mid fun h'' st'' k2 => ?_
    have tup2 : PyProof.Rows.IsTup h'' T #[x1, x2] := by
      obtain ⟨o, ho, r⟩ := tup
      exact ⟨o, k2 _ _ nT ho, r⟩
    have g1 : its[i]? = some x1 := by simpa using y1
    have g2 : its2[i]? = some x2 := by simpa using y2
    obtain ⟨v1, e1, r1⟩ := back rv g1
    obtain ⟨v2, e2, r2⟩ := back rv2 g2
    have new : ObjOk X.prog X.w (upd H T (.tup [v1, v2])) h'' T (.tup [v1, v2]) := ⟨by show 2 ≤ sizeLine; decide, [x1, x2], .cons r1 (.cons r2 .nil), tup2⟩
    have sub5 : ∀ c, c ∈ [z, TO, i1, i2] → c ∈ [z, TI, TO, i1, i2] := fun c hc => by
      have : c = z ∨ c = TO ∨ c = i1 ∨ c = i2 := by simpa using hc
      rcases this with q | q | q | q <;> subst q <;> simp
    have I1 : L2.Inv X pins σ (upd H T (.tup [v1, v2])) { s with heap := h'', toks := tk } := I.turnedNew (t' := tk) (ch := [z, TI, TO, i1, i2])
      (fun c o hb q => k2 c o (fun h => hb (sub5 c h)) (kk' c o (fun h => hb (sub5 c h)) q)) hf hT new
    obtain ⟨a1, a2, a3, a4, a5⟩ := st''
    refine ⟨.ref T, _, I1, rfl, ⟨T, v1, v2, rfl, I.hok.fresh hT, rfl, fun l hl => by rw [I.list_inj hl hqx]; exact e1, fun l hl => by rw [I.tuple_inj hl hqy]; exact e2⟩, ⟨a1, a2, a3, a4.1, a5.1⟩, fun c hcm => ?_⟩
    have hlt : c < s.heap.objs.size := by
      obtain ⟨x0, y0, h3⟩ := h3
      rcases in5.mp hcm with q | q | q | q | q <;> subst q
      · exact Heap.lt_size h1
      · exact Heap.lt_size h2
      · exact Heap.lt_size h3
      · obtain ⟨_, e, _⟩ := h4; exact Heap.lt_size e
      · obtain ⟨_, e, _⟩ := h5; exact Heap.lt_size e
    rw [upd_ne (Nat.ne_of_lt (Nat.lt_of_lt_of_le hlt hT))]
    exact (hf c hcm).1
  done := by
    intro X hP hw hK hc i pins s σ H E I hf st hg
    subst hP hw hK
    obtain ⟨xs, ys, hqx, hqy, hi⟩ := hg
    obtain ⟨its, rv, p, _⟩ := I.list hqx
    obtain ⟨its2, rv2, p2, _⟩ := I.tuple hqy
    have hh : X.A.in1.handled = none := I.ok.hd hc
    have W := WalksT.zipD2 (prog := X.prog) (w := X.w) D (Draws.list hh i1 a na its.toArray) (Draws.tuple hh i2 b nb its2.toArray)
    obtain ⟨h1, h2, h3, h4, h5⟩ := st
    have l1 := rv.length
    have l2 := rv2.length
    have hi' : i = min its.toArray.size its2.toArray.size := by simp only [List.size_toArray]; omega
    subst hi'
    refine W.done s _ _ ⟨h1, h2, h3, ⟨h4, p.isList⟩, ⟨h5, p2⟩⟩ fun h' tk k => ⟨rfl, I.turnedL (t' := tk) (ch := [z, TI, TO, i1, i2]) (fun c o hb q => k c o (fun h => hb ?_) q) hf⟩
    have : c = z ∨ c = TO ∨ c = i1 ∨ c = i2 := by simpa using h
    rcases this with q | q | q | q <;> subst q <;> simp
  self := fun A i s Q E st h => wpAny_pyIter_zip st.1 h
def iZipLT (K : PySem.W.Frag) (ta : TA) : TI := fun σ H R => ta σ H fun vs H1 => ∃ a b xs ys, vs = [.ref a, .ref b] ∧ SqL K H1 a xs ∧ SqT K H1 b ys ∧ R (ItzLT K a b) H1
theorem pi_zipLT {e e2 : Expr} {ta : TA} {p pos tpos : Pos} {elts : List Expr} {kk : Nat} (hg : Gl X "zip") (hm : X.mg "zip" = none) (ha : PA X [e, e2] ta)
    (hs : starEach [e, e2] X.env = (false, eval e X.env) :: starEach [e2] X.env := by rfl) (hpl : (backTo pos (starEach [e2] X.env)).any (·.1) = false := by rfl) :
    PI X (.Tuple elts kk tpos) (.Call (.Name "zip" p) [e, e2] [] pos) (iZipLT X.K ta) := by
  refine ⟨fun pins s σ H R I h => ?_⟩
  refine PyProof.Rows.Call_ (ld_blt I hg hm PyProof.Rows.boot_zip (PyProof.Rows.callWith_type1 (thn (ha.run pos pins s σ H _ I h) fun us s1 hv => ?_) hs hpl))
  obtain ⟨vs, H1, I1, r1, a, b, xs, ys, rfl, hqx, hqy, q⟩ := hv
  obtain ⟨u1, u2, rfl, ra, rb⟩ := vals2 r1
  cases ra
  cases rb
  obtain ⟨its, rv, p1, _⟩ := I1.list hqx
  obtain ⟨its2, rv2, p2, _⟩ := I1.tuple hqy
  have la : a < s1.heap.objs.size := by obtain ⟨o, e, _⟩ := p1.isList; exact Heap.lt_size e
  have lb : b < s1.heap.objs.size := by obtain ⟨o, e, _⟩ := p2; exact Heap.lt_size e
  have fr : ∀ c, s1.heap.objs.size ≤ c → FpOk X pins H1 c := fun c hc => I1.fpOk hc (I1.hok.fresh hc)
  generalize hn : s1.heap.objs.size = n at la lb fr
  have D := sep_nat n a b la lb
  refine zip_begins2 (begins_list a its.toArray) (begins_tuple b its2.toArray) p1.isList p2 fun h' hz hTI hTO h1 h2 hsz hk => wpAny_pyIter_zip hz ?_
  rw [hn] at hz hTI hTO h1 h2 hsz ⊢
  have I2 : L2.Inv X pins σ H1 { s1 with heap := h' } := I1.kept (t' := s1.toks) hk
  refine ⟨n + 4, [n + 4, n + 2, n + 3, n, n + 1], _, ItzLT X.K a b, H1, rfl, I2, turn_zipLT D (Nat.ne_of_lt la) (Nat.ne_of_lt (Nat.lt_succ_of_lt lb)), ⟨hz, hTI, ⟨_, _, hTO⟩, ⟨_, h1, rfl, rfl⟩, ⟨_, h2, rfl, rfl⟩⟩, fun c hc => fr c ?_, q⟩
  rcases in5.mp hc with q | q | q | q | q <;> subst q <;> first | exact Nat.le_refl _ | exact Nat.le_add_right _ _
end
/-! ### len(set(text)) -/
/-- the unlike signs, in the turn in which they are met -/
def uniq (l : Tx) : Tx := l.foldl (fun acc c => if c ∈ acc then acc else acc ++ [c]) []
theorem uniq_snoc (l : Tx) (c : Nat) : uniq (l ++ [c]) = if c ∈ uniq l then uniq l else uniq l ++ [c] := by
  unfold uniq
  rw [List.foldl_append]
  rfl
theorem mem_uniq (l : Tx) : ∀ c, c ∈ uniq l ↔ c ∈ l := by
  have key : ∀ (l acc : Tx) (c : Nat), c ∈ l.foldl (fun acc c => if c ∈ acc then acc else acc ++ [c]) acc ↔ c ∈ acc ∨ c ∈ l := by
    intro l
    induction l with
    | nil => intro acc c; simp
    | cons d l ih =>
      intro acc c
      rw [List.foldl_cons, ih]
      by_cases h : d ∈ acc
      · rw [if_pos h]
        constructor
        · rintro (h1 | h1)
          · exact .inl h1
          · exact .inr (List.mem_cons_of_mem _ h1)
        · rintro (h1 | h1)
          · exact .inl h1
          · rcases List.mem_cons.mp h1 with e | e
            · subst e; exact .inl h
            · exact .inr e
      · rw [if_neg h]
        simp only [List.mem_append, List.mem_cons, List.not_mem_nil, or_false, or_assoc]
  intro c
  rw [uniq, key]
  simp
theorem uniq_le (l : Tx) : (uniq l).length ≤ l.length := by
  have key : ∀ (l acc : Tx), (l.foldl (fun acc c => if c ∈ acc then acc else acc ++ [c]) acc).length ≤ acc.length + l.length := by
    intro l
    induction l with
    | nil => intro acc; simp
    | cons d l ih =>
      intro acc
      rw [List.foldl_cons]
      refine Nat.le_trans (ih _) ?_
      split
      · simp only [List.length_cons]; omega
      · simp only [List.length_append, List.length_cons, List.length_nil]; omega
  have := key l []
  rw [List.length_nil, Nat.zero_add] at this
  exact this
theorem uniq_nodup {l : Tx} (h : l.Nodup) : uniq l = l := by
  have key : ∀ (l acc : Tx), (acc ++ l).Nodup → l.foldl (fun acc c => if c ∈ acc then acc else acc ++ [c]) acc = acc ++ l := by
    intro l
    induction l with
    | nil => intro acc _; simp
    | cons d l ih =>
      intro acc h
      have hd : d ∉ acc := fun z => by
        have := (List.nodup_append.mp h).2.2
        exact this d z d (List.mem_cons_self ..) rfl
      rw [List.foldl_cons, if_neg hd, ih (acc ++ [d]) (by rw [List.append_assoc]; exact h), List.append_assoc]
      rfl
  simpa [uniq] using key l [] (by simpa using h)
section
variable {P : Program} {w : World} {A : Around} {R : Result → Shared → Prop} {I : Addr} {St : Nat → Heap → Prop}
/-- what the set at a holds: the signs of l -/
def SetSigns (P : Program) (w : World) (h : Heap) (a : Addr) (l : Tx) : Prop := h.SetOf (PySem.strKind P w) a (fun k => (uniq l).any fun c => decide (k = S [c])) (uniq l).length
theorem fill_set (l : Tx) (hz : l.length ≤ 1000) (W : Walks P w A.in1 I [I] [I] (S l).cps.size (SignAt (S l)) St) (a : Addr) (ha : a ≠ I) :
    ∀ (k i : Nat) (s : Shared), i + k = l.length → St i s.heap → SetSigns P w s.heap a (l.take i) →
      (∀ h' tk, (∀ b o, b ≠ a → b ≠ I → s.heap.get? b = some o → h'.get? b = some o) → SetSigns P w h' a l → R (.ok (.ret .none)) { s with heap := h', toks := tk }) →
      codeAny (model P w) A (.builtin "set.update.loop" ⟨[.ref a, .ref I], []⟩) R s := by
  intro k
  induction k with
  | zero =>
    intro i s hk st hS hR
    refine codeAny_builtin PyProof.Rows.F.entry_set_update_loop ?_
    rw [Around.under_plainId PyProof.Rows.F.plain_set_update_loop _]
    show wpAny _ A.in1 (pyNext (.ref I) >>= _) _ _ s
    have e : i = (S l).cps.size := by rw [S_size]; omega
    subst e
    refine wpAny_bind (W.done s _ _ st fun h' tk kp => ?_)
    refine wpAny_pure (hR h' tk (fun b o _ hb e => kp b o (by simpa using hb) e) ?_)
    rw [S_size, List.take_length] at hS
    obtain ⟨o, es, ep, t, ho, rest⟩ := hS
    exact ⟨o, es, ep, t, kp a o (by simpa using ha) ho, rest⟩
  | succ k ih =>
    intro i s hk st hS hR
    refine codeAny_builtin PyProof.Rows.F.entry_set_update_loop ?_
    rw [Around.under_plainId PyProof.Rows.F.plain_set_update_loop _]
    show wpAny _ A.in1 (pyNext (.ref I) >>= _) _ _ s
    refine wpAny_bind (W.item i s _ _ (by rw [S_size]; omega) st fun v h1 tk1 hv st1 kp => ?_)
    obtain ⟨c, t, hc, rfl⟩ := hv
    have hc' : l[i]? = some c := by simpa [S] using hc
    have hS1 : SetSigns P w h1 a (l.take i) := by
      obtain ⟨o, es, ep, tb, ho, rest⟩ := hS
      exact ⟨o, es, ep, tb, kp a o (by simpa using ha) ho, rest⟩
    show wpAny _ A.in1 (holding [Value.str (S [c]) t] (setAdd a (.str (S [c]) t)) >>= _) _ _ { s with heap := h1, toks := tk1 }
    refine wpAny_bind (wpAny_holding ?_)
    unfold setAdd
    refine wpAny_holding (wpAny_bind ((PySem.strKind P w).pyHash (k := S [c]) (strKind_is _ _ _ _) ?_))
    have room : (uniq (l.take i)).length + 1 < scanBound := by
      have h1 := uniq_le (l.take i)
      have h2 : (l.take i).length ≤ l.length := by rw [List.length_take]; omega
      unfold scanBound
      omega
    refine wpAny_setAddHashed_of (knd := PySem.strKind P w) (s := { s with heap := h1, toks := tk1 + 1 }) (strKind_is _ _ _ _) rfl hS1 room fun h2 sb hS2 => ?_
    have tk' : l.take (i + 1) = l.take i ++ [c] := by
      rw [List.take_add_one, hc']
      rfl
    have hS3 : SetSigns P w h2 a (l.take (i + 1)) := by
      refine PyProof.Rows.SetOf_congr hS2 (fun k' => ?_) ?_
      · rw [tk', uniq_snoc]
        by_cases m : c ∈ uniq (l.take i)
        · rw [if_pos m]
          by_cases e : k' = S [c]
          · subst e
            have : ((uniq (l.take i)).any fun d => decide (S [c] = S [d])) = true := List.any_eq_true.mpr ⟨c, m, by simp⟩
            rw [this]
            rfl
          · rw [decide_eq_false e, Bool.or_false]
        · rw [if_neg m, List.any_append]
          simp
      · rw [tk', uniq_snoc]
        by_cases m : c ∈ uniq (l.take i)
        · rw [if_pos m]
          have : ((uniq (l.take i)).any fun d => decide (S [c] = S [d])) = true := List.any_eq_true.mpr ⟨c, m, by simp⟩
          rw [if_pos this]
        · rw [if_neg m]
          have : ¬ ((uniq (l.take i)).any fun d => decide (S [c] = S [d])) = true := fun z => by
            obtain ⟨d, hd, e⟩ := List.any_eq_true.mp z
            have : [c] = [d] := S_inj.mp (of_decide_eq_true e)
            cases this
            exact m hd
          rw [if_neg this]
          simp
    have st2 : St (i + 1) h2 := W.frame _ h1 _ st1 fun b hb o e => by
      have e' : b = I := by simpa using hb
      subst e'
      exact (sb.2 b (Ne.symm ha)).trans e
    refine wpAny_pure ⟨plainId_quiet PyProof.Rows.F.plain_set_update_loop _, ih (i + 1) _ (by omega) st2 hS3 fun h3 tk3 kp3 hS4 => ?_⟩
    refine hR h3 tk3 (fun b o h1' h2' e => kp3 b o h1' h2' ?_) hS4
    exact (sb.2 b h1').trans (kp b o (by simpa using h2') e)
end
theorem sub_str_set : isSubtype (.type "str") (.type "set") = pure false := by rw [isSubtype_type]; kernel_rfl
theorem sub_str_frozenset : isSubtype (.type "str") (.type "frozenset") = pure false := by rw [isSubtype_type]; kernel_rfl
section
variable {P : Program} {w : World} {A : Around} {E : Value → Shared → Prop} {s : Shared}
theorem call_set_text (hh : A.handled = none) (l : Tx) (t : Tok) (hz : l.length ≤ 1000) {Q : Value → Shared → Prop}
    (h : ∀ (h' : Heap) (tk : Nat), SetSigns P w h' s.heap.objs.size l → (∀ b o, s.heap.get? b = some o → h'.get? b = some o) → Q (.ref s.heap.objs.size) { s with heap := h', toks := tk }) :
    wpAny (model P w) A (call (.type "set") [.str (S l) t]) Q E s := by
  obtain ⟨c, tl, hmro⟩ := PySem.F.called_set.mro
  have hmade := PySem.F.called_set.made
  have hsub := PySem.F.called_set.sub
  refine wpAny_call (codeAny_of_tree ?_)
  show wpAny _ _ (callAny (.type "set") _) _ _ _
  refine wpAny_pure ⟨Code.quiet_builtin _ (by decide +kernel), codeAny_builtin PySem.F.entry_type_call ?_⟩
  rw [Around.under_plain (weight_type_call_type "set" [.str (S l) t] []) rfl]
  have q1 := PySem.F.called_set.notType
  have q2 := PySem.F.called_set.canCreate
  have q3 := PySem.F.typeCall_set_1 (.str (S l) t)
  repeat (any_goals (first | assumption | wp_step))
  refine codeAny_mono (PySem.code_set_new_1 (.str (S l) t) (E := E) (Q₁ := fun obj s₁ => ∃ led : Bool, obj = .ref s.heap.objs.size ∧ s₁ = { s with heap := s.heap.push { cls := .type "set", dict := none, data := .set #[] 0 (.fresh 0 0 led) } }) fun led => ⟨led, rfl, rfl⟩) fun r s₁ hr => ?_
  cases r with
  | error e => exact hr
  | ok fl =>
    cases fl with
    | ret obj =>
      obtain ⟨led, rfl, rfl⟩ := hr
      have hS : (s.heap.push { cls := .type "set", dict := none, data := .set #[] 0 (.fresh 0 0 led) }).get? s.heap.objs.size = some { cls := .type "set", dict := none, data := .set #[] 0 (.fresh 0 0 led) } := Heap.get?_push_size _ rfl
      have hT : Shared.TypeIs { s with heap := s.heap.push { cls := .type "set", dict := none, data := .set #[] 0 (.fresh 0 0 led) } } (.ref s.heap.objs.size) "set" := ⟨_, hS, rfl⟩
      have q4 := PySem.F.called_set.init.lookup
      have q5 := PySem.F.called_set.init.bind (.ref s.heap.objs.size)
      repeat (any_goals (first | assumption | wp_step))
      refine codeAny_mono (codeAny_call_builtin (R := wants (fun r s₂ => r = .none ∧ ∃ h' tk, s₂ = { s with heap := h', toks := tk } ∧ SetSigns P w h' s.heap.objs.size l ∧
          (∀ b o, s.heap.get? b = some o → h'.get? b = some o)) E) PySem.F.called_set.init.plain PySem.F.entry_set_init (PySem.check_set_init_1 hT ?_)) fun r₂ s₂ hr₂ => ?_
      · have q6 := sub_str_set
        have q7 := sub_str_frozenset
        have q8 : (Value.type "str" == Value.type "dict") = false := by decide
        unfold Builtin.«set.__init__» noKeywords Builtin.Frozenset.updateFrom
        generalize hPI : pyIter = PI
        wp_walk
        subst hPI
        refine wpAny_pyIter_str fun o St W st => ?_
        refine wpAny_bind (wpAny_runValue ?_)
        have sz : (s.heap.push { cls := .type "set", dict := none, data := .set #[] 0 (.fresh 0 0 led) }).objs.size = s.heap.objs.size + 1 := Heap.size_push _ _
        have na : s.heap.objs.size ≠ (s.heap.push { cls := .type "set", dict := none, data := .set #[] 0 (.fresh 0 0 led) }).objs.size := by
          rw [sz]; exact Nat.ne_of_lt (Nat.lt_succ_self _)
        refine fill_set l hz (W _ (by simp [hh])) s.heap.objs.size na l.length 0 _ (Nat.zero_add _) st ?_ fun h' tk kp hS' => ?_
        · have hget := Heap.get?_push_of_some o hS
          exact PyProof.Rows.SetOf_congr ((PyProof.Rows.setObjOf_fresh (knd := PySem.strKind P w) led).setOf hget (by unfold scanBound; omega)) (fun _ => rfl) rfl
        · refine wpAny_pure ?_
          show wpAny _ _ (ret Value.none) _ _ _
          refine wpAny_pure ⟨rfl, h', tk, rfl, hS', fun b ob e => ?_⟩
          have lt := Heap.lt_size e
          refine kp b ob (Nat.ne_of_lt lt) ?_ (Heap.get?_push_of_some _ (Heap.get?_push_of_some _ e))
          show b ≠ _
          rw [sz]
          exact Nat.ne_of_lt (Nat.lt_succ_of_lt lt)
      · cases r₂ with
        | error e => exact hr₂
        | ok fl₂ =>
          cases fl₂ with
          | ret r =>
            obtain ⟨rfl, h', tk, rfl, hS', hk'⟩ := hr₂
            repeat (any_goals (first | assumption | wp_step))
            exact h _ _ hS' hk'
          | _ => exact hr₂.elim
    | _ => exact hr.elim
end
section
variable {X : Cx}
def tLenSetS (ta : TE) : TE := fun σ H Q => ta σ H fun x H1 => ∃ l : Tx, x = .str (S l) ∧ l.length ≤ 1000 ∧ Q (.int ((uniq l).length : Nat)) H1
theorem pe_lenSetS {a : Expr} {ta : TE} {p p2 q pos : Pos} (hc : X.calm = true) (hg : Gl X "len") (hm : X.mg "len" = none) (hg2 : Gl X "set") (hm2 : X.mg "set" = none) (ha : PE X a ta)
    (na : starEach [a] X.env = (false, eval a X.env) :: starEach [] X.env := by rfl) : PE X (.Call (.Name "len" p) [.Call (.Name "set" p2) [a] [] q] [] pos) (tLenSetS ta) := by
  refine ⟨fun pins s σ H Q I h => ?_⟩
  refine PyProof.Rows.Call_ (ld_blt I hg hm boot_len (PyProof.Rows.callWith_builtin1 (PyProof.Rows.args_cons ?_ rfl) rfl rfl))
  refine PyProof.Rows.Call_ (ld_blt I hg2 hm2 PyProof.Rows.boot_set (PyProof.Rows.callWith_type1 (PyProof.Rows.args_cons (thn (ha.run pins s σ H _ I h) fun v s1 hv => PyProof.Rows.args_nil ?_) na) na rfl))
  obtain ⟨x, H1, I1, r1, l, rfl, hl, q1⟩ := hv
  obtain ⟨t, rfl⟩ := r1
  refine call_set_text (I1.ok.hd hc) l t hl fun h' tk hS hk => PyProof.Rows.args_nil ?_
  obtain ⟨o, es, ep, tb, ho, hex, hd, _, _, _, hf, hn⟩ := hS
  have I2 : L2.Inv X pins σ H1 { s1 with heap := h', toks := tk } := I1.kept hk
  have hz := Nat.le_trans (uniq_le l) hl
  exact call_len_set ho hex hd hf (by rw [hn] <;> omega) ⟨.int ((uniq l).length : Nat), H1, I2.tok _, ⟨_, by rw [hn]⟩, q1⟩
end
end Qw

set_option Elab.async false
set_option linter.all false
set_option maxRecDepth 100000
set_option maxHeartbeats 4000000
namespace Qw
open PySem L2
local macro_rules | `(tactic| walk_at "rd") => `(tactic| simp only [iEnum, iRng3, tRevL, rSlS, rSlL, gSub, rSetL, wipe, List.map_cons, List.map_nil, rAll, rAny, rIsi, tM1, tM0, iZipLT, iZip, iRng2, tLenSetS, rListStr, rMulS, rRep, rCntB, tRevS, rNeD, rEqD, tSeq, tNext, tAsg, tRet, tRetN, tDrop, tIfS, sFld, sFldAug, tVar, tC, tOp, tUn, tTest, tB, tAnd, tOr, tNot, tAndV, tOrV, tNotV, tIf, tTup, tLst, tCons, tNil, tCB, tCall, tMeth, tMake, tFld, rI, rI0, rU, rEq, rNe, rCat, gName, gTup, gCons, gNil, tPar, tPar3, tBM, tBM0, rAppend, rExtend, rPopAt, rIxL, rIxT, rIxS, tSl, rSlS, rSlL, tPart, tNoPart, iStr, iTup, iList, iRng1, tAug, ipI, L2.rAdd, L2.rSub, L2.rAddS, tChain, rIsB, rNotB, scal_ss, scal_ii, scal_bb, scal_nn, scal_in, scal_ni, tYes,
  cx_K, cx_N, List.getElem?_cons_zero, List.getElem?_cons_succ, List.set_cons_zero, List.set_cons_succ, List.nil_append, List.cons_append, List.append_nil, List.length_cons, List.length_nil, Nat.zero_add,
  Option.some.injEq, V.ref.injEq, V.int.injEq, V.str.injEq, V.bl.injEq, HO.ins.injEq, HO.lst.injEq, HO.tup.injEq, List.cons.injEq, exists_eq_left, exists_eq_left', exists_eq_right, exists_eq_right', and_true, true_and, exists_and_left, exists_and_right, and_assoc, decide_eq_true_eq, Bool.not_eq_true', decide_eq_false_iff_not, reduceCtorEq, exists_const, forall_const, if_true, if_false, false_and, and_false, ite_true, ite_false, Bool.true_eq_false, Bool.false_eq_true, Nat.reduceLeDiff, Nat.reduceAdd, small_line, small_lt, upd_ne, ne_eq, not_false_eq_true, Nat.zero_le, Prod.mk.injEq, upd_same, upd_upd, S_tl, S_len, S_app, S_one, S_inj,
  lk_breaks, lk_hard, lk_soft, lk_bend, lk_note, lk_rules, lk_state, lk_bent, lk_word, lk_begun, lk_opened, lk_place, pt_state, pt_bent, pt_word, pt_wordS, pt_wordN, pt_begun, pt_opened, pt_place, pt_place1, len_mf, litv_empty, litv_note, litv_nl, mf_inj, rf_inj, lkn_begin, lkn_ended, lkn_plain, lkn_quoted, lkn_step, lkn_fault, lkn_key, lkn_told, lkn_quotes, lkn_special, pt_open1, not_true_eq_false, not_false_eq_true])
local macro_rules | `(tactic| walk_at "rdh") => `(tactic| simp only [iEnum, iRng3, tRevL, rSlS, rSlL, gSub, rSetL, wipe, List.map_cons, List.map_nil, rAll, rAny, rIsi, tM1, tM0, iZipLT, iZip, iRng2, tLenSetS, rListStr, rMulS, rRep, rCntB, tRevS, rNeD, rEqD, tSeq, tNext, tAsg, tRet, tRetN, tDrop, tIfS, sFld, sFldAug, tVar, tC, tOp, tUn, tTest, tB, tAnd, tOr, tNot, tAndV, tOrV, tNotV, tIf, tTup, tLst, tCons, tNil, tCB, tCall, tMeth, tMake, tFld, rI, rI0, rU, rEq, rNe, rCat, gName, gTup, gCons, gNil, tPar, tPar3, tBM, tBM0, rAppend, rExtend, rPopAt, rIxL, rIxT, rIxS, tSl, rSlS, rSlL, tPart, tNoPart, iStr, iTup, iList, iRng1, tAug, ipI, L2.rAdd, L2.rSub, L2.rAddS, tChain, rIsB, rNotB, scal_ss, scal_ii, scal_bb, scal_nn, scal_in, scal_ni, tYes,
  cx_K, cx_N, List.getElem?_cons_zero, List.getElem?_cons_succ, List.set_cons_zero, List.set_cons_succ, List.nil_append, List.cons_append, List.append_nil, List.length_cons, List.length_nil, Nat.zero_add,
  Option.some.injEq, V.ref.injEq, V.int.injEq, V.str.injEq, V.bl.injEq, HO.ins.injEq, HO.lst.injEq, HO.tup.injEq, List.cons.injEq, exists_eq_left, exists_eq_left', exists_eq_right, exists_eq_right', and_true, true_and, exists_and_left, exists_and_right, and_assoc, decide_eq_true_eq, Bool.not_eq_true', decide_eq_false_iff_not, reduceCtorEq, exists_const, forall_const, if_true, if_false, false_and, and_false, ite_true, ite_false, Bool.true_eq_false, Bool.false_eq_true, Nat.reduceLeDiff, Nat.reduceAdd, small_line, small_lt, upd_ne, ne_eq, not_false_eq_true, Nat.zero_le, Prod.mk.injEq, upd_same, upd_upd, S_tl, S_len, S_app, S_one, S_inj,
  lk_breaks, lk_hard, lk_soft, lk_bend, lk_note, lk_rules, lk_state, lk_bent, lk_word, lk_begun, lk_opened, lk_place, pt_state, pt_bent, pt_word, pt_wordS, pt_wordN, pt_begun, pt_opened, pt_place, pt_place1, len_mf, litv_empty, litv_note, litv_nl, mf_inj, rf_inj, lkn_begin, lkn_ended, lkn_plain, lkn_quoted, lkn_step, lkn_fault, lkn_key, lkn_told, lkn_quotes, lkn_special, pt_open1, not_true_eq_false, not_false_eq_true, *])
local macro_rules | `(tactic| walk_at "pl") => `(tactic| (first | decide | (refine Nat.lt_of_le_of_lt (length_putF _ _ _) ?_; repeat (first | decide | refine pl2 ?_))))
local macro_rules | `(tactic| walk_at "al") => `(tactic| (intro p hp; generalize hH : upd _ p _ = H1; obtain ⟨S, e⟩ := gen_new hH hp; clear hH))
theorem walk_zipLT {K : PySem.W.Frag} {p q : Addr} {xs ys : List V} {n : Nat} (hn : n = min xs.length ys.length) : Walk (ItzLT K p q) n (fun H => SqL K H p xs ∧ SqT K H q ys) (YPair (fun i => xs[i]?) (fun i => ys[i]?)) := by
  subst hn
  refine ⟨fun i H hi g => ⟨xs, ys, g.1, g.2, hi⟩, fun H g => ⟨xs, ys, g.1, g.2, rfl⟩, ?_⟩
  rintro i H v H' hi g ⟨T, x, y, h1, h2, h3, h4, h5⟩
  exact ⟨T, x, y, h1, h2, h3, h4 _ g.1, h5 _ g.2⟩
def WF (p q : Addr) : List (Str × V) := [("words", .ref p), ("places", .ref q)]
theorem Paired.at' {α β : Type} {F : α → β → Prop} : ∀ {l : List α} {m : List β} {i : Nat} {x : α} {y : β}, Paired F l m → m[i]? = some y → l[i]? = some x → F x y
  | _, _, 0, _, _, .cons r _, h1, h2 => by cases h1; cases h2; exact r
  | _, _, i + 1, _, _, .cons _ t, h1, h2 => Paired.at' t (by simpa using h1) (by simpa using h2)
  | _, _, _, _, _, .nil, h1, _ => by simp at h1
theorem fnds_pl {H : Hp} : ∀ {xs : List V} {ds : List W3}, Fnds H xs ds → ∃ us : List V, us.length = ds.length ∧ Paired (Pls H) us (ds.map fun d => ((d.2.1 : Int), (d.2.2 : Int))) ∧
    ∀ (i : Nat) (x u : V), xs[i]? = some x → us[i]? = some u → ∃ b w, x = .ref b ∧ H b = some (.tup [w, u])
  | _, _, .nil => ⟨[], rfl, .nil, fun i x u h _ => by simp at h⟩
  | _, _, .cons r t => by
    obtain ⟨us, h1, h2, h3⟩ := fnds_pl t
    obtain ⟨b, u, rfl, g1, g2⟩ := r
    refine ⟨.ref u :: us, by simp [h1], .cons ⟨u, rfl, g2⟩ h2, fun i x v e1 e2 => ?_⟩
    match i, e1, e2 with
    | 0, e1, e2 => cases e1; cases e2; exact ⟨b, _, rfl, g1⟩
    | i + 1, e1, e2 => exact h3 i x v (by simpa using e1) (by simpa using e2)
/-- what split tells, at a new object: its lists are new -/
def Ansd (a : Ad) (H H' : Hp) (p : Addr) (x : Told) : Prop := match x with
  | .error n => ∃ dx, H' p = some (.ins a.c_Fault dx [("place", .int n)])
  | .ok (ws, ps) => ∃ dx l1 l2 ys, H' p = some (.ins a.c_Words dx (WF l1 l2)) ∧ H' l1 = some (.lst (ws.map fun w => .str (S w))) ∧ H' l2 = some (.lst ys) ∧ Paired (Pls H') ys ps ∧ H l1 = none ∧ H l2 = none ∧ l1 ≠ l2
section
variable {P : Program} {w : World} {K : PySem.W.Frag} {mg : Str → Option Value} {base : Heap} {a : Ad}
def sp_are_signs (a : Ad) : Sp := fun vs H Q _ => ∃ t, vs = [.str (S t)] ∧ t.length ≤ 50000 ∧ ∀ H', Same H H' → Q (.bl (t.all sgn)) H'
theorem ok_are_signs (T : Txt K mg a) : FnOk P w K mg base CX0 1 a.f_are_signs a.d_are_signs P_are_signs (sp_are_signs a) := by
  refine T.F_are_signs.ok sc_are_signs (fun vs H Q E h => ?_) (fun cdv A outer s H vs Q E hr h => ?_)
  · obtain ⟨t, rfl, _⟩ := h
    rfl
  · obtain ⟨t, rfl, ht, k⟩ := h

    refine ⟨_,
(pss_one (ps_ret (pe_and (pe_callB (call_isi) (by rfl) T.b_isinstance (by decide +kernel) (pa_cons (pv 0) (pa_cons (pe_bltn (v := .ty "str") (u := .type "str") rfl T.b_str (by decide +kernel) rfl) pa_nil))) (pe_one (pe_callB (cr_all rfl) (by rfl) T.b_all (by decide +kernel) (pa_cons (pe_lc (own := [("sign", 1)]) (g := gName 1) (tt := tYes) rfl sc_are_signs.nd (pi_str (pv 0)) (blkOk_by (own := [("sign", 1)]) (N := N_are_signs) (sc := defScope st_are_signs) (by decide +kernel)) (fun _ _ _ _ _ => (pg_name (i := 1) sc_are_signs.nd rfl (by first | exact Or.inl rfl | exact Or.inr rfl))) (fun _ _ _ _ _ => pts_nil) (fun _ _ _ _ _ => (pe_or (pe_chain op_le_str op_le_str pe_str (pv 1) pe_str) (pe_one (pe_cmpR op_eq (pv 1) (pe_glob (v := .str ("\n" : Str)) rfl T.g_LINE_END ⟨_, rfl⟩) (nomark _)))))) pa_nil))))))
      , ?_⟩
    rw [show start N_are_signs [V.str (S t)] = [some (.str (S t)), none] from rfl]
    walk_at "rdh"
    refine ⟨_, _, .ty _, .base (.str _), _, kit_ty (b := "str") (r := true) (by decide +kernel), ?_⟩
    refine iteT (tlc_map t (fun c => .bl (sgn c)) (J := Its (S t)) (H1 := H) (fun R hR => ?_) walk_text (by omega) (fun _ _ => trivial) ?_ ?_)
    · exact ⟨_, rfl, _, rfl, hR⟩
    · rintro R R' i c x H2 H3 hi s1 ⟨rfl, c', hc, rfl⟩ hR
      rw [hi] at hc
      cases hc
      walk_at "rdh"
      rw [show (Str.ofString " ").cps.toList = [32] by decide +kernel, show (Str.ofString "~").cps.toList = [126] by decide +kernel]
      have e1 := one_lt c 32
      have e2 := one_lt 126 c
      rw [sgn] at hR
      have hR := hR H3 (Same.refl _)
      refine ite2 (fun c1 => ?_) (fun c1 => ?_)
      · rw [e1] at c1
        refine ite2 (fun c2 => ?_) (fun c2 => ?_)
        · rw [e2] at c2
          rw [decide_eq_true (show 32 ≤ c ∧ c ≤ 126 by omega)] at hR
          exact hR
        · rw [e2] at c2
          rw [decide_eq_false (show ¬ (32 ≤ c ∧ c ≤ 126) by omega)] at hR
          exact hR
      · rw [e1] at c1
        rw [decide_eq_false (show ¬ (32 ≤ c ∧ c ≤ 126) by omega)] at hR
        exact hR
    · intro D H2 hD s1 e
      walk_at "rdh"
      refine ⟨t.map sgn, .inl (.inl (by rw [List.map_map]; exact e)), ?_⟩
      rw [List.all_map]
      exact k H2 s1
def sp_Rules_init (a : Ad) : Sp := fun vs H Q _ => ∃ p dx r, vs = [.ref p, .str (S r.breaks), .str (S r.hard), .str (S r.soft), .str (S r.bend), .str (S r.note)] ∧ r.Ok ∧ H p = some (.ins a.c_Rules dx []) ∧
  ∀ H', H' p = some (.ins a.c_Rules dx (RS.f r)) → Kp p H H' → Q .non H'
theorem ok_Rules_init (T : Txt K mg a) : FnOk P w K mg base CX0 2 a.f_Rules_init a.d_Rules_init P_Rules_init (sp_Rules_init a) := by
  refine T.F_Rules_init.ok sc_Rules_init (fun vs H Q E h => ?_) (fun cdv A outer s H vs Q E hr h => ?_)
  · obtain ⟨p, dx, r, rfl, _⟩ := h
    rfl
  · obtain ⟨p, dx, r, rfl, ok, hM, k⟩ := h
    have G_are_signs := ok_are_signs (P := P) (w := w) (base := base) T
    have B_are_signs := bi_are_signs T
    refine ⟨_,
(pss_cons (ps_set (i := 6) sc_Rules_init.nd rfl (by first | exact Or.inl rfl | exact Or.inr rfl) (pe_lst (pa_cons (pv 1) (pa_cons (pv 2) (pa_cons (pv 3) (pa_cons (pv 4) (pa_cons (pv 5) pa_nil)))))))
    (pss_cons (ps_if (PW.pt (pw_or (pt_not (pt_val (pe_callB (cr_all rfl) (by rfl) T.b_all (by decide +kernel) (pa_cons (pe_lc (own := [("part", 8), ("most", 9)]) (g := gTup _ 2 (gCons (gName 8) (gCons (gName 9) (gNil)))) (tt := tYes) rfl sc_Rules_init.nd (pi_zipLT rfl T.b_zip (pa_cons (pv 6) (pa_cons (pe_glob (v := .ref a.a_MOST) rfl T.g_MOST rfl) pa_nil))) (blkOk_by (own := [("part", 8), ("most", 9)]) (N := N_Rules_init) (sc := defScope st_Rules_init) (by decide +kernel)) (fun _ _ _ _ _ => (pg_tup rfl (pgs_cons (pg_name (i := 8) sc_Rules_init.nd rfl (by first | exact Or.inl rfl | exact Or.inr rfl)) (pgs_cons (pg_name (i := 9) sc_Rules_init.nd rfl (by first | exact Or.inl rfl | exact Or.inr rfl)) pgs_nil)))) (fun _ _ _ _ _ => pts_nil) (fun _ _ _ _ _ => (pe_and (pe_call G_are_signs (hr.mono (by decide)) rfl T.f_are_signs.g T.f_are_signs.k B_are_signs .nil pass0 (pa_cons (pv 8) pa_nil)) (pe_one (pe_cmpR op_le (pe_callB call_len_str (by rfl) T.b_len PySem.boot_len (pa_cons (pv 8) pa_nil)) (pv 9) (nomark _)))))) pa_nil)))) (pw_or1 (pt_cmpR op_eq (pv 1) pe_str (nomark _))))) (pss_one ps_never) pss_nil)
    (pss_cons (ps_set (i := 7) sc_Rules_init.nd rfl (by first | exact Or.inl rfl | exact Or.inr rfl) (pe_join pe_str (pv 6)))
    (pss_cons (ps_if (pt_cmpR op_lt (pe_lenSetS rfl rfl T.b_len rfl T.b_set (pv 7)) (pe_callB call_len_str (by rfl) T.b_len PySem.boot_len (pa_cons (pv 7) pa_nil)) (nomark _)) (pss_one ps_never) pss_nil)
    (pss_cons (ps_fld (pv 0) (pv 1) rfl)
    (pss_cons (ps_fld (pv 0) (pv 2) rfl)
    (pss_cons (ps_fld (pv 0) (pv 3) rfl)
    (pss_cons (ps_fld (pv 0) (pv 4) rfl)
    (pss_one (ps_fld (pv 0) (pv 5) rfl))))))))))
      , ?_⟩
    rw [show start N_Rules_init [V.ref p, V.str (S r.breaks), V.str (S r.hard), V.str (S r.soft), V.str (S r.bend), V.str (S r.note)] = [some (.ref p), some (.str (S r.breaks)), some (.str (S r.hard)), some (.str (S r.soft)), some (.str (S r.bend)), some (.str (S r.note)), none, none, none, none] from rfl]
    have hc := T.c_Rules.cl
    have n1 := T.n_Rules_breaks
    have n2 := T.n_Rules_hard
    have n3 := T.n_Rules_soft
    have n4 := T.n_Rules_bend
    have n5 := T.n_Rules_note
    walk_at "rd"
    intro l hl
    have S1 := same_new (o := HO.lst [V.str (S r.breaks), V.str (S r.hard), V.str (S r.soft), V.str (S r.bend), V.str (S r.note)]) hl
    have hL : upd H l (HO.lst [V.str (S r.breaks), V.str (S r.hard), V.str (S r.soft), V.str (S r.bend), V.str (S r.note)]) l = _ := upd_same
    generalize upd H l (HO.lst [V.str (S r.breaks), V.str (S r.hard), V.str (S r.soft), V.str (S r.bend), V.str (S r.note)]) = H1 at *
    have sm := T.s_MOST
    refine tlc_map (α := Tx × Int) [(r.breaks, 4), (r.hard, 2), (r.soft, 2), (r.bend, 1), (r.note, 1)] (fun _ => .bl true) (J := ItzLT K l a.a_MOST) (H1 := H1)
      (G := fun H => SqL K H l [V.str (S r.breaks), V.str (S r.hard), V.str (S r.soft), V.str (S r.bend), V.str (S r.note)] ∧ SqT K H a.a_MOST [.int 4, .int 2, .int 2, .int 1, .int 1]) (fun R hR => ?_) (walk_zipLT rfl) (by simp only [List.length_cons, List.length_nil]; omega) (fun H s => ⟨.inl (.inl (s _ _ hL)), sm H⟩) ?_ ?_
    · walk_at "rd"
      exact ⟨⟨_, .inl (.inl hL)⟩, ⟨_, sm _⟩, hR⟩
    · rintro R R' i ⟨c, n⟩ x H2 H3 hi s1 ⟨t, x, y, rfl, ht, rfl, hx, hy⟩ hR
      have hxy : x = .str (S c) ∧ y = .int n ∧ c.all sgn = true ∧ (c.length : Int) ≤ n ∧ n ≤ 4 := by
        have hs := ok.sg
        simp only [RS.every, List.all_append, Bool.and_eq_true] at hs
        obtain ⟨s1, s2, s3, s4, s5⟩ := hs
        match i, hi, hx, hy with
        | 0, hi, hx, hy => cases hi; cases hx; cases hy; exact ⟨rfl, rfl, s1, by have := ok.l1; omega, by decide⟩
        | 1, hi, hx, hy => cases hi; cases hx; cases hy; exact ⟨rfl, rfl, s2, by have := ok.l2; omega, by decide⟩
        | 2, hi, hx, hy => cases hi; cases hx; cases hy; exact ⟨rfl, rfl, s3, by have := ok.l3; omega, by decide⟩
        | 3, hi, hx, hy => cases hi; cases hx; cases hy; exact ⟨rfl, rfl, s4, by have := ok.l4; omega, by decide⟩
        | 4, hi, hx, hy => cases hi; cases hx; cases hy; exact ⟨rfl, rfl, s5, by have := ok.l5; omega, by decide⟩
      obtain ⟨rfl, rfl, g1, g2, g3⟩ := hxy
      walk_at "rdh"
      refine ⟨_, .inl (.inl upd_same), rfl, _, _, rfl, _, _, rfl, rfl, c, rfl, by omega, fun H4 s4 => ?_⟩
      walk_at "rdh"
      exact ⟨Nat.le_trans (show c.length ≤ 4 by omega) (by decide), hR _ ((same_new ht).trans s4)⟩
    · intro D H2 hD s1 e
      walk_at "rdh"
      refine ⟨[true, true, true, true, true], .inl (.inl e), ?_⟩
      refine ite2 (fun c => absurd c (by decide)) (fun _ => ?_)
      have ne := ok.ne
      walk_at "rdh"
      have ev : r.every.length ≤ 10 := by
        have h1 := ok.l1; have h2 := ok.l2; have h3 := ok.l3; have h4 := ok.l4; have h5 := ok.l5
        simp only [RS.every, List.length_append]; omega
      have jn : Txt.join (S []) [S r.breaks, S r.hard, S r.soft, S r.bend, S r.note] = S r.every := by
        have := join_flat [r.breaks, r.hard, r.soft, r.bend, r.note]
        simpa [RS.every] using this
      have hp := S1 _ _ hM
      have hp2 := s1 _ _ hp
      refine ⟨⟨_, rfl⟩, [S r.breaks, S r.hard, S r.soft, S r.bend, S r.note], .inl (.inl (.inl (s1 _ _ hL))), ?_, ?_⟩
      · have h1 := ok.l1; have h2 := ok.l2; have h3 := ok.l3; have h4 := ok.l4; have h5 := ok.l5
        simp only [List.map_cons, List.map_nil, List.sum_cons, List.sum_nil, S_len, List.length_cons, List.length_nil]; omega
      · rw [jn]
        refine ⟨_, rfl, by omega, ?_⟩
        walk_at "rdh"
        refine ⟨Nat.le_trans ev (by decide), ?_⟩
        rw [uniq_nodup ok.nd]
        refine ite2 (fun c => absurd c (by omega)) (fun _ => ?_)
        refine ⟨by walk_at "pl", by walk_at "pl", by walk_at "pl", by walk_at "pl", by walk_at "pl", ?_⟩
        refine k _ ?_ ((S1.trans s1).kp p).upd
        rw [upd_same]
        exact congrArg (fun l => some (HO.ins a.c_Rules dx l)) (show _ = r.f by kernel_rfl)
def sp_told (a : Ad) : Sp := fun vs H Q _ => ∃ p dr r, vs = [.ref p] ∧ H p = some (.ins a.c_Rules dr (RS.f r)) ∧
  ∀ t H', H t = none → H' = upd H t (.tup [.str (S r.breaks), .str (S r.hard), .str (S r.soft), .str (S r.bend), .str (S r.note)]) → Q (.ref t) H'
theorem ok_Rules_told (T : Txt K mg a) : FnOk P w K mg base CX0 1 a.f_Rules_told a.d_Rules_told P_Rules_told (sp_told a) := by
  refine T.F_Rules_told.ok sc_Rules_told (fun vs H Q E h => ?_) (fun cdv A outer s H vs Q E hr h => ?_)
  · obtain ⟨p, dx, r, rfl, _⟩ := h
    rfl
  · obtain ⟨p, dx, r, rfl, hM, k⟩ := h
    refine ⟨_,
(pss_one (ps_ret (pe_tup (pa_cons (pe_fld (pv 0) rfl) (pa_cons (pe_fld (pv 0) rfl) (pa_cons (pe_fld (pv 0) rfl) (pa_cons (pe_fld (pv 0) rfl) (pa_cons (pe_fld (pv 0) rfl) pa_nil))))))))
      , ?_⟩
    rw [show start N_Rules_told [V.ref p] = [some (.ref p)] from rfl]
    have hc := T.c_Rules.cl
    have n1 := T.n_Rules_breaks
    have n2 := T.n_Rules_hard
    have n3 := T.n_Rules_soft
    have n4 := T.n_Rules_bend
    have n5 := T.n_Rules_note
    walk_at "rdh"
    exact fun t ht => k t _ ht rfl
/-! ### answers -/
def sp_Words_init (a : Ad) : Sp := fun vs H Q _ => ∃ p dx l1 l2 xs ys, vs = [.ref p, .ref l1, .ref l2] ∧ H p = some (.ins a.c_Words dx []) ∧ H l1 = some (.lst xs) ∧ H l2 = some (.lst ys) ∧
  ∀ m1 m2 H', H m1 = none → H m2 = none → m1 ≠ m2 → H' m1 = some (.lst xs) → H' m2 = some (.lst ys) → H' p = some (.ins a.c_Words dx (WF m1 m2)) → Kp p H H' → Q .non H'
theorem ok_Words_init (T : Txt K mg a) : FnOk P w K mg base CX0 1 a.f_Words_init a.d_Words_init P_Words_init (sp_Words_init a) := by
  refine T.F_Words_init.ok sc_Words_init (fun vs H Q E h => ?_) (fun cdv A outer s H vs Q E hr h => ?_)
  · obtain ⟨p, dx, l1, l2, xs, ys, rfl, _⟩ := h
    rfl
  · obtain ⟨p, dx, l1, l2, xs, ys, rfl, hM, h1, h2, k⟩ := h
    refine ⟨_,
(pss_cons (ps_fld (pv 0) (pe_callTy call_list_of (by rfl) T.b_list (by decide +kernel) (pa_cons (pv 1) pa_nil)) rfl)
    (pss_one (ps_fld (pv 0) (pe_callTy call_list_of (by rfl) T.b_list (by decide +kernel) (pa_cons (pv 2) pa_nil)) rfl)))
      , ?_⟩
    rw [show start N_Words_init [V.ref p, V.ref l1, V.ref l2] = [some (.ref p), some (.ref l1), some (.ref l2)] from rfl]
    have hc := T.c_Words.cl
    have n1 := T.n_Words_words
    have n2 := T.n_Words_places
    walk_at "rdh"
    refine ⟨xs, .inl (.inl (.inl h1)), fun m1 hm1 => ?_⟩
    have S1 := same_new (o := HO.lst xs) hm1
    have p1 := S1 _ _ hM
    have q2 := S1 _ _ h2
    have e1 : upd H m1 (HO.lst xs) m1 = some (HO.lst xs) := upd_same
    generalize upd H m1 (HO.lst xs) = H1 at *
    have np : m1 ≠ p := Ne.symm (ne_of_none hM hm1)
    walk_at "rdh"
    have ql : upd H1 p (HO.ins a.c_Words dx (putF (Str.ofString "words") (V.ref m1) [])) l2 = some (HO.lst ys) := by
      rw [upd_ne (fun z => by rw [z, hM] at h2; cases h2)]
      exact q2
    refine ⟨by walk_at "pl", ys, .inl (.inl (.inl ql)), fun m2 hm2 => ?_⟩
    have hm2' := none_upd hm2
    have np2 : m2 ≠ p := ne_upd hm2
    have np2' := Ne.symm np2
    have n12 : m1 ≠ m2 := fun z => by rw [← z, e1] at hm2'; cases hm2'
    walk_at "rdh"
    refine ⟨by walk_at "pl", k m1 m2 _ hm1 (S1.free hm2') n12 ?_ ?_ ?_ ?_⟩
    · rw [upd_ne np, upd_ne n12, upd_ne np]
      exact e1
    · rw [upd_ne np2, upd_same]
    · rw [upd_same]
      exact congrArg (fun l => some (HO.ins a.c_Words dx l)) (show _ = WF m1 m2 by kernel_rfl)
    · exact (((S1.kp p).upd).trans ((same_new hm2).kp p)).upd
def sp_Fault_init (a : Ad) : Sp := fun vs H Q _ => ∃ p dx n, vs = [.ref p, .int n] ∧ H p = some (.ins a.c_Fault dx []) ∧
  ∀ H', H' p = some (.ins a.c_Fault dx [("place", .int n)]) → Kp p H H' → Q .non H'
theorem ok_Fault_init (T : Txt K mg a) : FnOk P w K mg base CX0 1 a.f_Fault_init a.d_Fault_init P_Fault_init (sp_Fault_init a) := by
  refine T.F_Fault_init.ok sc_Fault_init (fun vs H Q E h => ?_) (fun cdv A outer s H vs Q E hr h => ?_)
  · obtain ⟨p, dx, n, rfl, _⟩ := h
    rfl
  · obtain ⟨p, dx, n, rfl, hM, k⟩ := h
    refine ⟨_,
(pss_one (ps_fld (pv 0) (pv 1) rfl))
      , ?_⟩
    rw [show start N_Fault_init [V.ref p, V.int n] = [some (.ref p), some (.int n)] from rfl]
    have hc := T.c_Fault.cl
    have n1 := T.n_Fault_place
    walk_at "rdh"
    refine ⟨by walk_at "pl", k _ ?_ kp_upd⟩
    rw [upd_same]
    exact congrArg (fun l => some (HO.ins a.c_Fault dx l)) (show _ = [(Str.ofString "place", V.int n)] by kernel_rfl)
/-- the place that an answer tells -/
def sp_Fault_shows (a : Ad) : Sp := fun vs H Q _ => ∃ p dx n rp dr r t, vs = [.ref p, .ref rp, .str (S t)] ∧ H p = some (.ins a.c_Fault dx [("place", .int n)]) ∧ H rp = some (.ins a.c_Rules dr (RS.f r)) ∧ r.hard.length + r.soft.length ≤ 100 ∧ t.length ≤ 50000 ∧
  ∀ H', Same H H' → Q (.bl (match readAll r t rp with | .error m => decide ((m : Int) = n) | .ok _ => false)) H'
theorem ok_Fault_shows (T : Txt K mg a) : FnOk P w K mg base CX0 5 a.f_Fault_shows a.d_Fault_shows P_Fault_shows (sp_Fault_shows a) := by
  refine T.F_Fault_shows.ok sc_Fault_shows (fun vs H Q E h => ?_) (fun cdv A outer s H vs Q E hr h => ?_)
  · obtain ⟨p, dx, n, rp, dr, r, t, rfl, _⟩ := h
    rfl
  · obtain ⟨p, dx, n, rp, dr, r, t, rfl, hM, hR, hq, ht, k⟩ := h
    have G_read_all := ok_read_all (P := P) (w := w) (base := base) T
    have B_read_all := bi_read_all T
    refine ⟨_,
(pss_cons (ps_asg (pe_call G_read_all (hr.mono (by decide)) rfl T.f_read_all.g T.f_read_all.k B_read_all .nil pass0 (pa_cons (pv 1) (pa_cons (pv 2) pa_nil))) (pg_tup rfl (pgs_cons (pg_name (i := 3) sc_Fault_shows.nd rfl (by first | exact Or.inl rfl | exact Or.inr rfl)) (pgs_cons (pg_name (i := 4) sc_Fault_shows.nd rfl (by first | exact Or.inl rfl | exact Or.inr rfl)) pgs_nil))))
    (pss_one (ps_ret (pe_and (pe_cmpR op_isN (pv 3) pe_non (nomark _)) (pe_one (pe_cmpR (op_eqD hr.units) (pv 4) (pe_fld (pv 0) rfl) (nomark _)))))))
      , ?_⟩
    rw [show start N_Fault_shows [V.ref p, V.ref rp, V.str (S t)] = [some (.ref p), some (.ref rp), some (.str (S t)), none, none] from rfl]
    have hc := T.c_Fault.cl
    have n1 := T.n_Fault_place
    walk_at "rdh"
    refine ⟨rp, dr, r, t, rfl, hR, hq, ht, fun tp H1 htp s1 told => ?_⟩
    have hp := s1 _ _ hM
    unfold ToldAll at told
    split at told
    · rename_i m e
      simp only [e] at k
      walk_at "rdh"
      refine ⟨_, .inl (.inl told), rfl, _, _, rfl, _, _, rfl, rfl, ?_⟩
      refine ite2 (fun _ => ?_) (fun c => absurd rfl c)
      refine ⟨_, rfl, _, .int _, _, .int _, rfl, rfl, ?_⟩
      rw [show PyData.eqv (.int (m : Int)) (.int n) = decide ((m : Int) = n) by simp only [PyData.eqv]; rw [Bool.eq_iff_iff]; simp]
      exact k _ s1
    · rename_i ds e
      simp only [e] at k
      obtain ⟨l, xs, hl, t1, t2, t3⟩ := told
      walk_at "rdh"
      refine ⟨_, .inl (.inl t1), rfl, _, _, rfl, _, _, rfl, rfl, ?_⟩
      refine ite2 (fun c => by cases c) (fun _ => ?_)
      trivial
/-- the words and the places that an answer tells -/
def sp_Words_shows (a : Ad) : Sp := fun vs H Q _ => ∃ p dx l1 l2 ws ys ps rp dr r t, vs = [.ref p, .ref rp, .str (S t)] ∧ H p = some (.ins a.c_Words dx (WF l1 l2)) ∧ H l1 = some (.lst (ws.map fun w => .str (S w))) ∧ H l2 = some (.lst ys) ∧ Paired (Pls H) ys ps ∧
  H rp = some (.ins a.c_Rules dr (RS.f r)) ∧ r.hard.length + r.soft.length ≤ 100 ∧ t.length ≤ 800 ∧ ok8 t ∧ TOk 900 (.ok (ws, ps)) ∧
  ∀ H', Same H H' → Q (.bl (decide (told3 (readAll r t rp) = .ok (ws, ps)))) H'
theorem ok_Words_shows (T : Txt K mg a) : FnOk P w K mg base CX0 5 a.f_Words_shows a.d_Words_shows P_Words_shows (sp_Words_shows a) := by
  refine T.F_Words_shows.ok sc_Words_shows (fun vs H Q E h => ?_) (fun cdv A outer s H vs Q E hr h => ?_)
  · obtain ⟨p, dx, l1, l2, ws, ys, ps, rp, dr, r, t, rfl, _⟩ := h
    rfl
  · obtain ⟨p, dx, l1, l2, ws, ys, ps, rp, dr, r, t, rfl, hM, h1, h2, h3, hR, hq, ht, h8, to, k⟩ := h
    have G_read_all := ok_read_all (P := P) (w := w) (base := base) T
    have B_read_all := bi_read_all T
    refine ⟨_,
(pss_cons (ps_asg (pe_call G_read_all (hr.mono (by decide)) rfl T.f_read_all.g T.f_read_all.k B_read_all .nil pass0 (pa_cons (pv 1) (pa_cons (pv 2) pa_nil))) (pg_tup rfl (pgs_cons (pg_name (i := 3) sc_Words_shows.nd rfl (by first | exact Or.inl rfl | exact Or.inr rfl)) (pgs_cons (pg_name (i := 4) sc_Words_shows.nd rfl (by first | exact Or.inl rfl | exact Or.inr rfl)) pgs_nil))))
    (pss_cons (ps_if (PW.pt (pw_or (pt_cmpR op_isN (pv 3) pe_non (nomark _)) (pw_or1 (pt_cmpR (op_neD hr.units) (pe_fld (pv 0) rfl) (pe_lc (own := [("pair", 5)]) (g := gName 5) (tt := tYes) rfl sc_Words_shows.nd (pi_list (pv 3)) (blkOk_by (own := [("pair", 5)]) (N := N_Words_shows) (sc := defScope st_Words_shows) (by decide +kernel)) (fun _ _ _ _ _ => (pg_name (i := 5) sc_Words_shows.nd rfl (by first | exact Or.inl rfl | exact Or.inr rfl))) (fun _ _ _ _ _ => pts_nil) (fun _ _ _ _ _ => (pe_ix (ix_tupK (K := K) rfl) (pv 5) pe_int (fun _ _ => rfl)))) (nomark _))))) (pss_one (ps_ret pe_bl)) pss_nil)
    (pss_one (ps_ret (pe_cmpR (op_eqD hr.units) (pe_fld (pv 0) rfl) (pe_lc (own := [("pair", 5)]) (g := gName 5) (tt := tYes) rfl sc_Words_shows.nd (pi_list (pv 3)) (blkOk_by (own := [("pair", 5)]) (N := N_Words_shows) (sc := defScope st_Words_shows) (by decide +kernel)) (fun _ _ _ _ _ => (pg_name (i := 5) sc_Words_shows.nd rfl (by first | exact Or.inl rfl | exact Or.inr rfl))) (fun _ _ _ _ _ => pts_nil) (fun _ _ _ _ _ => (pe_ix (ix_tupK (K := K) rfl) (pv 5) pe_int (fun _ _ => rfl)))) (nomark _))))))
      , ?_⟩
    rw [show start N_Words_shows [V.ref p, V.ref rp, V.str (S t)] = [some (.ref p), some (.ref rp), some (.str (S t)), none, none, none] from rfl]
    have hc := T.c_Words.cl
    have n1 := T.n_Words_words
    have n2 := T.n_Words_places
    have td := told3_ok (r := r) (rp := rp) h8 ht
    walk_at "rdh"
    refine ⟨rp, dr, r, t, rfl, hR, hq, by omega, fun tp H1 htp s1 told => ?_⟩
    have hp := s1 _ _ hM
    unfold ToldAll at told
    split at told
    · rename_i m e
      rw [e] at k
      walk_at "rdh"
      refine ⟨_, .inl (.inl told), rfl, _, _, rfl, _, _, rfl, rfl, ?_⟩
      refine ite2 (fun _ => ?_) (fun c => absurd rfl c)
      have := k _ s1
      rw [decide_eq_false (by simp [told3])] at this
      exact this
    · rename_i ds e
      rw [e] at k td
      obtain ⟨l, xs, hl, t1, t2, t3⟩ := told
      have k := fun H' s => k H' s
      have hlen := t3.length
      have tw := td.ws _ _ rfl
      have tp' := td.ps _ _ rfl
      have ow := to.ws _ _ rfl
      have op := to.ps _ _ rfl
      have dl : ds.length ≤ 900 := by have := tw.2; rwa [List.length_map] at this
      walk_at "rd"
      refine ⟨_, .inl (.inl t1), rfl, _, _, rfl, _, _, rfl, rfl, ?_⟩
      refine ite2 (fun c => by cases c) (fun _ => ?_)
      refine ⟨_, _, _, hp, hc, n1, _, rfl, ?_⟩
      refine tlc_map ds (fun d => .str (S d.1)) (J := Itl K l) (H1 := H1) (G := fun H => SqL K H l xs) (fun R hR => ?_) (hlen ▸ walk_list) (by omega) (fun H s => .inl (.inl (s _ _ t2))) ?_ ?_
      · exact ⟨_, rfl, l, rfl, ⟨_, .inl (.inl t2)⟩, hR⟩
      · rintro R R' i d x H2 H3 hi s2 ⟨rfl, hx⟩ hR
        obtain ⟨b, u, rfl, g1, g2⟩ := Paired.at' t3 hi hx
        walk_at "rd"
        refine ⟨_, .inl (.inl (s2 _ _ g1)), _, rfl, hR _ (Same.refl _)⟩
      · intro D H2 hD s2 e2
        have q1 := s2 _ _ (s1 _ _ h1)
        refine ⟨_, dp_ws (.inl (.inl q1)), wsD (ds.map (·.1)), dp_ws (.inl (.inl (by rw [e2, List.map_map]; rfl))), shaped_of (wsD_tame fun t ht => (ow.1 t ht).1) (Nat.le_trans (wsD_depth _) (by decide)),
          shaped_of (wsD_tame fun t ht => (tw.1 t ht).1) (Nat.le_trans (wsD_depth _) (by decide)), ?_⟩
        rw [eqv_dec (wsD_tame fun t ht => (ow.1 t ht).1) (wsD_tame fun t ht => (tw.1 t ht).1) wsD_inj]
        walk_at "rd"
        refine ite2 (fun c => ?_) (fun c => ?_)
        · have := k _ (s1.trans s2)
          rw [decide_eq_false (by simp only [told3]; intro z; cases z; exact c rfl)] at this
          exact this
        · have c : ws = ds.map (·.1) := Classical.byContradiction c
          refine ⟨_, _, _, s2 _ _ hp, hc, n2, _, rfl, ?_⟩
          obtain ⟨us, u1, u2, u3⟩ := fnds_pl t3
          refine tlc_map us id (J := Itl K l) (H1 := H2) (G := fun H => SqL K H l xs) (fun R hR => ?_) ((hlen.trans u1.symm) ▸ walk_list) (by omega) (fun H s => .inl (.inl (s _ _ (s2 _ _ t2)))) ?_ ?_
          · exact ⟨_, rfl, l, rfl, ⟨_, .inl (.inl (s2 _ _ t2))⟩, hR⟩
          · rintro R R' i u x H3 H4 hi s3 ⟨rfl, hx⟩ hR
            obtain ⟨b, w, rfl, g1⟩ := u3 i x u hx hi
            walk_at "rd"
            exact ⟨_, .inl (.inl (s3 _ _ (s2 _ _ g1))), _, rfl, hR _ (Same.refl _)⟩
          · intro D3 H3 hD3 s3 e3
            have q2 := s3 _ _ (s2 _ _ (s1 _ _ h2))
            have s13 := (s1.trans s2).trans s3
            rw [List.map_id] at e3
            refine ⟨_, dp_ps (.inl (.inl q2)) (Paired.mapP h3 fun _ _ z => z.mono fun b xs => s13 b _), _, dp_ps (.inl (.inl e3)) (Paired.mapP u2 fun _ _ z => z.mono fun b xs => (s2.trans s3) b _),
              shaped_of (psD_tame op.1) (Nat.le_trans (psD_depth _) (by decide)), shaped_of (psD_tame tp'.1) (Nat.le_trans (psD_depth _) (by decide)), ?_⟩
            rw [eqv_dec (psD_tame op.1) (psD_tame tp'.1) psD_inj]
            have := k _ s13
            rw [show decide (told3 (.ok ds) = .ok (ws, ps)) = decide (ps = ds.map fun d => ((d.2.1 : Int), (d.2.2 : Int))) from by
              rw [Bool.eq_iff_iff, decide_eq_true_eq, decide_eq_true_eq]
              simp only [told3, Except.ok.injEq, Prod.mk.injEq]
              exact ⟨fun z => z.2.symm, fun z => ⟨c.symm, z.symm⟩⟩] at this
            exact this
def sp_split (a : Ad) : Sp := fun vs H Q _ => ∃ rp dr r t, vs = [.ref rp, .str (S t)] ∧ H rp = some (.ins a.c_Rules dr (RS.f r)) ∧ r.hard.length + r.soft.length ≤ 100 ∧ t.length ≤ 400 ∧ t.all sgn = true ∧
  ∀ p H', H p = none → Same H H' → Ansd a H H' p (told3 (readAll r t rp)) → Q (.ref p) H'
theorem ok_split (T : Txt K mg a) : FnOk P w K mg base CX0 6 a.f_split a.d_split P_split (sp_split a) := by
  refine T.F_split.ok sc_split (fun vs H Q E h => ?_) (fun cdv A outer s H vs Q E hr h => ?_)
  · obtain ⟨rp, dr, r, t, rfl, _⟩ := h
    rfl
  · obtain ⟨rp, dr, r, t, rfl, hR, hq, ht, hs, k⟩ := h
    have G_are_signs := ok_are_signs (P := P) (w := w) (base := base) T
    have B_are_signs := bi_are_signs T
    have G_read_all := ok_read_all (P := P) (w := w) (base := base) T
    have B_read_all := bi_read_all T
    have G_Fault_init := ok_Fault_init (P := P) (w := w) (base := base) T
    have B_Fault_init := bi_Fault_init T
    have G_Words_init := ok_Words_init (P := P) (w := w) (base := base) T
    have B_Words_init := bi_Words_init T
    have gL := T.g_LONGEST
    refine ⟨_,
(pss_cons (ps_if (PW.pt (pw_or (pt_not (pt_val (pe_call G_are_signs (hr.mono (by decide)) rfl T.f_are_signs.g T.f_are_signs.k B_are_signs .nil pass0 (pa_cons (pv 1) pa_nil)))) (pw_or1 (pt_cmpR op_gt (pe_callB call_len_str (by rfl) T.b_len PySem.boot_len (pa_cons (pv 1) pa_nil)) (pe_glob (v := .int 400) rfl T.g_LONGEST ⟨_, rfl⟩) (nomark _))))) (pss_one ps_never) pss_nil)
    (pss_cons (ps_asg (pe_call G_read_all (hr.mono (by decide)) rfl T.f_read_all.g T.f_read_all.k B_read_all .nil pass0 (pa_cons (pv 0) (pa_cons (pv 1) pa_nil))) (pg_tup rfl (pgs_cons (pg_name (i := 2) sc_split.nd rfl (by first | exact Or.inl rfl | exact Or.inr rfl)) (pgs_cons (pg_name (i := 3) sc_split.nd rfl (by first | exact Or.inl rfl | exact Or.inr rfl)) pgs_nil))))
    (pss_cons (ps_if (pt_cmpR op_isN (pv 2) pe_non (nomark _)) (pss_one (ps_ret (pe_make T.c_Fault.mc G_Fault_init (hr.mono (by decide)) rfl T.c_Fault.g B_Fault_init .nil pass0 (pa_cons (pv 3) pa_nil)))) pss_nil)
    (pss_one (ps_ret (pe_make T.c_Words.mc G_Words_init (hr.mono (by decide)) rfl T.c_Words.g B_Words_init .nil pass0 (pa_cons (pe_lc (own := [("pair", 4)]) (g := gName 4) (tt := tYes) rfl sc_split.nd (pi_list (pv 2)) (blkOk_by (own := [("pair", 4)]) (N := N_split) (sc := defScope st_split) (by decide +kernel)) (fun _ _ _ _ _ => (pg_name (i := 4) sc_split.nd rfl (by first | exact Or.inl rfl | exact Or.inr rfl))) (fun _ _ _ _ _ => pts_nil) (fun _ _ _ _ _ => (pe_ix (ix_tupK (K := K) rfl) (pv 4) pe_int (fun _ _ => rfl)))) (pa_cons (pe_lc (own := [("pair", 4)]) (g := gName 4) (tt := tYes) rfl sc_split.nd (pi_list (pv 2)) (blkOk_by (own := [("pair", 4)]) (N := N_split) (sc := defScope st_split) (by decide +kernel)) (fun _ _ _ _ _ => (pg_name (i := 4) sc_split.nd rfl (by first | exact Or.inl rfl | exact Or.inr rfl))) (fun _ _ _ _ _ => pts_nil) (fun _ _ _ _ _ => (pe_ix (ix_tupK (K := K) rfl) (pv 4) pe_int (fun _ _ => rfl)))) pa_nil))))))))
      , ?_⟩
    rw [show start N_split [V.ref rp, V.str (S t)] = [some (.ref rp), some (.str (S t)), none, none, none] from rfl]
    walk_at "rd"
    refine ⟨t, rfl, by omega, fun H0 s0 => ⟨_, rfl, ?_⟩⟩
    rw [hs]
    refine ite2 (fun c => by cases c) (fun _ => ?_)
    refine ⟨Nat.le_trans ht (by decide), ?_⟩
    refine ite2 (fun c => absurd c (by omega)) (fun _ => ?_)
    refine ⟨rp, dr, r, t, rfl, s0 _ _ hR, hq, by omega, fun tp H1 htp s1 told => ?_⟩
    have s01 := s0.trans s1
    unfold ToldAll at told
    split at told
    · rename_i m e
      rw [e] at k
      walk_at "rd"
      refine ⟨_, .inl (.inl told), rfl, _, _, rfl, _, _, rfl, rfl, ?_⟩
      refine ite2 (fun _ => ?_) (fun c => absurd rfl c)
      intro x dx hx hdx ne
      refine ⟨x, dx, _, rfl, upd_same, fun H' g1 g2 => ⟨rfl, ?_⟩⟩
      refine k x H' (s01.free hx) (s01.trans (Same.made hx hdx g2)) ⟨dx, g1⟩
    · rename_i ds e
      rw [e] at k
      obtain ⟨l, xs, hl, t1, t2, t3⟩ := told
      have hb := readAll_bd r t rp
      rw [e] at hb
      have dl : ds.length ≤ 900 := by have := hb.1; omega
      have hlen := t3.length
      walk_at "rd"
      refine ⟨_, .inl (.inl t1), rfl, _, _, rfl, _, _, rfl, rfl, ?_⟩
      refine ite2 (fun c => by cases c) (fun _ => ?_)
      refine tlc_map ds (fun d => .str (S d.1)) (J := Itl K l) (H1 := H1) (G := fun H => SqL K H l xs) (fun R hR => ?_) (hlen ▸ walk_list) (by omega) (fun H s => .inl (.inl (s _ _ t2))) ?_ ?_
      · exact ⟨_, rfl, l, rfl, ⟨_, .inl (.inl t2)⟩, hR⟩
      · rintro R R' i d x H2 H3 hi s2 ⟨rfl, hx⟩ hR
        obtain ⟨b, u, rfl, g1, g2⟩ := Paired.at' t3 hi hx
        walk_at "rd"
        refine ⟨_, .inl (.inl (s2 _ _ g1)), _, rfl, hR _ (Same.refl _)⟩
      · intro D H2 hD s2 e2
        obtain ⟨us, u1, u2, u3⟩ := fnds_pl t3
        refine tlc_map us id (J := Itl K l) (H1 := H2) (G := fun H => SqL K H l xs) (fun R hR => ?_) ((hlen.trans u1.symm) ▸ walk_list) (by omega) (fun H s => .inl (.inl (s _ _ (s2 _ _ t2)))) ?_ ?_
        · exact ⟨_, rfl, l, rfl, ⟨_, .inl (.inl (s2 _ _ t2))⟩, hR⟩
        · rintro R R' i u x H3 H4 hi s3 ⟨rfl, hx⟩ hR
          obtain ⟨b, w, rfl, g1⟩ := u3 i x u hx hi
          walk_at "rd"
          exact ⟨_, .inl (.inl (s3 _ _ (s2 _ _ g1))), _, rfl, hR _ (Same.refl _)⟩
        · intro D3 H3 hD3 s3 e3
          rw [List.map_id] at e3
          intro x dx hx hdx ne
          have s03 := (s01.trans s2).trans s3
          have sm : Same H3 (upd (upd H3 dx (.own x)) x (.ins a.c_Words dx [])) := Same.made hx hdx fun _ _ e _ => e
          refine ⟨x, dx, D, D3, _, _, rfl, upd_same, sm _ _ (s3 _ _ e2), sm _ _ e3, fun m1 m2 H' f1 f2 f3 f4 f5 f6 f7 => ⟨rfl, ?_⟩⟩
          have sf : Same H3 H' := Same.made hx hdx f7
          refine k x H' (s03.free hx) (s03.trans sf) ⟨dx, m1, m2, us, f6, ?_, f5, ?_, (s03.trans sm).free f1, (s03.trans sm).free f2, f3⟩
          · rw [f4, List.map_map]; rfl
          · exact Paired.mapP u2 fun _ _ z => z.mono fun b xs => ((s2.trans s3).trans sf) b _
end
end Qw

set_option Elab.async false
set_option linter.all false
set_option maxRecDepth 100000
set_option maxHeartbeats 4000000
namespace Qw
open PySem L2
local macro_rules | `(tactic| walk_at "rd") => `(tactic| simp only [iEnum, iRng3, tRevL, rSlS, rSlL, gSub, rSetL, wipe, List.map_cons, List.map_nil, rAll, rAny, rIsi, tM1, tM0, iZipLT, iZip, iRng2, tLenSetS, rListStr, rMulS, rRep, rCntB, tRevS, rNeD, rEqD, tSeq, tNext, tAsg, tRet, tRetN, tDrop, tIfS, sFld, sFldAug, tVar, tC, tOp, tUn, tTest, tB, tAnd, tOr, tNot, tAndV, tOrV, tNotV, tIf, tTup, tLst, tCons, tNil, tCB, tCall, tMeth, tMake, tFld, rI, rI0, rU, rEq, rNe, rCat, gName, gTup, gCons, gNil, tPar, tPar3, tBM, tBM0, rAppend, rExtend, rPopAt, rIxL, rIxT, rIxS, tSl, rSlS, rSlL, tPart, tNoPart, iStr, iTup, iList, iRng1, tAug, ipI, L2.rAdd, L2.rSub, L2.rAddS, tChain, rIsB, rNotB, scal_ss, scal_ii, scal_bb, scal_nn, scal_in, scal_ni, tYes,
  cx_K, cx_N, List.getElem?_cons_zero, List.getElem?_cons_succ, List.set_cons_zero, List.set_cons_succ, List.nil_append, List.cons_append, List.append_nil, List.length_cons, List.length_nil, Nat.zero_add,
  Option.some.injEq, V.ref.injEq, V.int.injEq, V.str.injEq, V.bl.injEq, HO.ins.injEq, HO.lst.injEq, HO.tup.injEq, List.cons.injEq, exists_eq_left, exists_eq_left', exists_eq_right, exists_eq_right', and_true, true_and, exists_and_left, exists_and_right, and_assoc, decide_eq_true_eq, Bool.not_eq_true', decide_eq_false_iff_not, reduceCtorEq, exists_const, forall_const, if_true, if_false, false_and, and_false, ite_true, ite_false, Bool.true_eq_false, Bool.false_eq_true, Nat.reduceLeDiff, Nat.reduceAdd, small_line, small_lt, upd_ne, ne_eq, not_false_eq_true, Nat.zero_le, Prod.mk.injEq, upd_same, upd_upd, S_tl, S_len, S_app, S_one, S_inj,
  lk_breaks, lk_hard, lk_soft, lk_bend, lk_note, lk_rules, lk_state, lk_bent, lk_word, lk_begun, lk_opened, lk_place, pt_state, pt_bent, pt_word, pt_wordS, pt_wordN, pt_begun, pt_opened, pt_place, pt_place1, len_mf, litv_empty, litv_note, litv_nl, mf_inj, rf_inj, lkn_begin, lkn_ended, lkn_plain, lkn_quoted, lkn_step, lkn_fault, lkn_key, lkn_told, lkn_quotes, lkn_special, pt_open1, not_true_eq_false, not_false_eq_true])
local macro_rules | `(tactic| walk_at "rdh") => `(tactic| simp only [iEnum, iRng3, tRevL, rSlS, rSlL, gSub, rSetL, wipe, List.map_cons, List.map_nil, rAll, rAny, rIsi, tM1, tM0, iZipLT, iZip, iRng2, tLenSetS, rListStr, rMulS, rRep, rCntB, tRevS, rNeD, rEqD, tSeq, tNext, tAsg, tRet, tRetN, tDrop, tIfS, sFld, sFldAug, tVar, tC, tOp, tUn, tTest, tB, tAnd, tOr, tNot, tAndV, tOrV, tNotV, tIf, tTup, tLst, tCons, tNil, tCB, tCall, tMeth, tMake, tFld, rI, rI0, rU, rEq, rNe, rCat, gName, gTup, gCons, gNil, tPar, tPar3, tBM, tBM0, rAppend, rExtend, rPopAt, rIxL, rIxT, rIxS, tSl, rSlS, rSlL, tPart, tNoPart, iStr, iTup, iList, iRng1, tAug, ipI, L2.rAdd, L2.rSub, L2.rAddS, tChain, rIsB, rNotB, scal_ss, scal_ii, scal_bb, scal_nn, scal_in, scal_ni, tYes,
  cx_K, cx_N, List.getElem?_cons_zero, List.getElem?_cons_succ, List.set_cons_zero, List.set_cons_succ, List.nil_append, List.cons_append, List.append_nil, List.length_cons, List.length_nil, Nat.zero_add,
  Option.some.injEq, V.ref.injEq, V.int.injEq, V.str.injEq, V.bl.injEq, HO.ins.injEq, HO.lst.injEq, HO.tup.injEq, List.cons.injEq, exists_eq_left, exists_eq_left', exists_eq_right, exists_eq_right', and_true, true_and, exists_and_left, exists_and_right, and_assoc, decide_eq_true_eq, Bool.not_eq_true', decide_eq_false_iff_not, reduceCtorEq, exists_const, forall_const, if_true, if_false, false_and, and_false, ite_true, ite_false, Bool.true_eq_false, Bool.false_eq_true, Nat.reduceLeDiff, Nat.reduceAdd, small_line, small_lt, upd_ne, ne_eq, not_false_eq_true, Nat.zero_le, Prod.mk.injEq, upd_same, upd_upd, S_tl, S_len, S_app, S_one, S_inj,
  lk_breaks, lk_hard, lk_soft, lk_bend, lk_note, lk_rules, lk_state, lk_bent, lk_word, lk_begun, lk_opened, lk_place, pt_state, pt_bent, pt_word, pt_wordS, pt_wordN, pt_begun, pt_opened, pt_place, pt_place1, len_mf, litv_empty, litv_note, litv_nl, mf_inj, rf_inj, lkn_begin, lkn_ended, lkn_plain, lkn_quoted, lkn_step, lkn_fault, lkn_key, lkn_told, lkn_quotes, lkn_special, pt_open1, not_true_eq_false, not_false_eq_true, *])
local macro_rules | `(tactic| walk_at "pl") => `(tactic| (first | decide | (refine Nat.lt_of_le_of_lt (length_putF _ _ _) ?_; repeat (first | decide | refine pl2 ?_))))
local macro_rules | `(tactic| walk_at "al") => `(tactic| (intro p hp; generalize hH : upd _ p _ = H1; obtain ⟨S, e⟩ := gen_new hH hp; clear hH))
theorem while_rule {c : TT} {tb : TS} {D : Ends} {σ : St} {H : Hp} (W : Nat → St → Hp → Prop) (n0 : Nat) (h0 : W n0 σ H)
    (hs : ∀ n σ1 H1 (R : Bool → Hp → Prop), W n σ1 H1 →
      (∀ H2, tb { D with nx := fun σ' H' => ∃ n', n' < n ∧ W n' σ' H', ct := fun σ' H' => ∃ n', n' < n ∧ W n' σ' H', bk := D.nx } σ1 H2 → R true H2) → (∀ H2, D.nx σ1 H2 → R false H2) → c σ1 H1 R) : tWhile c tb D σ H := by
  refine ⟨W, ⟨n0, h0⟩, fun n σ1 H1 w => hs n σ1 H1 _ w (fun H2 q => ?_) fun H2 q => ?_⟩
  · exact iteT ⟨_, fun _ _ z => z, q⟩
  · exact iteF q
theorem tfor_it {wi : TI} {g : TG} {tb : TS} {D : Ends} {σ : St} {H H1 : Hp} {J : It} {n : Nat} {G : Hp → Prop} {Y : Nat → Hp → V → Hp → Prop} (hw : ∀ R : It → Hp → Prop, R J H1 → wi σ H R) (w : Walk J n G Y)
    (Pv : Nat → St → Hp → Prop) (h0 : Pv 0 σ H1) (hG : ∀ i σ H, i ≤ n → Pv i σ H → G H)
    (hs : ∀ i x σ H H', i < n → Pv i σ H → Y i H x H' → g x σ H' fun σ2 H2 => tb { D with nx := Pv (i + 1), ct := Pv (i + 1), bk := D.nx } σ2 H2) (hd : ∀ σ H, Pv n σ H → D.nx σ H) : tFor wi g tb D σ H :=
  hw _ (for_it w Pv h0 hG hs hd)
theorem tfor_all {ι : Type} {C : ι → Prop} {J : ι → It} {H1 : ι → Hp} {wi : TI} {g : TG} {tb : TS} {D : Ends} {σ : St} {H : Hp} (hw : ∀ R : It → Hp → Prop, (∀ x, C x → R (J x) (H1 x)) → wi σ H R)
    (h2 : ∀ x, C x → ∃ W : Nat → Nat → St → Hp → Prop, (∃ m, W 0 m σ (H1 x)) ∧ ∀ i m σ H, W i m σ H →
      ((J x).stop i H ∧ D.nx σ H) ∨ ((J x).go i H ∧ ∃ N : St → Hp → Prop, (∀ σ' H', N σ' H' → ∃ m', m' < m ∧ W (i + 1) m' σ' H') ∧ ∀ y H', (J x).yld i H y H' → g y σ H' fun σ2 H2 => tb { D with nx := N, ct := N, bk := D.nx } σ2 H2)) : tFor wi g tb D σ H := hw _ h2
theorem _root_.Qw.Kp.mut {p q : Addr} {H H' : Hp} {o : HO} (k : Kp p H H') (h : H q = none) : Kp p H (L2.upd H' q o) := fun b u e n => by
  rw [upd_ne (ne_of_none e h)]
  exact k b u e n
theorem map_eraseIdx' {α β : Type} (f : α → β) : ∀ (l : List α) (i : Nat), (l.map f).eraseIdx i = (l.eraseIdx i).map f
  | [], _ => rfl
  | _ :: _, 0 => rfl
  | a :: l, i + 1 => by
    show f a :: (l.map f).eraseIdx i = f a :: (l.eraseIdx i).map f
    rw [map_eraseIdx' f l i]
theorem perm_eraseIdx {α : Type} : ∀ {l : List α} {i : Nat} (h : i < l.length), (l[i] :: l.eraseIdx i).Perm l
  | _ :: _, 0, _ => List.Perm.refl _
  | a :: l, i + 1, h => by
    have h' : i < l.length := by simpa using h
    exact (List.Perm.swap a l[i] (l.eraseIdx i)).trans (List.Perm.cons a (perm_eraseIdx h'))
theorem at_in {α : Type} {xs : List α} {k : Int} (h0 : 0 ≤ k) (h : k < xs.length) : ∃ (j : Nat) (hj : j < xs.length), k = (j : Int) ∧ atI xs k = some xs[j] := by
  have hj : k.toNat < xs.length := by omega
  refine ⟨k.toNat, hj, by omega, ?_⟩
  have := atI_nat (xs := xs) (j := k.toNat) (v := xs[k.toNat]) (by simp [hj])
  rwa [show ((k.toNat : Nat) : Int) = k by omega] at this
theorem bi_Rules_init {K : PySem.W.Frag} {mg : Str → Option Value} {a : Ad} (T : Txt K mg a) : Binds K a.d_Rules_init P_Rules_init [] := by
  obtain ⟨ds, h1, h2⟩ := T.F_Rules_init.binds1 (ps := P_Rules_init) 6 5 (by decide) rfl fun T kV doc pm an cdv ct us its h1 h2 =>
    match us, h1, its, h2 with
    | [_, _, _, _, _, _], _, [_, _, _, _, _], _ => ⟨_, rfl, rfl⟩
  cases h1
  exact h2
theorem bi_Rules_init0 {K : PySem.W.Frag} {mg : Str → Option Value} {a : Ad} (T : Txt K mg a) : ∃ ds, Vals [.str (" " : Str), .str ("'" : Str), .str ("\"" : Str), .str ("\\" : Str), .str ("#" : Str)] ds ∧ Binds K a.d_Rules_init P_Rules_init ds :=
  T.F_Rules_init.binds1 (ps := P_Rules_init) 1 0 (by decide) rfl fun T kV doc pm an cdv ct us its h1 h2 =>
    match us, h1, its, h2 with
    | [_], _, [_, _, _, _, _], _ => ⟨_, rfl, rfl⟩
section
variable {P : Program} {w : World} {K : PySem.W.Frag} {mg : Str → Option Value} {base : Heap} {a : Ad}
/-! ### drawn numbers -/
def sp_law_cell_at (K : PySem.W.Frag) : Sp := fun vs H Q _ => ∃ (p : Addr) (k : Int) (ns : List Int), vs = [.ref p, .int k] ∧ SqL K H p (ns.map V.int) ∧ 0 ≤ k ∧ ∀ z : Int, Q (.int z) H
theorem ok__law_cell_at (T : Txt K mg a) : FnOk P w K mg base CX0 1 a.f__law_cell_at a.d__law_cell_at P__law_cell_at (sp_law_cell_at K) := by
  refine T.F__law_cell_at.ok sc__law_cell_at (fun vs H Q E h => ?_) (fun cdv A outer s H vs Q E hr h => ?_)
  · obtain ⟨p, k, ns, rfl, _⟩ := h
    rfl
  · obtain ⟨p, k, ns, rfl, hp, hk, q⟩ := h
    refine ⟨_,
(pss_cons (ps_if (pt_cmpR op_lt (pv 1) (pe_callB call_len_seq (by rfl) T.b_len PySem.boot_len (pa_cons (pv 0) pa_nil)) (nomark _)) (pss_one (ps_ret (pe_ix ix_list (pv 0) (pv 1) (fun _ _ => rfl)))) pss_nil)
    (pss_one (ps_ret pe_int)))
      , ?_⟩
    rw [show start N__law_cell_at [V.ref p, V.int k] = [some (.ref p), some (.int k)] from rfl]
    walk_at "rdh"
    refine ⟨_, .inl hp, ite2 (fun c => ?_) (fun _ => trivial)⟩
    rw [List.length_map] at c
    obtain ⟨j, hj, e1, e2⟩ := at_in hk (show k < ((ns.map V.int).length : Int) by rw [List.length_map]; exact c)
    refine ⟨_, hp, _, e2, ?_⟩
    rw [List.getElem_map]
    exact q _
def sp_law_draw : Sp := fun vs H Q _ => ∃ c k m : Int, vs = [.int c, .int k, .int m] ∧ 0 ≤ k ∧ k < 1000 ∧ 0 < m ∧ ∀ (z : Int) H', 0 ≤ z → z < m → Same H H' → Q (.int z) H'
theorem ok__law_draw (T : Txt K mg a) : FnOk P w K mg base CX0 1 a.f__law_draw a.d__law_draw P__law_draw sp_law_draw := by
  refine T.F__law_draw.ok sc__law_draw (fun vs H Q E h => ?_) (fun cdv A outer s H vs Q E hr h => ?_)
  · obtain ⟨c, k, m, rfl, _⟩ := h
    rfl
  · obtain ⟨c, k, m, rfl, hk, hk2, hm, q⟩ := h
    refine ⟨_,
(pss_cons (ps_set (i := 3) sc__law_draw.nd rfl (by first | exact Or.inl rfl | exact Or.inr rfl) (pe_tup (pa_cons pe_int (pa_cons pe_int (pa_cons pe_int (pa_cons pe_int (pa_cons pe_int (pa_cons pe_int (pa_cons pe_int (pa_cons pe_int (pa_cons pe_int (pa_cons pe_int (pa_cons pe_int (pa_cons pe_int (pa_cons pe_int (pa_cons pe_int (pa_cons pe_int (pa_cons pe_int pa_nil))))))))))))))))))
    (pss_one (ps_ret (pe_op op_mod (pe_op op_mod (pe_op op_add (pe_op op_mul (pv 0) pe_int) (pe_op op_mul (pv 1) pe_int)) (pe_ix ix_tup (pv 3) (pe_op op_mod (pv 1) pe_int) (fun _ _ => rfl))) (pv 2)))))
      , ?_⟩
    rw [show start N__law_draw [V.int c, V.int k, V.int m] = [some (.int c), some (.int k), some (.int m), none] from rfl]
    walk_at "rdh"
    intro p hp
    refine ⟨.inr ⟨by decide, by decide⟩, .inr ⟨by decide, by decide⟩, by decide, _, .inl (.inl upd_same), ?_⟩
    have h16 : ∃ z : Int, atI [V.int 1000003, V.int 1000033, V.int 1000037, V.int 1000039, V.int 1000081, V.int 1000099, V.int 1000117, V.int 1000121, V.int 1000133, V.int 1000151, V.int 1000159, V.int 1000171, V.int 1000183, V.int 1000187, V.int 1000193, V.int 1000199] (k % 16) = some (V.int z) ∧ 0 < z := by
      obtain ⟨j, hj, e⟩ : ∃ j : Nat, j < 16 ∧ k % 16 = (j : Int) := ⟨(k % 16).toNat, by omega, by omega⟩
      rw [e]
      match j, hj with
      | 0, _ | 1, _ | 2, _ | 3, _ | 4, _ | 5, _ | 6, _ | 7, _ | 8, _ | 9, _ | 10, _ | 11, _ | 12, _ | 13, _ | 14, _ | 15, _ => exact ⟨_, rfl, by decide⟩
      | n + 16, h => exact absurd h (by omega)
    obtain ⟨z, e, hz⟩ := h16
    exact ⟨_, e, z, rfl, hz, q _ _ (Int.emod_nonneg _ (by omega)) (Int.emod_lt_of_pos _ hm) (same_new hp)⟩
def sp_law_number : Sp := fun vs H Q _ => ∃ c k m : Int, vs = [.int c, .int k, .int m] ∧ 0 ≤ k ∧ k < 1000 ∧ 0 < m ∧ ∀ (z : Int) H', 0 ≤ z → z < m → Same H H' → Q (.int z) H'
theorem ok__law_number (T : Txt K mg a) : FnOk P w K mg base CX0 2 a.f__law_number a.d__law_number P__law_number sp_law_number := by
  refine T.F__law_number.ok sc__law_number (fun vs H Q E h => ?_) (fun cdv A outer s H vs Q E hr h => ?_)
  · obtain ⟨c, k, m, rfl, _⟩ := h
    rfl
  · obtain ⟨c, k, m, rfl, hk, hk2, hm, q⟩ := h
    have G__law_draw := ok__law_draw (P := P) (w := w) (base := base) T
    have B__law_draw := bi__law_draw T
    refine ⟨_,
(pss_cons (ps_set (i := 3) sc__law_number.nd rfl (by first | exact Or.inl rfl | exact Or.inr rfl) (pe_op op_sub (pv 0) (pe_op op_pow pe_int pe_int)))
    (pss_cons (ps_for PassesOwn.never rfl (pi_range1 rfl T.b_range (pa_cons (pe_op op_mod (pv 1) pe_int) pa_nil)) (pg_name (i := 4) sc__law_number.nd rfl (by first | exact Or.inl rfl | exact Or.inr rfl))
    (pss_one (ps_set (i := 3) sc__law_number.nd rfl (by first | exact Or.inl rfl | exact Or.inr rfl) (pe_op op_fdiv (pv 3) pe_int))))
    (pss_cons (ps_if (pt_cmpR op_gt (pv 3) pe_int (nomark _)) (pss_one (ps_ret (pe_op op_mod (pe_op op_mod (pv 3) pe_int) (pv 2)))) pss_nil)
    (pss_cons (ps_set (i := 5) sc__law_number.nd rfl (by first | exact Or.inl rfl | exact Or.inr rfl) (pe_op op_mod (pv 0) pe_int))
    (pss_one (ps_ret (pe_op op_mod (pe_call G__law_draw (hr.mono (by decide)) rfl T.f__law_draw.g T.f__law_draw.k B__law_draw .nil pass0 (pa_cons (pe_op op_mul (pe_op op_add (pv 5) (pe_op op_mul pe_int (pv 1))) (pe_op op_add (pe_op op_add (pv 5) (pe_op op_mul pe_int (pv 1))) pe_int)) (pa_cons (pe_op op_add (pe_op op_mod (pv 1) pe_int) pe_int) (pa_cons pe_int pa_nil)))) (pv 2))))))))
      , ?_⟩
    rw [show start N__law_number [V.int c, V.int k, V.int m] = [some (.int c), some (.int k), some (.int m), none, none, none] from rfl]
    walk_at "rdh"
    refine ⟨⟨by decide, by decide, by decide⟩, ?_⟩
    refine tfor_it (J := Itr 0 (k % 24).toNat) (H1 := H) (fun R hR => ?_) walk_range (fun i σ H' => H' = H ∧ ∃ rest v, σ = [some (.int c), some (.int k), some (.int m), some (.int rest), v, none]) ⟨rfl, _, _, rfl⟩ (fun _ _ _ _ _ => trivial) ?_ ?_
    · walk_at "rd"
      exact ⟨by decide, by omega, by omega, hR⟩
    · rintro i x σ H2 H3 hi ⟨rfl, rest, v, rfl⟩ ⟨rfl, rfl⟩
      walk_at "rd"
      exact ⟨⟨by decide, by decide⟩, _, rfl⟩
    · rintro σ H2 ⟨rfl, rest, v, rfl⟩
      walk_at "rd"
      refine ite2 (fun _ => ⟨by decide, hm, q _ _ (Int.emod_nonneg _ (by omega)) (Int.emod_lt_of_pos _ hm) (Same.refl _)⟩) (fun _ => ?_)
      have b1 : 0 ≤ c % 1000003 := Int.emod_nonneg _ (by decide)
      have b2 : c % 1000003 < 1000003 := Int.emod_lt_of_pos _ (by decide)
      refine ⟨by decide, .inl ⟨by decide, by decide⟩, .inl ⟨by decide, by decide⟩, .inl ⟨by omega, by omega⟩, by decide, _, _, _, rfl, by omega, by omega, by decide, fun z H' z1 z2 s1 => ?_⟩
      exact ⟨z, rfl, hm, q _ _ (Int.emod_nonneg _ (by omega)) (Int.emod_lt_of_pos _ hm) s1⟩
/-! ### the state of drawing -/
/-- the script: frozen, or an object of the module -/
def Scr (K : PySem.W.Frag) (ns : List Int) (H : Hp) (scr : Addr) : Prop := (∃ o, H scr = some (.frz o (.lst (ns.map V.int)))) ∨ SqL K (fun _ => none) scr (ns.map V.int)
theorem Scr.sq {ns : List Int} {H : Hp} {scr : Addr} (h : Scr K ns H scr) : SqL K H scr (ns.map V.int) := by
  rcases h with ⟨o, h⟩ | (h | ⟨o, h⟩) | h
  · exact .inl (.inr ⟨o, h⟩)
  · cases h
  · cases h
  · exact .inr h
theorem Scr.kp {ns : List Int} {H H' : Hp} {scr p : Addr} {o : HO} (h : Scr K ns H scr) (k : Kp p H H') (hp : H p = some o) (no : ∀ u l, o ≠ .frz u l) : Scr K ns H' scr := by
  rcases h with ⟨u, h⟩ | h
  · refine .inl ⟨u, k _ _ h fun z => ?_⟩
    rw [z, hp] at h
    exact no _ _ (Option.some.inj h)
  · exact .inr h
theorem Scr.same {ns : List Int} {H H' : Hp} {scr : Addr} (h : Scr K ns H scr) (k : Same H H') : Scr K ns H' scr := h.imp (fun ⟨u, h⟩ => ⟨u, k _ _ h⟩) id
def Stt (K : PySem.W.Frag) (ns : List Int) (H : Hp) (st : Addr) : Prop := ∃ (scr : Addr) (b n : Int), H st = some (.lst [.ref scr, .int b, .int n]) ∧ Scr K ns H scr ∧ 0 ≤ b ∧ 0 ≤ n
theorem Stt.same {ns : List Int} {H H' : Hp} {st : Addr} (h : Stt K ns H st) (s : Same H H') : Stt K ns H' st := by
  obtain ⟨scr, b, n, h1, h2, h4⟩ := h
  exact ⟨scr, b, n, s _ _ h1, h2.same s, h4⟩
/-- another object is changed -/
theorem Stt.kp {ns : List Int} {H H' : Hp} {st p : Addr} {o : HO} (h : Stt K ns H st) (k : Kp p H H') (hp : H p = some o) (no : ∀ u l, o ≠ .frz u l) (ne : st ≠ p) : Stt K ns H' st := by
  obtain ⟨scr, b, n, h1, h2, h4⟩ := h
  exact ⟨scr, b, n, k _ _ h1 ne, h2.kp k hp no, h4⟩
theorem Stt.has {ns : List Int} {H : Hp} {st : Addr} (h : Stt K ns H st) : ∃ xs, H st = some (.lst xs) := by
  obtain ⟨scr, b, n, h1, _⟩ := h
  exact ⟨_, h1⟩
def sp_law_next (K : PySem.W.Frag) : Sp := fun vs H Q _ => ∃ (ns : List Int) (st : Addr) (m : Int), vs = [.ref st, .int m] ∧ Stt K ns H st ∧ 0 < m ∧ ∀ (z : Int) H', 0 ≤ z → z < m → Stt K ns H' st → Kp st H H' → Q (.int z) H'
theorem ok__law_next (T : Txt K mg a) : FnOk P w K mg base CX0 3 a.f__law_next a.d__law_next P__law_next (sp_law_next K) := by
  refine T.F__law_next.ok sc__law_next (fun vs H Q E h => ?_) (fun cdv A outer s H vs Q E hr h => ?_)
  · obtain ⟨ns, st, m, rfl, _⟩ := h
    rfl
  · obtain ⟨ns, st, m, rfl, ⟨scr, b, n, h1, h3, hb, hn⟩, hm, q⟩ := h
    have G__law_cell_at := ok__law_cell_at (P := P) (w := w) (base := base) T
    have B__law_cell_at := bi__law_cell_at T
    have G__law_number := ok__law_number (P := P) (w := w) (base := base) T
    have B__law_number := bi__law_number T
    refine ⟨_,
(pss_cons (ps_asg (pe_op op_add (pe_ix ix_list (pv 0) pe_int (fun _ _ => rfl)) pe_int) (pg_sub (pv 0) pe_int set_list))
    (pss_cons (ps_set (i := 2) sc__law_next.nd rfl (by first | exact Or.inl rfl | exact Or.inr rfl) (pe_op op_fdiv (pe_ix ix_list (pv 0) pe_int (fun _ _ => rfl)) pe_int))
    (pss_cons (ps_set (i := 3) sc__law_next.nd rfl (by first | exact Or.inl rfl | exact Or.inr rfl) (pe_op op_add (pe_call G__law_cell_at (hr.mono (by decide)) rfl T.f__law_cell_at.g T.f__law_cell_at.k B__law_cell_at .nil pass0 (pa_cons (pe_ix ix_list (pv 0) pe_int (fun _ _ => rfl)) (pa_cons (pe_op op_add (pe_ix ix_list (pv 0) pe_int (fun _ _ => rfl)) (pv 2)) pa_nil))) (pe_op op_mul pe_int (pv 2))))
    (pss_one (ps_ret (pe_call G__law_number (hr.mono (by decide)) rfl T.f__law_number.g T.f__law_number.k B__law_number .nil pass0 (pa_cons (pv 3) (pa_cons (pe_op op_add (pe_op op_mod (pe_ix ix_list (pv 0) pe_int (fun _ _ => rfl)) pe_int) pe_int) (pa_cons (pv 1) pa_nil)))))))))
      , ?_⟩
    rw [show start N__law_next [V.ref st, V.int m] = [some (.ref st), some (.int m), none, none] from rfl]
    walk_at "rd"
    have e1 : upd H st (HO.lst [V.ref scr, V.int b, V.int (n + 1)]) st = some (HO.lst [V.ref scr, V.int b, V.int (n + 1)]) := upd_same
    have k1 : Kp st H (upd H st (HO.lst [V.ref scr, V.int b, V.int (n + 1)])) := kp_upd
    refine ⟨_, .inl (.inl h1), _, rfl, n, rfl, _, h1, 2, rfl, ?_⟩
    simp only [List.set_cons_succ, List.set_cons_zero]
    generalize upd H st (HO.lst [V.ref scr, V.int b, V.int (n + 1)]) = H1 at *
    have n1 : 0 ≤ (n + 1) / 12 := by omega
    refine ⟨_, .inl (.inl e1), _, rfl, _, rfl, ⟨by decide, by decide⟩, _, .inl (.inl e1), _, rfl, _, .inl (.inl e1), _, rfl, _, rfl, ?_⟩
    have h3' := h3.kp k1 h1 (fun _ _ z => nomatch z)
    refine ⟨scr, b + (n + 1) / 12, ns, rfl, h3'.sq, by omega, fun z => ?_⟩
    refine ⟨.inl ⟨by decide, by decide⟩, z, rfl, _, .inl (.inl e1), _, rfl, _, rfl, by decide, ?_⟩
    refine ⟨_, _, m, rfl, by omega, by omega, hm, fun y H2 y1 y2 s2 => ?_⟩
    exact q y H2 y1 y2 ⟨scr, b, n + 1, s2 _ _ e1, h3'.same s2, hb, by omega⟩ (k1.trans (s2.kp st))
/-! ### drawn rules -/
def signs12 : Tx := [32, 39, 34, 92, 35, 10, 44, 59, 96, 94, 97, 98]
def sV (t : Tx) : V := .str (S t)
def sV1 (c : Nat) : V := .str (S [c])
theorem Ok_sgn {r : RS} (h : r.Ok) : ∀ c ∈ r.every, c < 1000 := fun c hc => by
  have := List.all_eq_true.mp h.sg c hc
  simp only [sgn, Bool.or_eq_true, decide_eq_true_eq] at this
  omega
def RS.tup (r : RS) : List V := [.str (S r.breaks), .str (S r.hard), .str (S r.soft), .str (S r.bend), .str (S r.note)]
def usual : RS := ⟨[32], [39], [34], [92], [35]⟩
theorem usual_ok : usual.Ok := ⟨by decide, by decide, by decide, by decide, by decide, by decide, by decide, by decide⟩
def lims : List Nat := [4, 2, 2, 1, 1]
structure TInv (K : PySem.W.Frag) (ns : List Int) (st left found : Addr) (H0 H : Hp) (ls : Tx) (parts : List Tx) (part : Tx) (i : Nat) : Prop where
  stt : Stt K ns H st
  l : H left = some (.lst (ls.map sV1))
  f : H found = some (.lst (parts.map sV))
  ln : parts.length = i
  lim : ∀ (j : Nat) (p : Tx) (n : Nat), parts[j]? = some p → lims[j]? = some n → p.length ≤ n
  ne : ∀ p : Tx, parts[0]? = some p → p ≠ []
  perm : (parts.flatten ++ (part ++ ls)).Perm signs12
  kp : Kp st H0 H
  tot : parts.flatten.length ≤ (lims.take i).sum
theorem TInv.same {ns : List Int} {st left found : Addr} {H0 H H' : Hp} {ls : Tx} {parts : List Tx} {part : Tx} {i : Nat} (h : TInv K ns st left found H0 H ls parts part i) (s : Same H H') : TInv K ns st left found H0 H' ls parts part i :=
  ⟨h.stt.same s, s _ _ h.l, s _ _ h.f, h.ln, h.lim, h.ne, h.perm, h.kp.trans (s.kp st), h.tot⟩
/-- drawing alone changes the state alone -/
theorem TInv.draw {ns : List Int} {st left found : Addr} {H0 H H' : Hp} {ls : Tx} {parts : List Tx} {part : Tx} {i : Nat} (h : TInv K ns st left found H0 H ls parts part i) (n1 : left ≠ st) (n2 : found ≠ st) (t : Stt K ns H' st) (s : Kp st H H') :
    TInv K ns st left found H0 H' ls parts part i := ⟨t, s _ _ h.l n1, s _ _ h.f n2, h.ln, h.lim, h.ne, h.perm, h.kp.trans s, h.tot⟩
theorem TInv.few {ns : List Int} {st left found : Addr} {H0 H : Hp} {ls : Tx} {parts : List Tx} {part : Tx} {i : Nat} (h : TInv K ns st left found H0 H ls parts part i) (hp : (lims.take i).sum + part.length < 12) : 0 < ls.length := by
  have e := h.perm.length_eq
  rw [List.length_append, List.length_append, show signs12.length = 12 from rfl] at e
  have := h.tot
  omega
theorem TInv.ok8 {ns : List Int} {st left found : Addr} {H0 H : Hp} {ls : Tx} {parts : List Tx} {part : Tx} {i : Nat} (h : TInv K ns st left found H0 H ls parts part i) : ∀ t ∈ parts, ok8 t := fun t ht c hc => by
  have h1 : c ∈ parts.flatten ++ (part ++ ls) := List.mem_append_left _ (List.mem_flatten.mpr ⟨t, ht, hc⟩)
  have h2 := h.perm.mem_iff.mp h1
  have : ∀ c ∈ signs12, c < 1000 := by decide
  exact this c h2
def sp_law_told (K : PySem.W.Frag) : Sp := fun vs H Q _ => ∃ (ns : List Int) (st : Addr), vs = [.ref st] ∧ Stt K ns H st ∧ ∀ (r : RS) tp H', r.Ok → H tp = none → H' tp = some (.tup r.tup) → Stt K ns H' st → Kp st H H' → Q (.ref tp) H'
theorem ok__law_told (T : Txt K mg a) : FnOk P w K mg base CX0 4 a.f__law_told a.d__law_told P__law_told (sp_law_told K) := by
  refine T.F__law_told.ok sc__law_told (fun vs H Q E h => ?_) (fun cdv A outer s H vs Q E hr h => ?_)
  · obtain ⟨ns, st, rfl, _⟩ := h
    rfl
  · obtain ⟨ns, st, rfl, hs, q⟩ := h
    have G__law_next := ok__law_next (P := P) (w := w) (base := base) T
    have B__law_next := bi__law_next T
    refine ⟨_,
(pss_cons (ps_set (i := 1) sc__law_told.nd rfl (by first | exact Or.inl rfl | exact Or.inr rfl) (pe_callTy (call_list_str rfl) (by rfl) T.b_list (by decide +kernel) (pa_cons pe_str pa_nil)))
    (pss_cons (ps_if (pt_cmpR op_eq (pe_call G__law_next (hr.mono (by decide)) rfl T.f__law_next.g T.f__law_next.k B__law_next .nil pass0 (pa_cons (pv 0) (pa_cons pe_int pa_nil))) pe_int (nomark _)) (pss_one (ps_ret (pe_tup (pa_cons pe_str (pa_cons pe_str (pa_cons pe_str (pa_cons pe_str (pa_cons pe_str pa_nil)))))))) pss_nil)
    (pss_cons (ps_set (i := 2) sc__law_told.nd rfl (by first | exact Or.inl rfl | exact Or.inr rfl) (pe_lst pa_nil))
    (pss_cons (ps_for PassesOwn.never rfl (pi_tup (pe_tup (pa_cons pe_int (pa_cons pe_int (pa_cons pe_int (pa_cons pe_int (pa_cons pe_int pa_nil))))))) (pg_name (i := 3) sc__law_told.nd rfl (by first | exact Or.inl rfl | exact Or.inr rfl))
    (pss_cons (ps_par (i := 4) (j := 5) (by rfl) sc__law_told.nd rfl rfl (by decide) rfl rfl (pa_cons pe_str (pa_cons (pe_callTy call_int1 (by rfl) T.b_int (by decide +kernel) (pa_cons (pe_cmpR (op_eqD hr.units) (pv 2) (pe_lst pa_nil) (nomark _)) pa_nil)) pa_nil)) (by rfl))
    (pss_cons (ps_for PassesOwn.never rfl (pi_range1 rfl T.b_range (pa_cons (pe_op op_add (pv 5) (pe_call G__law_next (hr.mono (by decide)) rfl T.f__law_next.g T.f__law_next.k B__law_next .nil pass0 (pa_cons (pv 0) (pa_cons (pv 3) pa_nil)))) pa_nil)) (pg_name (i := 6) sc__law_told.nd rfl (by first | exact Or.inl rfl | exact Or.inr rfl))
    (pss_one (ps_set (i := 4) sc__law_told.nd rfl (by first | exact Or.inl rfl | exact Or.inr rfl) (pe_op op_add_str (pv 4) (pe_bm PySem.F.plainAttrs_list PySem.F.slot_list_pop PySem.F.type_list_pop mt_popAt (pv 1) (pa_cons (pe_call G__law_next (hr.mono (by decide)) rfl T.f__law_next.g T.f__law_next.k B__law_next .nil pass0 (pa_cons (pv 0) (pa_cons (pe_callB call_len_seq (by rfl) T.b_len PySem.boot_len (pa_cons (pv 1) pa_nil)) pa_nil))) pa_nil))))))
    (pss_one (ps_expr (pe_bm PySem.F.plainAttrs_list PySem.F.slot_list_append PySem.F.type_list_append mt_append (pv 2) (pa_cons (pv 4) pa_nil)))))))
    (pss_one (ps_ret (pe_callTy call_tuple_of (by rfl) T.b_tuple (by decide +kernel) (pa_cons (pv 2) pa_nil))))))))
      , ?_⟩
    rw [show start N__law_told [V.ref st] = [some (.ref st), none, none, none, none, none, none] from rfl]
    walk_at "rd"
    refine ⟨signs12, by decide +kernel, by decide, fun left hl => ?_⟩
    have S1 := same_new (o := HO.lst (signs12.map sV1)) hl
    have l1 : upd H left (HO.lst (signs12.map sV1)) left = some (HO.lst (signs12.map sV1)) := upd_same
    show sp_law_next K [V.ref st, V.int 3] (upd H left (HO.lst (signs12.map sV1))) _ _
    generalize upd H left (HO.lst (signs12.map sV1)) = H1 at *
    refine ⟨ns, st, 3, rfl, hs.same S1, by decide, fun z H2 z1 z2 hs2 k2 => ⟨rfl, ?_⟩⟩
    have nls : left ≠ st := fun e => by
      obtain ⟨xs, e1⟩ := hs.has
      rw [← e, hl] at e1; cases e1
    have K2 : Kp st H H2 := (S1.kp st).trans k2
    have l2 := k2 _ _ l1 nls
    have fr : ∀ {H' : Hp} {p : Addr}, Kp st H H' → H' p = none → Stt K ns H' st → H p = none := fun {H' p} k e t => by
      cases e1 : H p with
      | none => rfl
      | some o =>
        obtain ⟨xs, e2⟩ := t.has
        have := k _ _ e1 fun z => by rw [z, e2] at e; cases e
        rw [e] at this; cases this
    refine ite2 (fun _ tp htp => ?_) (fun _ found hf => ?_)
    · refine q usual tp _ usual_ok (fr K2 htp hs2) ?_ (hs2.same (same_new htp)) (K2.trans ((same_new htp).kp st))
      rw [upd_same]
      exact congrArg (fun l => some (HO.tup l)) (by decide +kernel)
    have f0 := fr K2 hf hs2
    have S3 := same_new (o := HO.lst []) hf
    have hs3 := hs2.same S3
    have nfl : found ≠ left := fun z => by rw [z, l2] at hf; cases hf
    have nfs : found ≠ st := fun z => by
      obtain ⟨xs, e2⟩ := hs2.has
      rw [z, e2] at hf; cases hf
    have l3 := S3 _ _ l2
    have f3 : upd H2 found (HO.lst []) found = some (HO.lst []) := upd_same
    have K3 : Kp st H (upd H2 found (HO.lst [])) := K2.trans (S3.kp st)
    generalize upd H2 found (HO.lst []) = H3 at *
    have inv0 : TInv K ns st left found H H3 signs12 [] [] 0 := ⟨hs3, l3, f3, rfl, fun j p n e => (by simp at e), fun p e => (by simp at e), List.Perm.refl _, K3, Nat.zero_le _⟩
    have mosts : ∀ i : Nat, i < 5 → ∀ x, ([V.int 4, V.int 3, V.int 3, V.int 2, V.int 2] : List V)[i]? = some x → ∃ m n : Nat, x = .int m ∧ 0 < m ∧ lims[i]? = some n ∧ (i = 0 → m ≤ n) ∧ m ≤ n + 1 ∧ n ≤ 4 ∧ (lims.take i).sum + n ≤ 10 ∧ (lims.take (i + 1)).sum = (lims.take i).sum + n := fun i hi x e => by
      match i, hi, e with
      | 0, _, e => cases e; exact ⟨4, 4, rfl, by decide⟩
      | 1, _, e => cases e; exact ⟨3, 2, rfl, by decide⟩
      | 2, _, e => cases e; exact ⟨3, 2, rfl, by decide⟩
      | 3, _, e => cases e; exact ⟨2, 1, rfl, by decide⟩
      | 4, _, e => cases e; exact ⟨2, 1, rfl, by decide⟩
    refine tfor_all (C := fun p => H3 p = none) (J := fun p => Itt K p) (H1 := fun p => upd H3 p (.tup [.int 4, .int 3, .int 3, .int 2, .int 2])) (fun R hR => ?_) fun p hp => ?_
    · walk_at "rd"
      exact fun p hp => ⟨⟨_, .inl (.inl upd_same)⟩, hR p hp⟩
    refine for_it (n := 5) (walk_tup (xs := [.int 4, .int 3, .int 3, .int 2, .int 2])) (fun i σ H4 => H4 p = some (.tup [.int 4, .int 3, .int 3, .int 2, .int 2]) ∧ ∃ v3 v4 v5 v6 ls parts, σ = [some (.ref st), some (.ref left), some (.ref found), v3, v4, v5, v6] ∧
      TInv K ns st left found H H4 ls parts [] i) ?_ (fun i σ H hi h => .inl (.inl h.1)) ?_ ?_
    · have S4 := same_new (o := HO.tup [.int 4, .int 3, .int 3, .int 2, .int 2]) hp
      exact ⟨upd_same, none, none, none, none, signs12, [], rfl, ⟨inv0.stt.same S4, S4 _ _ inv0.l, S4 _ _ inv0.f, inv0.ln, inv0.lim, inv0.ne, inv0.perm, inv0.kp.trans (S4.kp st), inv0.tot⟩⟩
    · rintro i x σ H4 H5 hi ⟨tp, v3, v4, v5, v6, ls, parts, rfl, inv⟩ ⟨rfl, hx⟩
      obtain ⟨m, n, rfl, m0, hn, mn0, mn, n4, tn, t1⟩ := mosts i hi x hx
      walk_at "rd"
      intro p1 hp1
      have S5 := same_new (o := HO.lst []) hp1
      have inv5 := inv.same S5
      have tp5 := S5 _ _ tp
      have y5 : upd H5 p1 (HO.lst []) p1 = some (HO.lst []) := upd_same
      generalize upd H5 p1 (HO.lst []) = H6 at *
      have te : tame (wsD parts) = true := wsD_tame inv5.ok8
      refine ⟨wsD parts, dp_ws (.inl (.inl inv5.f)), .list [], .lst (.inl (.inl y5)) .nil, shaped_of te (Nat.le_trans (wsD_depth _) (by decide)), by decide, .inr ?_⟩
      have ev : PyData.eqv (wsD parts) (.list []) = decide (parts = []) := eqv_dec te rfl (wsD_inj (y := []))
      rw [ev]
      obtain ⟨least, hle, l0⟩ : ∃ least : Nat, (if decide (parts = []) = true then 1 else 0 : Int) = least ∧ ((i = 0 ∧ least = 1) ∨ (i ≠ 0 ∧ least = 0)) := by
        by_cases e : parts = []
        · exact ⟨1, by simp [e], .inl ⟨by rw [← inv5.ln, e]; rfl, rfl⟩⟩
        · exact ⟨0, by simp [e], .inr ⟨fun z => e (List.eq_nil_of_length_eq_zero (inv5.ln.trans z)), rfl⟩⟩
      rw [hle]
      refine tfor_all (ι := Int × Hp) (C := fun x => 0 ≤ x.1 ∧ x.1 < m ∧ Stt K ns x.2 st ∧ Kp st H6 x.2) (J := fun x => Itr 0 ((least : Int) + x.1).toNat) (H1 := fun x => x.2) (fun R hR => ?_) fun x hx => ?_
      · walk_at "rd"
        exact ⟨ns, st, m, rfl, inv5.stt, by omega, fun z H' z1 z2 t k => ⟨z, rfl, by omega, by omega, hR (z, H') ⟨z1, z2, t, k⟩⟩⟩
      obtain ⟨z, H7⟩ := x
      obtain ⟨c1, c2, c3, c4⟩ := hx
      dsimp only at c1 c2 c3 c4
      have inv7 := inv5.draw nls nfs c3 c4
      have nps : p ≠ st := fun e => by
        obtain ⟨xs, e2⟩ := inv.stt.has
        rw [← e, tp] at e2; cases e2
      have tp7 := c4 _ _ tp5 nps
      have hn' : ((least : Int) + z).toNat ≤ n := by omega
      refine for_it (n := ((least : Int) + z).toNat) walk_range (fun k σ H8 => H8 p = some (.tup [.int 4, .int 3, .int 3, .int 2, .int 2]) ∧ ∃ v6 ls part, σ = [some (.ref st), some (.ref left), some (.ref found), some (.int m), some (.str (S part)), some (.int least), v6] ∧ part.length = k ∧
        TInv K ns st left found H H8 ls parts part i) ?_ (fun _ _ _ _ _ => trivial) ?_ ?_
      · exact ⟨tp7, _, _, [], rfl, rfl, inv7⟩
      · rintro k x σ H8 H9 hk ⟨tp8, v6, ls, part, rfl, pl, inv8⟩ ⟨rfl, rfl⟩
        walk_at "rd"
        have few := inv8.few (by omega)
        refine ⟨.inl ⟨rfl, _, .inl (.inl inv8.l)⟩, _, .inl (.inl (.inl inv8.l)), ?_⟩
        refine ⟨ns, st, _, rfl, inv8.stt, by rw [List.length_map]; omega, fun y H10 y1 y2 t10 k10 => ?_⟩
        rw [List.length_map] at y2
        have inv10 := inv8.draw nls nfs t10 k10
        obtain ⟨j, hj, rfl⟩ : ∃ j : Nat, j < ls.length ∧ y = (j : Int) := ⟨y.toNat, by omega, by omega⟩
        have lz : ls.length ≤ 12 := by
          have e := inv8.perm.length_eq
          rw [List.length_append, List.length_append, show signs12.length = 12 from rfl] at e
          omega
        refine ⟨_, _, rfl, inv10.l, by omega, by omega, j, seqIndex_of (by omega) (by rw [List.length_map]; omega), sV1 ls[j], by rw [List.getElem?_map, List.getElem?_eq_getElem hj]; rfl, _, rfl, ?_, ?_, _, ls.eraseIdx j, part ++ [ls[j]], S_app _ _, rfl, by rw [List.length_append, pl]; rfl, ?_⟩
        · exact Nat.le_trans (show part.length + 1 ≤ 100 by omega) (by decide)
        · have npl : p ≠ left := fun e => by
            have := inv8.l
            rw [← e, tp8] at this; cases this
          rw [upd_ne npl]
          exact k10 _ _ tp8 nps
        · have el : (ls.map sV1).eraseIdx j = (ls.eraseIdx j).map sV1 := map_eraseIdx' _ _ _
          rw [el]
          refine ⟨inv10.stt.kp kp_upd inv10.l (fun _ _ z => nomatch z) (Ne.symm nls), upd_same, by rw [upd_ne nfl]; exact inv10.f, inv10.ln, inv10.lim, inv10.ne, ?_, inv10.kp.mut hl, inv10.tot⟩
          refine List.Perm.trans ?_ inv10.perm
          rw [List.append_assoc]
          exact List.Perm.append_left _ (List.Perm.append_left _ (perm_eraseIdx hj))
      · rintro σ H8 ⟨tp8, v6, ls, part, rfl, pl, inv8⟩
        walk_at "rd"
        have pz : parts.length ≤ 5 := by rw [inv8.ln]; omega
        refine ⟨.inl ⟨rfl, _, .inl (.inl inv8.f)⟩, _, inv8.f, ?_, ?_, ⟨_, rfl⟩, ls, parts ++ [part], ?_⟩
        · rw [List.length_map]
          exact Nat.lt_of_le_of_lt pz (by decide)
        · have npf : p ≠ found := fun e => by
            have := inv8.f
            rw [← e, tp8] at this; cases this
          rw [upd_ne npf]
          exact tp8
        · have tt := inv8.tot
          refine ⟨inv8.stt.kp kp_upd inv8.f (fun _ _ z => nomatch z) (Ne.symm nfs), by rw [upd_ne (Ne.symm nfl)]; exact inv8.l, by rw [upd_same, List.map_append]; rfl, by rw [List.length_append, inv8.ln]; rfl, fun j q c hq hc => ?_, fun q hq => ?_, ?_, inv8.kp.mut f0, ?_⟩
          · by_cases hj : j < parts.length
            · rw [List.getElem?_append_left hj] at hq
              exact inv8.lim j q c hq hc
            · rw [List.getElem?_append_right (by omega)] at hq
              have hj0 : j - parts.length = 0 := by
                cases e : j - parts.length with
                | zero => rfl
                | succ _ => rw [e] at hq; simp at hq
              have hji : j = i := by have := inv8.ln; omega
              rw [hj0] at hq
              cases (Option.some.inj hq : part = q)
              rw [hji, hn] at hc
              cases hc
              omega
          · rcases l0 with ⟨i0, e1⟩ | ⟨i0, e1⟩
            · have e2 : parts = [] := List.eq_nil_of_length_eq_zero (inv8.ln.trans i0)
              rw [e2] at hq
              cases (Option.some.inj hq : part = q)
              intro e3
              rw [e3] at pl
              simp only [List.length_nil] at pl
              omega
            · rw [List.getElem?_append_left (by rw [inv8.ln]; omega)] at hq
              exact inv8.ne q hq
          · refine List.Perm.trans (List.Perm.of_eq ?_) inv8.perm
            simp
          · rw [t1, List.flatten_append, List.length_append]
            simp only [List.flatten_cons, List.flatten_nil, List.append_nil]
            omega
    · rintro σ H4 ⟨tp, v3, v4, v5, v6, ls, parts, rfl, inv⟩
      walk_at "rd"
      have ln := inv.ln
      have l4 := inv.lim
      have l5 := inv.ne
      have l6 := inv.perm
      have l7 := inv.f
      match parts, ln, l4, l5, l6, l7 with
      | [b, h, so, be, no], _, l4, l5, l6, l7 =>
        have nd12 : signs12.Nodup := by decide
        have sg12 : ∀ c ∈ signs12, sgn c = true := by decide
        have fe : [b, h, so, be, no].flatten = (⟨b, h, so, be, no⟩ : RS).every := by simp [RS.every]
        rw [fe] at l6
        have ok : (⟨b, h, so, be, no⟩ : RS).Ok := ⟨l4 0 b 4 rfl rfl, l4 1 h 2 rfl rfl, l4 2 so 2 rfl rfl, l4 3 be 1 rfl rfl, l4 4 no 1 rfl rfl, l5 b rfl,
          List.all_eq_true.mpr fun c hc => sg12 c (l6.mem_iff.mp (List.mem_append_left _ hc)), (List.nodup_append.mp (l6.nodup_iff.mpr nd12)).1⟩
        refine ⟨_, .inl ⟨.inl (.inl l7), fun t ht => ?_⟩⟩
        exact q ⟨b, h, so, be, no⟩ t _ ok (fr inv.kp ht inv.stt) upd_same (inv.stt.same (same_new ht)) (inv.kp.trans ((same_new ht).kp st))
def sp_law_rules (a : Ad) : Sp := fun vs H Q _ => ∃ tp r, vs = [.ref tp] ∧ H tp = some (.tup (RS.tup r)) ∧ r.Ok ∧ ∀ p dx H', H p = none → H' p = some (.ins a.c_Rules dx r.f) → Same H H' → Q (.ref p) H'
theorem ok__law_rules (T : Txt K mg a) : FnOk P w K mg base CX0 4 a.f__law_rules a.d__law_rules P__law_rules (sp_law_rules a) := by
  refine T.F__law_rules.ok sc__law_rules (fun vs H Q E h => ?_) (fun cdv A outer s H vs Q E hr h => ?_)
  · obtain ⟨tp, r, rfl, _⟩ := h
    rfl
  · obtain ⟨tp, r, rfl, ht, ok, q⟩ := h
    have G_Rules_init := ok_Rules_init (P := P) (w := w) (base := base) T
    have B_Rules_init := bi_Rules_init T
    obtain ⟨Ds_Rules_init0, D_Rules_init0, B_Rules_init0⟩ := bi_Rules_init0 T
    refine ⟨_,
(pss_one (ps_ret (pe_make T.c_Rules.mc G_Rules_init (hr.mono (by decide)) rfl T.c_Rules.g B_Rules_init .nil pass0 (pa_cons (pe_ix ix_tup (pv 0) pe_int (fun _ _ => rfl)) (pa_cons (pe_ix ix_tup (pv 0) pe_int (fun _ _ => rfl)) (pa_cons (pe_ix ix_tup (pv 0) pe_int (fun _ _ => rfl)) (pa_cons (pe_ix ix_tup (pv 0) pe_int (fun _ _ => rfl)) (pa_cons (pe_ix ix_tup (pv 0) pe_int (fun _ _ => rfl)) pa_nil))))))))
      , ?_⟩
    rw [show start N__law_rules [V.ref tp] = [some (.ref tp)] from rfl]
    walk_at "rd"
    refine ⟨_, .inl (.inl ht), _, rfl, _, .inl (.inl ht), _, rfl, _, .inl (.inl ht), _, rfl, _, .inl (.inl ht), _, rfl, _, .inl (.inl ht), _, rfl, fun x dx hx hdx ne => ?_⟩
    refine ⟨x, dx, r, rfl, ok, upd_same, fun H' h1 h2 => ⟨rfl, q x dx H' hx h1 (Same.made hx hdx h2)⟩⟩
end
end Qw

set_option Elab.async false
set_option linter.all false
set_option maxRecDepth 100000
set_option maxHeartbeats 4000000
namespace Qw
open PySem L2
local macro_rules | `(tactic| walk_at "rd") => `(tactic| simp only [iEnum, iRng3, tRevL, rSlS, rSlL, gSub, rSetL, wipe, List.map_cons, List.map_nil, rAll, rAny, rIsi, tM1, tM0, iZipLT, iZip, iRng2, tLenSetS, rListStr, rMulS, rRep, rCntB, tRevS, rNeD, rEqD, tSeq, tNext, tAsg, tRet, tRetN, tDrop, tIfS, sFld, sFldAug, tVar, tC, tOp, tUn, tTest, tB, tAnd, tOr, tNot, tAndV, tOrV, tNotV, tIf, tTup, tLst, tCons, tNil, tCB, tCall, tMeth, tMake, tFld, rI, rI0, rU, rEq, rNe, rCat, gName, gTup, gCons, gNil, tPar, tPar3, tBM, tBM0, rAppend, rExtend, rPopAt, rIxL, rIxT, rIxS, tSl, rSlS, rSlL, tPart, tNoPart, iStr, iTup, iList, iRng1, tAug, ipI, L2.rAdd, L2.rSub, L2.rAddS, tChain, rIsB, rNotB, scal_ss, scal_ii, scal_bb, scal_nn, scal_in, scal_ni, tYes,
  cx_K, cx_N, List.getElem?_cons_zero, List.getElem?_cons_succ, List.set_cons_zero, List.set_cons_succ, List.nil_append, List.cons_append, List.append_nil, List.length_cons, List.length_nil, Nat.zero_add,
  Option.some.injEq, V.ref.injEq, V.int.injEq, V.str.injEq, V.bl.injEq, HO.ins.injEq, HO.lst.injEq, HO.tup.injEq, List.cons.injEq, exists_eq_left, exists_eq_left', exists_eq_right, exists_eq_right', and_true, true_and, exists_and_left, exists_and_right, and_assoc, decide_eq_true_eq, Bool.not_eq_true', decide_eq_false_iff_not, reduceCtorEq, exists_const, forall_const, if_true, if_false, false_and, and_false, ite_true, ite_false, Bool.true_eq_false, Bool.false_eq_true, Nat.reduceLeDiff, Nat.reduceAdd, small_line, small_lt, upd_ne, ne_eq, not_false_eq_true, Nat.zero_le, Prod.mk.injEq, upd_same, upd_upd, S_tl, S_len, S_app, S_one, S_inj,
  lk_breaks, lk_hard, lk_soft, lk_bend, lk_note, lk_rules, lk_state, lk_bent, lk_word, lk_begun, lk_opened, lk_place, pt_state, pt_bent, pt_word, pt_wordS, pt_wordN, pt_begun, pt_opened, pt_place, pt_place1, len_mf, litv_empty, litv_note, litv_nl, mf_inj, rf_inj, lkn_begin, lkn_ended, lkn_plain, lkn_quoted, lkn_step, lkn_fault, lkn_key, lkn_told, lkn_quotes, lkn_special, pt_open1, not_true_eq_false, not_false_eq_true])
local macro_rules | `(tactic| walk_at "rdh") => `(tactic| simp only [iEnum, iRng3, tRevL, rSlS, rSlL, gSub, rSetL, wipe, List.map_cons, List.map_nil, rAll, rAny, rIsi, tM1, tM0, iZipLT, iZip, iRng2, tLenSetS, rListStr, rMulS, rRep, rCntB, tRevS, rNeD, rEqD, tSeq, tNext, tAsg, tRet, tRetN, tDrop, tIfS, sFld, sFldAug, tVar, tC, tOp, tUn, tTest, tB, tAnd, tOr, tNot, tAndV, tOrV, tNotV, tIf, tTup, tLst, tCons, tNil, tCB, tCall, tMeth, tMake, tFld, rI, rI0, rU, rEq, rNe, rCat, gName, gTup, gCons, gNil, tPar, tPar3, tBM, tBM0, rAppend, rExtend, rPopAt, rIxL, rIxT, rIxS, tSl, rSlS, rSlL, tPart, tNoPart, iStr, iTup, iList, iRng1, tAug, ipI, L2.rAdd, L2.rSub, L2.rAddS, tChain, rIsB, rNotB, scal_ss, scal_ii, scal_bb, scal_nn, scal_in, scal_ni, tYes,
  cx_K, cx_N, List.getElem?_cons_zero, List.getElem?_cons_succ, List.set_cons_zero, List.set_cons_succ, List.nil_append, List.cons_append, List.append_nil, List.length_cons, List.length_nil, Nat.zero_add,
  Option.some.injEq, V.ref.injEq, V.int.injEq, V.str.injEq, V.bl.injEq, HO.ins.injEq, HO.lst.injEq, HO.tup.injEq, List.cons.injEq, exists_eq_left, exists_eq_left', exists_eq_right, exists_eq_right', and_true, true_and, exists_and_left, exists_and_right, and_assoc, decide_eq_true_eq, Bool.not_eq_true', decide_eq_false_iff_not, reduceCtorEq, exists_const, forall_const, if_true, if_false, false_and, and_false, ite_true, ite_false, Bool.true_eq_false, Bool.false_eq_true, Nat.reduceLeDiff, Nat.reduceAdd, small_line, small_lt, upd_ne, ne_eq, not_false_eq_true, Nat.zero_le, Prod.mk.injEq, upd_same, upd_upd, S_tl, S_len, S_app, S_one, S_inj,
  lk_breaks, lk_hard, lk_soft, lk_bend, lk_note, lk_rules, lk_state, lk_bent, lk_word, lk_begun, lk_opened, lk_place, pt_state, pt_bent, pt_word, pt_wordS, pt_wordN, pt_begun, pt_opened, pt_place, pt_place1, len_mf, litv_empty, litv_note, litv_nl, mf_inj, rf_inj, lkn_begin, lkn_ended, lkn_plain, lkn_quoted, lkn_step, lkn_fault, lkn_key, lkn_told, lkn_quotes, lkn_special, pt_open1, not_true_eq_false, not_false_eq_true, *])
local macro_rules | `(tactic| walk_at "pl") => `(tactic| (first | decide | (refine Nat.lt_of_le_of_lt (length_putF _ _ _) ?_; repeat (first | decide | refine pl2 ?_))))
local macro_rules | `(tactic| walk_at "al") => `(tactic| (intro p hp; generalize hH : upd _ p _ = H1; obtain ⟨S, e⟩ := gen_new hH hp; clear hH))
theorem atI_S {t : Tx} {z : Int} (h0 : 0 ≤ z) (h : z < t.length) : ∃ (j : Nat) (hj : j < t.length), z = (j : Int) ∧ atI (S t).cps.toList z = some t[j] := by
  rw [S_tl]
  exact at_in h0 h
theorem atI_S' {t : Tx} {j c : Nat} (h : t[j]? = some c) : atI (S t).cps.toList (j : Int) = some c := by
  rw [S_tl]
  exact atI_nat h
theorem tseq_split {A B : TS} {D : Ends} {σ : St} {H : Hp} (Mid : St → Hp → Prop) (h1 : ∀ N : St → Hp → Prop, (∀ σ' H', Mid σ' H' → N σ' H') → A { D with nx := N } σ H) (h2 : ∀ σ' H', Mid σ' H' → B D σ' H') : tSeq A B D σ H := h1 _ h2
section
variable {P : Program} {w : World} {K : PySem.W.Frag} {mg : Str → Option Value} {base : Heap} {a : Ad}
def sp_law_text (K : PySem.W.Frag) : Sp := fun vs H Q _ => ∃ (ns : List Int) (st tp : Addr) (r : RS) (m : Nat), vs = [.ref st, .ref tp, .int m] ∧ Stt K ns H st ∧ H tp = some (.tup (RS.tup r)) ∧ r.Ok ∧ m ≤ 400 ∧
  ∀ (t : Tx) H', t.length ≤ m → t.all sgn = true → Stt K ns H' st → Kp st H H' → Q (.str (S t)) H'
theorem ok__law_text (T : Txt K mg a) : FnOk P w K mg base CX0 4 a.f__law_text a.d__law_text P__law_text (sp_law_text K) := by
  refine T.F__law_text.ok sc__law_text (fun vs H Q E h => ?_) (fun cdv A outer s H vs Q E hr h => ?_)
  · obtain ⟨ns, st, tp, r, m, rfl, _⟩ := h
    rfl
  · obtain ⟨ns, st, tp, r, m, rfl, hs, ht, ok, hm, q⟩ := h
    have G__law_next := ok__law_next (P := P) (w := w) (base := base) T
    have B__law_next := bi__law_next T
    refine ⟨_,
(pss_cons (ps_par (i := 3) (j := 4) (by rfl) sc__law_text.nd rfl rfl (by decide) rfl rfl (pa_cons (pe_op op_add_str (pe_join pe_str (pv 1)) pe_str) (pa_cons pe_str pa_nil)) (by rfl))
    (pss_cons (ps_for PassesOwn.never rfl (pi_range1 rfl T.b_range (pa_cons (pe_call G__law_next (hr.mono (by decide)) rfl T.f__law_next.g T.f__law_next.k B__law_next .nil pass0 (pa_cons (pv 0) (pa_cons (pe_op op_add (pv 2) pe_int) pa_nil))) pa_nil)) (pg_name (i := 5) sc__law_text.nd rfl (by first | exact Or.inl rfl | exact Or.inr rfl))
    (pss_cons (ps_set (i := 6) sc__law_text.nd rfl (by first | exact Or.inl rfl | exact Or.inr rfl) (pe_ifExp (pt_cmpR op_gt (pe_call G__law_next (hr.mono (by decide)) rfl T.f__law_next.g T.f__law_next.k B__law_next .nil pass0 (pa_cons (pv 0) (pa_cons pe_int pa_nil))) pe_int (nomark _)) (pv 3) pe_str))
    (pss_one (ps_set (i := 4) sc__law_text.nd rfl (by first | exact Or.inl rfl | exact Or.inr rfl) (pe_op op_add_str (pv 4) (pe_ix ix_str (pv 6) (pe_call G__law_next (hr.mono (by decide)) rfl T.f__law_next.g T.f__law_next.k B__law_next .nil pass0 (pa_cons (pv 0) (pa_cons (pe_callB call_len_str (by rfl) T.b_len PySem.boot_len (pa_cons (pv 6) pa_nil)) pa_nil))) (fun _ _ => rfl)))))))
    (pss_one (ps_ret (pv 4)))))
      , ?_⟩
    rw [show start N__law_text [V.ref st, V.ref tp, V.int m] = [some (.ref st), some (.ref tp), some (.int m), none, none, none, none] from rfl]
    walk_at "rd"
    have ev : r.every.length ≤ 10 := by
      have h1 := ok.l1; have h2 := ok.l2; have h3 := ok.l3; have h4 := ok.l4; have h5 := ok.l5
      simp only [RS.every, List.length_append]; omega
    have jn : Txt.join (S []) [S r.breaks, S r.hard, S r.soft, S r.bend, S r.note] = S r.every := by
      have := join_flat [r.breaks, r.hard, r.soft, r.bend, r.note]
      simpa [RS.every] using this
    have lab : Str.ofString "ab \n" = S [97, 98, 32, 10] := by decide +kernel
    have lcd : Str.ofString "cde~!" = S [99, 100, 101, 126, 33] := by decide +kernel
    refine ⟨⟨_, rfl⟩, [S r.breaks, S r.hard, S r.soft, S r.bend, S r.note], .inr (.inl (.inl ht)), ?_, ?_⟩
    · have h1 := ok.l1; have h2 := ok.l2; have h3 := ok.l3; have h4 := ok.l4; have h5 := ok.l5
      simp only [List.map_cons, List.map_nil, List.sum_cons, List.sum_nil, S_len, List.length_cons, List.length_nil]; omega
    rw [jn, lab, lcd, S_app]
    have sgS : ∀ c ∈ r.every ++ [97, 98, 32, 10], sgn c = true := fun c hc => by
      rcases List.mem_append.mp hc with h | h
      · exact List.all_eq_true.mp ok.sg c h
      · exact (show ∀ c ∈ [97, 98, 32, 10], sgn c = true by decide) c h
    have sgC : ∀ c ∈ [99, 100, 101, 126, 33], sgn c = true := by decide
    have lS : (r.every ++ [97, 98, 32, 10]).length ≤ 14 := by simp only [List.length_append, List.length_cons, List.length_nil]; omega
    have l0 : 0 < (r.every ++ [97, 98, 32, 10]).length := by simp only [List.length_append, List.length_cons, List.length_nil]; omega
    generalize r.every ++ [97, 98, 32, 10] = sg at *
    refine ⟨by rw [S_len, S_len]; exact Nat.le_trans (show r.every.length + 4 ≤ 14 by omega) (by decide), ?_⟩
    refine tfor_all (ι := Int × Hp) (C := fun x => 0 ≤ x.1 ∧ x.1 < (m : Int) + 1 ∧ Stt K ns x.2 st ∧ Kp st H x.2) (J := fun x => Itr 0 x.1.toNat) (H1 := fun x => x.2) (fun R hR => ?_) fun x hx => ?_
    · walk_at "rd"
      exact ⟨ns, st, _, rfl, hs, by omega, fun z H' z1 z2 t k => ⟨z, rfl, by omega, by omega, hR (z, H') ⟨z1, z2, t, k⟩⟩⟩
    obtain ⟨z, H1⟩ := x
    obtain ⟨c1, c2, c3, c4⟩ := hx
    dsimp only at c1 c2 c3 c4
    refine for_it (n := z.toNat) walk_range (fun k σ H2 => ∃ v5 v6 t, σ = [some (.ref st), some (.ref tp), some (.int m), some (.str (S sg)), some (.str (S t)), v5, v6] ∧ t.length = k ∧ t.all sgn = true ∧ Stt K ns H2 st ∧ Kp st H H2)
      ⟨_, _, [], rfl, rfl, rfl, c3, c4⟩ (fun _ _ _ _ _ => trivial) ?_ ?_
    · rintro k x σ H2 H3 hk ⟨v5, v6, t, rfl, tl, ts, t2, k2⟩ ⟨rfl, rfl⟩
      walk_at "rd"
      refine ⟨ns, st, 4, rfl, t2, by decide, fun y H4 y1 y2 t4 k4 => ⟨y, rfl, ?_⟩⟩
      have fin : ∀ c H', sgn c = true → Stt K ns H' st → Kp st H4 H' → t.length + 1 ≤ sizeLine ∧ (t ++ [c]).length = k + 1 ∧ (t ++ [c]).all sgn = true ∧ Stt K ns H' st ∧ Kp st H H' := fun c H' h1 h2 h3 =>
        ⟨Nat.le_trans (show t.length + 1 ≤ 401 by omega) (by decide), by rw [List.length_append, tl]; rfl, by rw [List.all_append, ts]; simp [h1], h2, (k2.trans k4).trans h3⟩
      refine ite2 (fun _ => ?_) (fun _ => ?_)
      · refine ⟨Nat.le_trans lS (by decide), ns, st, _, rfl, t4, by omega, fun y' H5 z1 z2 t5 k5 => ?_⟩
        obtain ⟨j, hj, e1, e2⟩ := at_in (xs := sg) z1 z2
        exact ⟨y', rfl, Nat.le_trans lS (by decide), _, e2, fin _ H5 (sgS _ (List.getElem_mem hj)) t5 k5⟩
      · refine ⟨ns, st, _, rfl, t4, by decide, fun y' H5 z1 z2 t5 k5 => ?_⟩
        obtain ⟨j, hj, e1, e2⟩ := at_in (xs := [99, 100, 101, 126, 33]) z1 z2
        exact ⟨y', rfl, _, e2, fin _ H5 (sgC _ (List.getElem_mem hj)) t5 k5⟩
    · rintro σ H2 ⟨v5, v6, t, rfl, tl, ts, t2, k2⟩
      walk_at "rd"
      exact q t H2 (by omega) ts t2 k2
def sp_law_quoted : Sp := fun vs H Q _ => ∃ (tp : Addr) (r : RS) (t : Tx) (k q : Nat), vs = [.ref tp, .str (S t), .int k] ∧ H tp = some (.tup (RS.tup r)) ∧ t.length ≤ 1000 ∧ t[k]? = some q ∧
  ∀ p H', H p = none → Same H H' → (match lq r q k (t.drop (k + 1)) (k + 1) [] with
    | .error b => H' p = some (.tup [.non, .int b])
    | .ok (f, e) => H' p = some (.tup [.str (S f), .int e])) → Q (.ref p) H'
theorem ok__law_quoted (T : Txt K mg a) : FnOk P w K mg base CX0 1 a.f__law_quoted a.d__law_quoted P__law_quoted sp_law_quoted := by
  refine T.F__law_quoted.ok sc__law_quoted (fun vs H Q E h => ?_) (fun cdv A outer s H vs Q E hr h => ?_)
  · obtain ⟨tp, r, t, k, q, rfl, _⟩ := h
    rfl
  · obtain ⟨tp, r, t, k, q, rfl, ht, hl, hq, kk⟩ := h
    refine ⟨_,
(pss_cons (ps_par3 (i := 3) (j := 4) (l := 5) (by rfl) sc__law_quoted.nd rfl rfl rfl (by decide) (by decide) (by decide) rfl rfl rfl (pa_cons (pv 2) (pa_cons (pe_ix ix_str (pv 1) (pv 2) (fun _ _ => rfl)) (pa_cons pe_str pa_nil))) (by rfl))
    (pss_cons (ps_set (i := 2) sc__law_quoted.nd rfl (by first | exact Or.inl rfl | exact Or.inr rfl) (pe_op op_add (pv 2) pe_int))
    (pss_cons (ps_while PassesOwn.never (pt_cmpR op_lt (pv 2) (pe_callB call_len_str (by rfl) T.b_len PySem.boot_len (pa_cons (pv 1) pa_nil)) (nomark _)) (pss_cons (ps_if (pt_cmpR op_eq (pe_ix ix_str (pv 1) (pv 2) (fun _ _ => rfl)) (pv 4) (nomark _)) (pss_one (ps_ret (pe_tup (pa_cons (pv 5) (pa_cons (pe_op op_add (pv 2) pe_int) pa_nil))))) pss_nil)
    (pss_cons (ps_if (PW.pt (pw_and (pt_cmpR op_in_sign (pv 4) (pe_ix ix_tup (pv 0) pe_int (fun _ _ => rfl)) rfl) (pw_and (pt_cmpR op_ne (pe_ix ix_tup (pv 0) pe_int (fun _ _ => rfl)) pe_str (nomark _)) (pw_and1 (pt_cmpR op_eq (pe_ix ix_str (pv 1) (pv 2) (fun _ _ => rfl)) (pe_ix ix_tup (pv 0) pe_int (fun _ _ => rfl)) (nomark _)))))) (pss_cons (ps_set (i := 2) sc__law_quoted.nd rfl (by first | exact Or.inl rfl | exact Or.inr rfl) (pe_op op_add (pv 2) pe_int))
    (pss_one (ps_if (pt_cmpR op_eq (pv 2) (pe_callB call_len_str (by rfl) T.b_len PySem.boot_len (pa_cons (pv 1) pa_nil)) (nomark _)) (pss_one (ps_ret (pe_tup (pa_cons pe_non (pa_cons (pv 3) pa_nil))))) pss_nil))) pss_nil)
    (pss_cons (ps_set (i := 5) sc__law_quoted.nd rfl (by first | exact Or.inl rfl | exact Or.inr rfl) (pe_op op_add_str (pv 5) (pe_ix ix_str (pv 1) (pv 2) (fun _ _ => rfl))))
    (pss_one (ps_set (i := 2) sc__law_quoted.nd rfl (by first | exact Or.inl rfl | exact Or.inr rfl) (pe_op op_add (pv 2) pe_int)))))))
    (pss_one (ps_ret (pe_tup (pa_cons pe_non (pa_cons (pv 3) pa_nil))))))))
      , ?_⟩
    rw [show start N__law_quoted [V.ref tp, V.str (S t), V.int k] = [some (.ref tp), some (.str (S t)), some (.int k), none, none, none] from rfl]
    walk_at "rd"
    refine ⟨Nat.le_trans hl (by decide), q, atI_nat hq, ?_⟩
    have hk : k < t.length := (List.getElem?_eq_some_iff.mp hq).1
    refine while_rule (fun n σ H' => H' = H ∧ ∃ (i : Nat) (f : Tx), σ = [some (.ref tp), some (.str (S t)), some (.int i), some (.int k), some (.str (S [q])), some (.str (S f))] ∧ n = t.length - i ∧ i ≤ t.length ∧ f.length ≤ i ∧
      lq r q k (t.drop i) i f = lq r q k (t.drop (k + 1)) (k + 1) []) _ ⟨rfl, k + 1, [], rfl, rfl, by omega, by simp, rfl⟩ ?_
    rintro n σ1 H1 R ⟨rfl, i, f, rfl, rfl, hi, hf, inv⟩ hT hF
    walk_at "rd"
    have sz : t.length ≤ sizeLine := Nat.le_trans hl (by decide)
    refine ⟨sz, ?_⟩
    by_cases hlt : i < t.length
    · rw [decide_eq_true (by omega)]
      refine hT _ ?_
      have hc : t[i]? = some t[i] := List.getElem?_eq_getElem hlt
      have a1 := atI_nat hc
      have dr := drop_at hc
      generalize t[i] = c at *
      walk_at "rd"
      refine ⟨sz, c, a1, ?_⟩
      rw [dr] at inv
      refine ite2 (fun c1 p hp => ?_) (fun c1 => ?_)
      · rw [lq_one c1] at inv
        rw [← inv] at kk
        exact kk p _ hp (same_new hp) (by rw [upd_same]; rfl)
      have sf : f.length + 1 ≤ sizeLine := Nat.le_trans (show f.length + 1 ≤ 1001 by omega) (by decide)
      have plain : ¬ (q ∈ r.soft ∧ r.bend = [c]) → t.length ≤ sizeLine ∧ ∃ x, atI t (i : Int) = some x ∧ f.length + 1 ≤ sizeLine ∧ ∃ n', n' < t.length - i ∧ ∃ j : Nat, (i : Int) + 1 = j ∧ n' = t.length - j ∧ j ≤ t.length ∧ (f ++ [x]).length ≤ j ∧
          lq r q k (t.drop j) j (f ++ [x]) = lq r q k (t.drop (k + 1)) (k + 1) [] := fun h2 => by
        refine ⟨sz, c, a1, sf, t.length - (i + 1), by omega, i + 1, rfl, rfl, by omega, by rw [List.length_append]; simp only [List.length_cons, List.length_nil]; omega, ?_⟩
        rw [← inv, lq_plain c1 h2]
      refine ⟨_, .inl (.inl ht), _, rfl, _, rfl, ite2 (fun c2 => ?_) (fun c2 => plain fun h => c2 h.1)⟩
      refine ⟨_, .inl (.inl ht), _, rfl, rfl, ite2 (fun c3 => ?_) (fun c3 => plain fun h => ?_)⟩
      · refine ⟨sz, c, a1, _, .inl (.inl ht), _, rfl, rfl, ite2 (fun c4 => ?_) (fun c4 => plain fun h => ?_)⟩
        · have hb : q ∈ r.soft ∧ r.bend = [c] := ⟨c2, by simpa [S_inj] using (of_decide_eq_true c4).symm⟩
          refine ⟨sz, ite2 (fun c5 p hp => ?_) (fun c5 => ?_)⟩
          · have e0 : t.drop (i + 1) = [] := List.drop_eq_nil_of_le (by omega)
            rw [e0, lq_last c1] at inv
            rw [← inv] at kk
            exact kk p _ hp (same_new hp) upd_same
          · have hd : t[i + 1]? = some (t[i + 1]'(by omega)) := List.getElem?_eq_getElem (by omega)
            have a2 := atI_nat hd
            have dr2 := drop_at hd
            generalize t[i + 1]'(by omega) = d at *
            refine ⟨sz, d, a2, sf, t.length - (i + 2), by omega, i + 2, rfl, rfl, by omega, by rw [List.length_append]; simp only [List.length_cons, List.length_nil]; omega, ?_⟩
            rw [← inv, dr2, lq_bend c1 hb]
        · exact c4 (decide_eq_true (by rw [h.2]))
      · apply c3
        rw [h.2]
        simp [S_inj]
    · rw [decide_eq_false (by omega)]
      refine hF _ ?_
      have e0 : t.drop i = [] := List.drop_eq_nil_of_le (by omega)
      rw [e0] at inv
      walk_at "rd"
      intro p hp
      rw [← inv] at kk
      exact kk p _ hp (same_new hp) upd_same
def sp_law_word : Sp := fun vs H Q _ => ∃ (tp : Addr) (r : RS) (t : Tx) (k : Nat), vs = [.ref tp, .str (S t), .int k] ∧ H tp = some (.tup (RS.tup r)) ∧ r.Ok ∧ t.length ≤ 1000 ∧ k ≤ t.length ∧
  ∀ p H', H p = none → Same H H' → (match lw r t t.length k [] with
    | .error b => H' p = some (.tup [.non, .int b])
    | .ok (f, e) => H' p = some (.tup [.str (S f), .int e])) → Q (.ref p) H'
theorem ok__law_word (T : Txt K mg a) : FnOk P w K mg base CX0 2 a.f__law_word a.d__law_word P__law_word sp_law_word := by
  refine T.F__law_word.ok sc__law_word (fun vs H Q E h => ?_) (fun cdv A outer s H vs Q E hr h => ?_)
  · obtain ⟨tp, r, t, k, rfl, _⟩ := h
    rfl
  · obtain ⟨tp, r, t, k, rfl, ht, ok, hl, hk, kk⟩ := h
    have G__law_quoted := ok__law_quoted (P := P) (w := w) (base := base) T
    have B__law_quoted := bi__law_quoted T
    refine ⟨_,
(pss_cons (ps_set (i := 3) sc__law_word.nd rfl (by first | exact Or.inl rfl | exact Or.inr rfl) pe_str)
    (pss_cons (ps_while PassesOwn.never (PW.pt (pw_and (pt_cmpR op_lt (pv 2) (pe_callB call_len_str (by rfl) T.b_len PySem.boot_len (pa_cons (pv 1) pa_nil)) (nomark _)) (pw_and1 (pt_cmpR op_notIn_sign (pe_ix ix_str (pv 1) (pv 2) (fun _ _ => rfl)) (pe_op op_add_str (pe_ix ix_tup (pv 0) pe_int (fun _ _ => rfl)) (pe_ix ix_tup (pv 0) pe_int (fun _ _ => rfl))) rfl)))) (pss_one (ps_if (pt_cmpR op_in_sign (pe_ix ix_str (pv 1) (pv 2) (fun _ _ => rfl)) (pe_op op_add_str (pe_ix ix_tup (pv 0) pe_int (fun _ _ => rfl)) (pe_ix ix_tup (pv 0) pe_int (fun _ _ => rfl))) rfl) (pss_cons (ps_asg (pe_call G__law_quoted (hr.mono (by decide)) rfl T.f__law_quoted.g T.f__law_quoted.k B__law_quoted .nil pass0 (pa_cons (pv 0) (pa_cons (pv 1) (pa_cons (pv 2) pa_nil)))) (pg_tup rfl (pgs_cons (pg_name (i := 4) sc__law_word.nd rfl (by first | exact Or.inl rfl | exact Or.inr rfl)) (pgs_cons (pg_name (i := 2) sc__law_word.nd rfl (by first | exact Or.inl rfl | exact Or.inr rfl)) pgs_nil))))
    (pss_cons (ps_if (pt_cmpR op_isN (pv 4) pe_non (nomark _)) (pss_one (ps_ret (pe_tup (pa_cons pe_non (pa_cons (pv 2) pa_nil))))) pss_nil)
    (pss_one (ps_set (i := 3) sc__law_word.nd rfl (by first | exact Or.inl rfl | exact Or.inr rfl) (pe_op op_add_str (pv 3) (pv 4)))))) (pss_one (ps_if (PW.pt (pw_and (pt_cmpR op_ne (pe_ix ix_tup (pv 0) pe_int (fun _ _ => rfl)) pe_str (nomark _)) (pw_and1 (pt_cmpR op_eq (pe_ix ix_str (pv 1) (pv 2) (fun _ _ => rfl)) (pe_ix ix_tup (pv 0) pe_int (fun _ _ => rfl)) (nomark _))))) (pss_cons (ps_if (pt_cmpR op_eq (pe_op op_add (pv 2) pe_int) (pe_callB call_len_str (by rfl) T.b_len PySem.boot_len (pa_cons (pv 1) pa_nil)) (nomark _)) (pss_one (ps_ret (pe_tup (pa_cons pe_non (pa_cons (pv 2) pa_nil))))) pss_nil)
    (pss_one (ps_par (i := 3) (j := 2) (by rfl) sc__law_word.nd rfl rfl (by decide) rfl rfl (pa_cons (pe_op op_add_str (pv 3) (pe_ix ix_str (pv 1) (pe_op op_add (pv 2) pe_int) (fun _ _ => rfl))) (pa_cons (pe_op op_add (pv 2) pe_int) pa_nil)) (by rfl)))) (pss_one (ps_par (i := 3) (j := 2) (by rfl) sc__law_word.nd rfl rfl (by decide) rfl rfl (pa_cons (pe_op op_add_str (pv 3) (pe_ix ix_str (pv 1) (pv 2) (fun _ _ => rfl))) (pa_cons (pe_op op_add (pv 2) pe_int) pa_nil)) (by rfl))))))))
    (pss_one (ps_ret (pe_tup (pa_cons (pv 3) (pa_cons (pv 2) pa_nil)))))))
      , ?_⟩
    rw [show start N__law_word [V.ref tp, V.str (S t), V.int k] = [some (.ref tp), some (.str (S t)), some (.int k), none, none] from rfl]
    have sz : t.length ≤ sizeLine := Nat.le_trans hl (by decide)
    have szb : r.breaks.length + r.note.length ≤ sizeLine := Nat.le_trans (show r.breaks.length + r.note.length ≤ 5 by have h1 := ok.l1; have h5 := ok.l5; omega) (by decide)
    have szq : r.hard.length + r.soft.length ≤ sizeLine := Nat.le_trans (show r.hard.length + r.soft.length ≤ 4 by have h1 := ok.l2; have h5 := ok.l3; omega) (by decide)
    walk_at "rd"
    refine while_rule (fun n σ H' => Same H H' ∧ ∃ (i m : Nat) (f : Tx) (v : Option V), σ = [some (.ref tp), some (.str (S t)), some (.int i), some (.str (S f)), v] ∧ n = t.length - i ∧ i ≤ t.length ∧ f.length ≤ i ∧ t.length ≤ m + i ∧
      lw r t m i f = lw r t t.length k []) _ ⟨Same.refl _, k, t.length, [], _, rfl, rfl, hk, Nat.zero_le _, by omega, rfl⟩ ?_
    rintro n σ1 H1 R ⟨s1, i, m, f, v, rfl, rfl, hi, hf, hm, inv⟩ hT hF
    have ht1 := s1 _ _ ht
    walk_at "rd"
    refine ⟨sz, ?_⟩
    have fin : lw r t m i f = .ok (f, i) → R false H1 := fun e => by
      refine hF _ ?_
      rw [← inv, e] at kk
      walk_at "rd"
      exact fun p hp => kk p _ (s1.free hp) (s1.trans (same_new hp)) upd_same
    by_cases hlt : i < t.length
    · have hc : t[i]? = some t[i] := List.getElem?_eq_getElem hlt
      have a1 := atI_nat hc
      generalize t[i] = c at *
      obtain ⟨m, rfl⟩ : ∃ m', m = m' + 1 := ⟨m - 1, by omega⟩
      rw [if_pos (by omega)]
      refine ⟨sz, c, a1, _, .inl (.inl ht1), _, rfl, _, .inl (.inl ht1), _, rfl, _, rfl, _, rfl, szb, ?_⟩
      rw [S_app, S_tl]
      by_cases c1 : c ∈ r.breaks ++ r.note
      · rw [decide_eq_true c1]
        exact fin (by simp only [lw, hc, if_pos c1])
      · rw [decide_eq_false c1]
        refine hT _ ?_
        walk_at "rd"
        have hc1 : c ∉ r.breaks ++ r.note := c1
        have sf : f.length + 1 ≤ sizeLine := Nat.le_trans (show f.length + 1 ≤ 1001 by omega) (by decide)
        refine ⟨sz, c, a1, _, .inl (.inl ht1), _, rfl, _, .inl (.inl ht1), _, rfl, _, rfl, _, rfl, szq, ?_⟩
        rw [S_app, S_tl]
        refine ite2 (fun c2 => ?_) (fun c2 => ?_)
        · refine ⟨tp, r, t, i, c, rfl, ht1, hl, hc, fun p H2 hp s2 res => ?_⟩
          have bd := lq_bd r c i (t.drop (i + 1)) (i + 1) []
          rw [List.length_drop] at bd
          have s02 := s1.trans s2
          have ht2 := s2 _ _ ht1
          cases e : lq r c i (t.drop (i + 1)) (i + 1) [] with
          | error b =>
            rw [e] at res bd
            have inv2 : lw r t (m + 1) i f = .error b := by simp only [lw, hc, if_neg hc1, if_pos c2, e]
            rw [← inv, inv2] at kk
            dsimp only at res
            refine ⟨p, rfl, _, .inl (.inl res), rfl, _, _, rfl, _, _, rfl, rfl, ?_⟩
            refine ite2 (fun _ p2 hp2 => ?_) (fun h => absurd rfl h)
            exact kk p2 _ (s02.free hp2) (s02.trans (same_new hp2)) upd_same
          | ok z =>
            obtain ⟨g, e2⟩ := z
            rw [e] at res bd
            dsimp only at res bd
            simp only [List.length_nil] at bd
            have inv2 : lw r t (m + 1) i f = lw r t m e2 (f ++ g) := by simp only [lw, hc, if_neg hc1, if_pos c2, e]
            refine ⟨p, rfl, _, .inl (.inl res), rfl, _, _, rfl, _, _, rfl, rfl, ?_⟩
            refine ite2 (fun h => by cases h) (fun _ => ?_)
            refine ⟨_, rfl, Nat.le_trans (show f.length + g.length ≤ 3000 by omega) (by decide), ?_⟩
            exact ⟨t.length - e2, by omega, s02, e2, rfl, m, f ++ g, S_app _ _, rfl, by omega, by rw [List.length_append]; omega, by omega, by rw [← inv2, inv]⟩
        have plain : r.bend ≠ [c] → t.length ≤ sizeLine ∧ ∃ x, atI t (i : Int) = some x ∧ f.length + 1 ≤ sizeLine ∧ ∃ n', n' < t.length - i ∧ Same H H1 ∧ ∃ j : Nat, (i : Int) + 1 = j ∧ n' = t.length - j ∧ j ≤ t.length ∧ (f ++ [x]).length ≤ j ∧
            ∃ m2, t.length ≤ m2 + j ∧ lw r t m2 j (f ++ [x]) = lw r t t.length k [] := fun h2 => by
          refine ⟨sz, c, a1, sf, t.length - (i + 1), by omega, s1, i + 1, rfl, rfl, by omega, by rw [List.length_append]; simp only [List.length_cons, List.length_nil]; omega, m, by omega, ?_⟩
          rw [← inv]
          simp only [lw, hc, if_neg hc1, if_neg c2, if_neg h2]
        refine ⟨_, .inl (.inl ht1), _, rfl, rfl, ite2 (fun c3 => ?_) (fun c3 => plain fun h => c3 (by rw [h]; simp [S_inj]))⟩
        refine ⟨sz, c, a1, _, .inl (.inl ht1), _, rfl, rfl, ite2 (fun c4 => ?_) (fun c4 => plain fun h => c4 (decide_eq_true (by rw [h])))⟩
        have hb : r.bend = [c] := by simpa [S_inj] using (of_decide_eq_true c4).symm
        refine ⟨sz, ite2 (fun c5 p hp => ?_) (fun c5 => ?_)⟩
        · have hn : t[i + 1]? = none := List.getElem?_eq_none_iff.mpr (by omega)
          have inv2 : lw r t (m + 1) i f = .error i := by simp only [lw, hc, if_neg hc1, if_neg c2, if_pos hb, hn]
          rw [← inv, inv2] at kk
          exact kk p _ (s1.free hp) (s1.trans (same_new hp)) upd_same
        · have hd : t[i + 1]? = some (t[i + 1]'(by omega)) := List.getElem?_eq_getElem (by omega)
          have a2 := atI_nat hd
          generalize t[i + 1]'(by omega) = d at *
          have inv2 : lw r t (m + 1) i f = lw r t m (i + 2) (f ++ [d]) := by simp only [lw, hc, if_neg hc1, if_neg c2, if_pos hb, hd]
          refine ⟨sz, d, a2, sf, t.length - (i + 2), by omega, s1, i + 2, rfl, rfl, by omega, by rw [List.length_append]; simp only [List.length_cons, List.length_nil]; omega, m, by omega, by rw [← inv2, inv]⟩
    · rw [if_neg (by omega)]
      have hn : t[i]? = none := List.getElem?_eq_none_iff.mpr (by omega)
      refine fin ?_
      cases m with
      | zero => rfl
      | succ m => simp only [lw, hn]
/-- what the law's own reading tells -/
def LRes (H H' : Hp) (v : V) (x : Except Nat (List W3)) : Prop := match x with
  | .error b => v = .int b
  | .ok ds => ∃ tp l1 l2 ys, v = .ref tp ∧ H tp = none ∧ H l1 = none ∧ H l2 = none ∧ l1 ≠ l2 ∧ H' tp = some (.tup [.ref l1, .ref l2]) ∧ H' l1 = some (.lst ((ds.map (·.1)).map sV)) ∧ H' l2 = some (.lst ys) ∧
    Paired (Pls H') ys (ds.map fun d => ((d.2.1 : Int), (d.2.2 : Int)))
def sp_law_read : Sp := fun vs H Q _ => ∃ (tp : Addr) (r : RS) (t : Tx), vs = [.ref tp, .str (S t)] ∧ H tp = some (.tup (RS.tup r)) ∧ r.Ok ∧ t.length ≤ 1000 ∧
  ∀ v H', Same H H' → LRes H H' v (lr r t (t.length + 1) 0 []) → Q v H'
theorem ok__law_read (T : Txt K mg a) : FnOk P w K mg base CX0 3 a.f__law_read a.d__law_read P__law_read sp_law_read := by
  refine T.F__law_read.ok sc__law_read (fun vs H Q E h => ?_) (fun cdv A outer s H vs Q E hr h => ?_)
  · obtain ⟨tp, r, t, rfl, _⟩ := h
    rfl
  · obtain ⟨tp, r, t, rfl, ht, ok, hl, kk⟩ := h
    have G__law_word := ok__law_word (P := P) (w := w) (base := base) T
    have B__law_word := bi__law_word T
    refine ⟨_,
(pss_cons (ps_par3 (i := 2) (j := 3) (l := 4) (by rfl) sc__law_read.nd rfl rfl rfl (by decide) (by decide) (by decide) rfl rfl rfl (pa_cons (pe_lst pa_nil) (pa_cons (pe_lst pa_nil) (pa_cons pe_int pa_nil))) (by rfl))
    (pss_cons (ps_while PassesOwn.never (pt_cmpR op_lt (pv 4) (pe_callB call_len_str (by rfl) T.b_len PySem.boot_len (pa_cons (pv 1) pa_nil)) (nomark _)) (pss_cons (ps_if (PW.pt (pw_and (pt_cmpR op_ne (pe_ix ix_tup (pv 0) pe_int (fun _ _ => rfl)) pe_str (nomark _)) (pw_and1 (pt_cmpR op_eq (pe_ix ix_str (pv 1) (pv 4) (fun _ _ => rfl)) (pe_ix ix_tup (pv 0) pe_int (fun _ _ => rfl)) (nomark _))))) (pss_cons (ps_set (i := 5) sc__law_read.nd rfl (by first | exact Or.inl rfl | exact Or.inr rfl) (pe_bm PySem.F.plainAttrs_str PySem.F.slot_str_find PySem.F.type_str_find mt_find3 (pv 1) (pa_cons pe_str (pa_cons (pe_op op_add (pv 4) pe_int) pa_nil))))
    (pss_one (ps_set (i := 4) sc__law_read.nd rfl (by first | exact Or.inl rfl | exact Or.inr rfl) (pe_ifExp (pt_cmpR op_ge (pv 5) pe_int (nomark _)) (pv 5) (pe_callB call_len_str (by rfl) T.b_len PySem.boot_len (pa_cons (pv 1) pa_nil)))))) pss_nil)
    (pss_one (ps_if (PW.pt (pw_and (pt_cmpR op_lt (pv 4) (pe_callB call_len_str (by rfl) T.b_len PySem.boot_len (pa_cons (pv 1) pa_nil)) (nomark _)) (pw_and1 (pt_cmpR op_in_sign (pe_ix ix_str (pv 1) (pv 4) (fun _ _ => rfl)) (pe_ix ix_tup (pv 0) pe_int (fun _ _ => rfl)) rfl)))) (pss_one (ps_set (i := 4) sc__law_read.nd rfl (by first | exact Or.inl rfl | exact Or.inr rfl) (pe_op op_add (pv 4) pe_int))) (pss_one (ps_if (PW.pt (pw_and (pt_cmpR op_lt (pv 4) (pe_callB call_len_str (by rfl) T.b_len PySem.boot_len (pa_cons (pv 1) pa_nil)) (nomark _)) (pw_and1 (pt_cmpR op_notIn_sign (pe_ix ix_str (pv 1) (pv 4) (fun _ _ => rfl)) (pe_ix ix_tup (pv 0) pe_int (fun _ _ => rfl)) rfl)))) (pss_cons (ps_asg (pe_call G__law_word (hr.mono (by decide)) rfl T.f__law_word.g T.f__law_word.k B__law_word .nil pass0 (pa_cons (pv 0) (pa_cons (pv 1) (pa_cons (pv 4) pa_nil)))) (pg_tup rfl (pgs_cons (pg_name (i := 6) sc__law_read.nd rfl (by first | exact Or.inl rfl | exact Or.inr rfl)) (pgs_cons (pg_name (i := 5) sc__law_read.nd rfl (by first | exact Or.inl rfl | exact Or.inr rfl)) pgs_nil))))
    (pss_cons (ps_if (pt_cmpR op_isN (pv 6) pe_non (nomark _)) (pss_one (ps_ret (pv 5))) pss_nil)
    (pss_cons (ps_expr (pe_bm PySem.F.plainAttrs_list PySem.F.slot_list_append PySem.F.type_list_append mt_append (pv 2) (pa_cons (pv 6) pa_nil)))
    (pss_cons (ps_expr (pe_bm PySem.F.plainAttrs_list PySem.F.slot_list_append PySem.F.type_list_append mt_append (pv 3) (pa_cons (pe_tup (pa_cons (pv 4) (pa_cons (pv 5) pa_nil))) pa_nil)))
    (pss_one (ps_set (i := 4) sc__law_read.nd rfl (by first | exact Or.inl rfl | exact Or.inr rfl) (pv 5))))))) pss_nil))))))
    (pss_one (ps_ret (pe_tup (pa_cons (pv 2) (pa_cons (pv 3) pa_nil)))))))
      , ?_⟩
    rw [show start N__law_read [V.ref tp, V.str (S t)] = [some (.ref tp), some (.str (S t)), none, none, none, none, none] from rfl]
    have sz : t.length ≤ sizeLine := Nat.le_trans hl (by decide)
    walk_at "rd"
    intro l1 hl1
    have S1 := same_new (o := HO.lst []) hl1
    have e1 : upd H l1 (HO.lst []) l1 = some (HO.lst []) := upd_same
    generalize upd H l1 (HO.lst []) = H1 at *
    intro l2 hl2
    have S2 := same_new (o := HO.lst []) hl2
    have e2 : upd H1 l2 (HO.lst []) l2 = some (HO.lst []) := upd_same
    have e1' := S2 _ _ e1
    have n12 : l1 ≠ l2 := ne_of_none e1 hl2
    generalize upd H1 l2 (HO.lst []) = H2 at *
    have S02 := S1.trans S2
    have hl2' := S1.free hl2
    refine while_rule (fun n σ H' => Same H H' ∧ ∃ (i m : Nat) (acc : List W3) (ys : List V) (v5 v6 : Option V), σ = [some (.ref tp), some (.str (S t)), some (.ref l1), some (.ref l2), some (.int i), v5, v6] ∧ n = t.length - i ∧ i ≤ t.length ∧ t.length < m + i ∧ acc.length ≤ i ∧
      H' l1 = some (.lst ((acc.map (·.1)).map sV)) ∧ H' l2 = some (.lst ys) ∧ Paired (Pls H') ys (acc.map fun d => ((d.2.1 : Int), (d.2.2 : Int))) ∧ lr r t m i acc = lr r t (t.length + 1) 0 [])
      _ ⟨S02, 0, t.length + 1, [], [], _, _, rfl, rfl, by omega, by omega, by simp, e1', e2, .nil, rfl⟩ ?_
    rintro n σ1 H3 R ⟨s3, i, m, acc, ys, v5, v6, rfl, rfl, hi, hm, ha, f1, f2, f3, inv⟩ hT hF
    have ht3 := s3 _ _ ht
    walk_at "rd"
    refine ⟨sz, ?_⟩
    by_cases hlt : i < t.length
    · rw [decide_eq_true (by omega)]
      refine hT _ ?_
      have hc : t[i]? = some t[i] := List.getElem?_eq_getElem hlt
      have a1 := atI_nat hc
      generalize t[i] = c at *
      obtain ⟨m, rfl⟩ : ∃ m', m = m' + 1 := ⟨m - 1, by omega⟩
      refine tseq_split (fun σ' H' => H' = H3 ∧ ∃ v5, σ' = [some (.ref tp), some (.str (S t)), some (.ref l1), some (.ref l2), some (.int (if r.note = [c] then nlAt t (i + 1) else i : Nat)), v5, v6]) (fun N hN => ?_) ?_
      · walk_at "rd"
        refine ⟨_, .inl (.inl ht3), _, rfl, rfl, ite2 (fun c1 => ?_) (fun c1 => ?_)⟩
        · refine ⟨sz, c, a1, _, .inl (.inl ht3), _, rfl, rfl, ite2 (fun c2 => ?_) (fun c2 => ?_)⟩
          · have hb : r.note = [c] := by simpa [S_inj] using (of_decide_eq_true c2).symm
            have fn := find_nl (t := t) (i := i + 1) (by omega)
            refine ⟨rfl, ?_⟩
            rcases fn with ⟨g1, g2⟩ | ⟨g1, g2⟩
            · have g1 : Txt.find3 (S t) (S [LE]) ((i : Int) + 1) = -1 := g1
              refine ite2 (fun h => absurd h (by omega)) (fun _ => ⟨sz, hN _ _ ⟨rfl, some (.int (Txt.find3 (S t) (S [LE]) ((i : Int) + 1))), ?_⟩⟩)
              rw [if_pos hb, g2]
            · have g1 : Txt.find3 (S t) (S [LE]) ((i : Int) + 1) = (nlAt t (i + 1) : Int) := g1
              refine ite2 (fun _ => hN _ _ ⟨rfl, some (.int (Txt.find3 (S t) (S [LE]) ((i : Int) + 1))), ?_⟩) (fun h => absurd h (by omega))
              rw [if_pos hb, g1]
          · refine hN _ _ ⟨rfl, v5, ?_⟩
            rw [if_neg (fun h => c2 (decide_eq_true (by rw [h])))]
        · refine hN _ _ ⟨rfl, v5, ?_⟩
          rw [if_neg (fun h => c1 (by rw [h]; simp [S_inj]))]
      · rintro σ' H' ⟨rfl, v5', rfl⟩
        generalize hk1 : (if r.note = [c] then nlAt t (i + 1) else i) = k1
        have ns := nlAt_spec (t := t) (i := i + 1) (by omega)
        have k1i : i ≤ k1 := by rw [← hk1]; split <;> omega
        have k1l : k1 ≤ t.length := by rw [← hk1]; split <;> omega
        walk_at "rd"
        refine ⟨sz, ?_⟩
        by_cases hk : k1 < t.length
        · have hc' : t[k1]? = some t[k1] := List.getElem?_eq_getElem hk
          have a2 := atI_nat hc'
          generalize t[k1] = c' at *
          rw [if_pos (by omega)]
          refine ⟨sz, c', a2, _, .inl (.inl ht3), _, rfl, _, rfl, ite2 (fun (d1 : c' ∈ r.breaks) => ?_) (fun (d1 : ¬ c' ∈ r.breaks) => ?_)⟩
          · have il : lr r t (m + 1) i acc = lr r t m (k1 + 1) acc := by simp only [lr, hc, hk1, hc', if_pos d1]
            exact ⟨t.length - (k1 + 1), by omega, s3, k1 + 1, rfl, rfl, by omega, m, by omega, acc, by omega, f1, ys, f2, f3, by rw [← il, inv]⟩
          · rw [if_pos (by omega)]
            refine ⟨sz, ?_⟩
            refine ⟨sz, c', a2, _, .inl (.inl ht3), _, rfl, _, rfl, ite2 (fun (d2 : ¬ c' ∈ r.note) => ?_) (fun d2 => ?_)⟩
            · refine ⟨tp, r, t, k1, rfl, ht3, ok, hl, k1l, fun p0 H4 hp0 s4 res => ?_⟩
              have d3 : c' ∉ r.breaks ++ r.note := fun h => (List.mem_append.mp h).elim d1 d2
              have bd := lw_bd r t t.length k1 [] k1l
              have s04 := s3.trans s4
              cases e : lw r t t.length k1 [] with
              | error b =>
                rw [e] at res
                dsimp only at res
                refine ⟨p0, rfl, _, .inl (.inl res), rfl, _, _, rfl, _, _, rfl, rfl, ?_⟩
                refine ite2 (fun _ => ?_) (fun h => absurd rfl h)
                have il : lr r t (m + 1) i acc = .error b := by simp only [lr, hc, hk1, hc', if_neg d1, if_neg d2, e]
                rw [← inv, il] at kk
                exact kk _ _ s04 rfl
              | ok z =>
                obtain ⟨g, e2⟩ := z
                rw [e] at res bd
                dsimp only at res bd
                have ps : k1 + 1 ≤ e2 := by
                  obtain ⟨n', hn'⟩ : ∃ n', t.length = n' + 1 := ⟨t.length - 1, by omega⟩
                  rw [hn'] at e
                  exact lw_pos hc' d3 e
                have il : lr r t (m + 1) i acc = lr r t m e2 (acc ++ [(g, k1, e2)]) := by simp only [lr, hc, hk1, hc', if_neg d1, if_neg d2, e]
                have g1 := s4 _ _ f1
                have g2 := s4 _ _ f2
                refine ⟨p0, rfl, _, .inl (.inl res), rfl, _, _, rfl, _, _, rfl, rfl, ?_⟩
                refine ite2 (fun h => by cases h) (fun _ => ?_)
                refine ⟨.inl ⟨rfl, _, .inl (.inl g1)⟩, _, g1, ?_, ?_⟩
                · rw [List.length_map, List.length_map]
                  exact Nat.lt_of_le_of_lt (show acc.length ≤ 1000 by omega) (by decide)
                have S5 : Same H (upd H4 l1 (HO.lst ((acc.map (·.1)).map sV ++ [V.str (S g)]))) := Same.mut s04 hl1
                have T5 : Tk H4 (upd H4 l1 (HO.lst ((acc.map (·.1)).map sV ++ [V.str (S g)]))) := kp_upd.tk g1 fun _ z => by cases z
                have h51 : upd H4 l1 (HO.lst ((acc.map (·.1)).map sV ++ [V.str (S g)])) l1 = some (HO.lst ((acc.map (·.1)).map sV ++ [V.str (S g)])) := upd_same
                have h52 : upd H4 l1 (HO.lst ((acc.map (·.1)).map sV ++ [V.str (S g)])) l2 = some (HO.lst ys) := by rw [upd_ne (Ne.symm n12)]; exact g2
                generalize upd H4 l1 (HO.lst ((acc.map (·.1)).map sV ++ [V.str (S g)])) = H5 at *
                refine ⟨.inl ⟨rfl, _, .inl (.inl h52)⟩, fun p hp => ?_⟩
                have S6 := same_new (o := HO.tup [V.int k1, V.int e2]) hp
                have hp0' : H p = none := S5.free hp
                have h6p : upd H5 p (HO.tup [V.int k1, V.int e2]) p = some (HO.tup [V.int k1, V.int e2]) := upd_same
                have h61 := S6 _ _ h51
                have h62 := S6 _ _ h52
                have n2p : l2 ≠ p := ne_of_none h52 hp
                generalize upd H5 p (HO.tup [V.int k1, V.int e2]) = H6 at *
                have S06 : Same H H6 := S5.trans S6
                have T7 : Tk H6 (upd H6 l2 (HO.lst (ys ++ [V.ref p]))) := kp_upd.tk h62 fun _ z => by cases z
                refine ⟨_, h62, ?_, t.length - e2, by omega, Same.mut S06 hl2', e2, rfl, rfl, by omega, m, by omega, acc ++ [(g, k1, e2)], ?_, ?_, ?_, by rw [← il, inv]⟩
                · rw [f3.length, List.length_map]
                  exact Nat.lt_of_le_of_lt (show acc.length ≤ 1000 by omega) (by decide)
                · rw [List.length_append]
                  simp only [List.length_cons, List.length_nil]
                  omega
                · rw [upd_ne n12, h61, List.map_append, List.map_append]
                  rfl
                · rw [List.map_append]
                  refine Paired.app (Paired.mapP f3 fun _ _ z => z.mono fun b xs q => T7 _ _ (S6 _ _ (T5 _ _ (s4 _ _ q)))) (.cons ⟨p, rfl, T7 _ _ h6p⟩ .nil)
            · have d2 : c' ∈ r.note := Classical.byContradiction d2
              have il : lr r t (m + 1) i acc = lr r t m k1 acc := by simp only [lr, hc, hk1, hc', if_neg d1, if_pos d2]
              have ki : i < k1 := by
                by_cases h : r.note = [c]
                · rw [if_pos h] at hk1; omega
                · rw [if_neg h] at hk1
                  subst hk1
                  rw [hc] at hc'
                  cases hc'
                  have l5 := ok.l5
                  match hnn : r.note, d2, l5 with
                  | [x], d2, _ => rw [List.mem_singleton.mp d2] at h; exact absurd hnn h
              exact ⟨t.length - k1, by omega, s3, k1, rfl, rfl, by omega, m, by omega, acc, by omega, f1, ys, f2, f3, by rw [← il, inv]⟩
        · rw [if_neg (by omega)]
          refine ⟨sz, ?_⟩
          rw [if_neg (by omega)]
          have hn : t[k1]? = none := List.getElem?_eq_none_iff.mpr (by omega)
          have il : lr r t (m + 1) i acc = lr r t m k1 acc := by
            simp only [lr, hc, hk1, hn]
            cases m <;> simp [lr, hn]
          exact ⟨t.length - k1, by omega, s3, k1, rfl, rfl, by omega, m, by omega, acc, by omega, f1, ys, f2, f3, by rw [← il, inv]⟩
    · rw [decide_eq_false (by omega)]
      refine hF _ ?_
      have hn : t[i]? = none := List.getElem?_eq_none_iff.mpr (by omega)
      have e : lr r t m i acc = .ok acc := by cases m <;> simp [lr, hn]
      rw [← inv, e] at kk
      walk_at "rd"
      intro p hp
      have s4 := same_new (o := HO.tup [V.ref l1, V.ref l2]) hp
      exact kk _ _ (s3.trans s4) ⟨p, l1, l2, ys, rfl, s3.free hp, hl1, hl2', n12, upd_same, s4 _ _ f1, s4 _ _ f2, Paired.mapP f3 fun _ _ z => z.mono fun b xs => s4 b _⟩
theorem ty_Words (T : Txt K mg a) {H : Hp} {p dx : Addr} {fs : List (Str × V)} (h : H p = some (.ins a.c_Words dx fs)) : TyX K H (.ref p) (.ref a.c_Words) :=
  .base (.ins h T.c_Words.cl T.i_Words.ha T.i_Words.hn T.i_Words.ht T.i_Words.hm)
theorem ty_Fault (T : Txt K mg a) {H : Hp} {p dx : Addr} {fs : List (Str × V)} (h : H p = some (.ins a.c_Fault dx fs)) : TyX K H (.ref p) (.ref a.c_Fault) :=
  .base (.ins h T.c_Fault.cl T.i_Fault.ha T.i_Fault.hn T.i_Fault.ht T.i_Fault.hm)
end
end Qw

set_option Elab.async false
set_option linter.all false
set_option maxRecDepth 100000
set_option maxHeartbeats 4000000
namespace Qw
open PySem L2
/-! pieces of lists and texts, comprehensions told by a relation (for the laws but k01, where QwLawD and QwLawE hold them) -/
theorem cut_from (xs : List V) (k : Nat) : cutV xs (some (k : Int)) none = xs.drop k := by
  unfold cutV
  rw [HT.sIx_nat, HT.sIx_none]
  rcases Nat.le_total k xs.length with h | h
  · rw [Nat.min_eq_left h]
    exact List.take_of_length_le (by rw [List.length_drop]; exact Nat.le_refl _)
  · rw [Nat.min_eq_right h, List.drop_eq_nil_of_le (Nat.le_refl _), List.drop_eq_nil_of_le h]
    simp
theorem cutS_from (l : Tx) (k : Nat) : cutS (S l) (some (k : Int)) none = S (l.drop k) := by
  unfold cutS
  rw [S_len, HT.sIx_nat, HT.sIx_none]
  rcases Nat.le_total k l.length with h | h
  · rw [Nat.min_eq_left h]
    refine congrArg S ?_
    exact List.take_of_length_le (by rw [List.length_drop]; exact Nat.le_refl _)
  · rw [Nat.min_eq_right h]
    refine congrArg S ?_
    show (l.drop l.length).take _ = _
    rw [List.drop_eq_nil_of_le (Nat.le_refl _), List.drop_eq_nil_of_le h]
    simp
theorem cut_to (xs : List V) (k : Nat) : cutV xs none (some (k : Int)) = xs.take k := by
  unfold cutV
  rw [HT.sIx_nat, HT.sIx_none, List.drop_zero, Nat.sub_zero]
  rcases Nat.le_total k xs.length with h | h
  · rw [Nat.min_eq_left h]
  · rw [Nat.min_eq_right h, List.take_of_length_le (Nat.le_refl _), List.take_of_length_le h]
theorem Paired.rev {α β : Type} {F : α → β → Prop} : ∀ {l : List α} {m : List β}, Paired F l m → Paired F l.reverse m.reverse
  | _, _, .nil => .nil
  | _, _, .cons r t => by
    rw [List.reverse_cons, List.reverse_cons]
    exact Paired.app (Paired.rev t) (.cons r .nil)
theorem Paired.drop' {α β : Type} {F : α → β → Prop} : ∀ {l : List α} {m : List β} (k : Nat), Paired F l m → Paired F (l.drop k) (m.drop k)
  | _, _, 0, h => h
  | _, _, _ + 1, .nil => .nil
  | _, _, k + 1, .cons _ t => Paired.drop' k t
theorem Paired.take' {α β : Type} {F : α → β → Prop} : ∀ {l : List α} {m : List β} (k : Nat), Paired F l m → Paired F (l.take k) (m.take k)
  | _, _, 0, _ => by simp only [List.take_zero]; exact .nil
  | _, _, _ + 1, .nil => .nil
  | _, _, k + 1, .cons r t => .cons r (Paired.take' k t)
theorem kp_free {st p : Addr} {H H' : Hp} {o : HO} (k : Kp st H H') (hs : H' st = some o) (hp : H' p = none) : H p = none := by
  cases e : H p with
  | none => rfl
  | some u =>
    have := k _ _ e fun z => by rw [z, hs] at hp; cases hp
    rw [hp] at this; cases this
theorem fresh_ne {H : Hp} {p st : Addr} {o : HO} (hs : H st = some o) (hp : H p = none) : p ≠ st := Ne.symm (ne_of_none hs hp)
theorem cutS_to (l : Tx) (k : Nat) : cutS (S l) none (some (k : Int)) = S (l.take k) := by
  unfold cutS
  rw [S_len, HT.sIx_nat, HT.sIx_none]
  rcases Nat.le_total k l.length with h | h
  · rw [Nat.min_eq_left h]
    rfl
  · rw [Nat.min_eq_right h]
    refine congrArg S ?_
    show (l.drop 0).take _ = _
    rw [List.drop_zero, Nat.sub_zero, List.take_of_length_le (Nat.le_refl _), List.take_of_length_le h]
theorem lc_rel {α : Type} {J : It} {G : Hp → Prop} {Y : Nat → Hp → V → Hp → Prop} {g : TG} {tt : TT} {te : TE} {vs : List Nat} {σ : St} {H1 : Hp} {D : Addr} {Qd : Hp → Prop}
    (as : List α) (F : Hp → V → α → Prop) (mono : ∀ {p : Addr} {H H' : Hp} {v : V} {x : α}, Kp p H H' → (∃ xs, H p = some (.lst xs)) → F H v x → F H' v x)
    (w : Walk J as.length G Y) (hz : as.length ≤ 1000000) (h1 : H1 D = none) (hG : ∀ H, Same H1 H → G H)
    (hs : ∀ (R : VK) (R' : Hp → Prop) i a x H H', as[i]? = some a → Same H1 H → Y i H x H' → (∀ y H4, Same H H4 → F H4 y a → R y H4) →
      g x (wipe σ vs) H' fun σ2 H2 => wipe σ2 vs = wipe σ vs ∧ tt σ2 H2 fun b H3 => if b = true then te σ2 H3 R else R' H3)
    (hd : ∀ H ys, Same H1 H → H D = some (.lst ys) → Paired (F H) ys as → Qd H) :
    ∃ W : Nat → Nat → Hp → Prop, (∃ m, W 0 m (upd H1 D (.lst []))) ∧ ∀ i m H, W i m H →
      (J.stop i H ∧ Qd H) ∨ (J.go i H ∧ ∃ Nx : Hp → Prop, (∀ H', Nx H' → ∃ m', m' < m ∧ W (i + 1) m' H') ∧ ∀ x H', J.yld i H x H' → g x (wipe σ vs) H' fun σ2 H2 => wipe σ2 vs = wipe σ vs ∧ tt σ2 H2 fun b H3 =>
        if b = true then te σ2 H3 fun y H4 => ∃ acc, H4 D = some (.lst acc) ∧ acc.length < sizeLine ∧ Nx (upd H4 D (.lst (acc ++ [y]))) else Nx H3) := by
  refine lc_it w (fun i H => Same H1 H ∧ ∃ ys, H D = some (.lst ys) ∧ Paired (F H) ys (as.take i)) ⟨same_new h1, [], upd_same, by simp only [List.take_zero]; exact .nil⟩ (fun _ H _ p => hG H p.1) ?_ fun H p => by
    obtain ⟨p1, ys, p2, p3⟩ := p
    rw [List.take_length] at p3
    exact hd H ys p1 p2 p3
  rintro i x H H' hi ⟨p1, ys, p2, p3⟩ y
  obtain ⟨a, ha⟩ : ∃ a, as[i]? = some a := ⟨as[i], List.getElem?_eq_getElem hi⟩
  refine hs _ _ i a x H H' ha p1 y fun z H4 s4 f4 => ⟨_, s4 _ _ p2, ?_, ?_, _, upd_same, ?_⟩
  · rw [p3.length, List.length_take]
    exact Nat.lt_of_lt_of_le (show min i as.length < 1000001 by omega) (by decide)
  · exact Same.mut (p1.trans s4) h1
  · have kq : Kp D H4 (upd H4 D (.lst (ys ++ [z]))) := kp_upd
    rw [take_at ha]
    exact Paired.app (Paired.mapP p3 fun _ _ f => mono kq ⟨_, s4 _ _ p2⟩ (mono (s4.kp D) ⟨_, p2⟩ f)) (.cons (mono kq ⟨_, s4 _ _ p2⟩ f4) .nil)
theorem tlc_all {ι : Type} {C : ι → Prop} {J : ι → It} {H1 : ι → Hp} {wi : TI} {g : TG} {tt : TT} {te : TE} {vs : List Nat} {σ : St} {H : Hp} {Q : VK} (hw : ∀ R : It → Hp → Prop, (∀ x, C x → R (J x) (H1 x)) → wi σ H R)
    (h2 : ∀ x, C x → ∀ D, H1 x D = none → ∃ W : Nat → Nat → Hp → Prop, (∃ m, W 0 m (upd (H1 x) D (.lst []))) ∧ ∀ i m H, W i m H →
      ((J x).stop i H ∧ Q (.ref D) H) ∨ ((J x).go i H ∧ ∃ Nx : Hp → Prop, (∀ H', Nx H' → ∃ m', m' < m ∧ W (i + 1) m' H') ∧ ∀ y H', (J x).yld i H y H' → g y (wipe σ vs) H' fun σ2 H2 => wipe σ2 vs = wipe σ vs ∧ tt σ2 H2 fun b H3 =>
        if b = true then te σ2 H3 fun y H4 => ∃ acc, H4 D = some (.lst acc) ∧ acc.length < sizeLine ∧ Nx (upd H4 D (.lst (acc ++ [y]))) else Nx H3)) : tLc wi g tt te vs σ H Q := hw _ h2
end Qw

set_option Elab.async false
set_option linter.all false
set_option maxRecDepth 100000
set_option maxHeartbeats 4000000
namespace Qw
open PySem L2
local macro_rules | `(tactic| walk_at "rd") => `(tactic| simp only [iEnum, iRng3, tRevL, rSlS, rSlL, gSub, rSetL, wipe, List.map_cons, List.map_nil, rAll, rAny, rIsi, tM1, tM0, iZipLT, iZip, iRng2, tLenSetS, rListStr, rMulS, rRep, rCntB, tRevS, rNeD, rEqD, tSeq, tNext, tAsg, tRet, tRetN, tDrop, tIfS, sFld, sFldAug, tVar, tC, tOp, tUn, tTest, tB, tAnd, tOr, tNot, tAndV, tOrV, tNotV, tIf, tTup, tLst, tCons, tNil, tCB, tCall, tMeth, tMake, tFld, rI, rI0, rU, rEq, rNe, rCat, gName, gTup, gCons, gNil, tPar, tPar3, tBM, tBM0, rAppend, rExtend, rPopAt, rIxL, rIxT, rIxS, tSl, rSlS, rSlL, tPart, tNoPart, iStr, iTup, iList, iRng1, tAug, ipI, L2.rAdd, L2.rSub, L2.rAddS, tChain, rIsB, rNotB, scal_ss, scal_ii, scal_bb, scal_nn, scal_in, scal_ni, tYes,
  cx_K, cx_N, List.getElem?_cons_zero, List.getElem?_cons_succ, List.set_cons_zero, List.set_cons_succ, List.nil_append, List.cons_append, List.append_nil, List.length_cons, List.length_nil, Nat.zero_add,
  Option.some.injEq, V.ref.injEq, V.int.injEq, V.str.injEq, V.bl.injEq, HO.ins.injEq, HO.lst.injEq, HO.tup.injEq, List.cons.injEq, exists_eq_left, exists_eq_left', exists_eq_right, exists_eq_right', and_true, true_and, exists_and_left, exists_and_right, and_assoc, decide_eq_true_eq, Bool.not_eq_true', decide_eq_false_iff_not, reduceCtorEq, exists_const, forall_const, if_true, if_false, false_and, and_false, ite_true, ite_false, Bool.true_eq_false, Bool.false_eq_true, Nat.reduceLeDiff, Nat.reduceAdd, small_line, small_lt, upd_ne, ne_eq, not_false_eq_true, Nat.zero_le, Prod.mk.injEq, upd_same, upd_upd, S_tl, S_len, S_app, S_one, S_inj,
  lk_breaks, lk_hard, lk_soft, lk_bend, lk_note, lk_rules, lk_state, lk_bent, lk_word, lk_begun, lk_opened, lk_place, pt_state, pt_bent, pt_word, pt_wordS, pt_wordN, pt_begun, pt_opened, pt_place, pt_place1, len_mf, litv_empty, litv_note, litv_nl, mf_inj, rf_inj, lkn_begin, lkn_ended, lkn_plain, lkn_quoted, lkn_step, lkn_fault, lkn_key, lkn_told, lkn_quotes, lkn_special, pt_open1, not_true_eq_false, not_false_eq_true])
local macro_rules | `(tactic| walk_at "rdh") => `(tactic| simp only [iEnum, iRng3, tRevL, rSlS, rSlL, gSub, rSetL, wipe, List.map_cons, List.map_nil, rAll, rAny, rIsi, tM1, tM0, iZipLT, iZip, iRng2, tLenSetS, rListStr, rMulS, rRep, rCntB, tRevS, rNeD, rEqD, tSeq, tNext, tAsg, tRet, tRetN, tDrop, tIfS, sFld, sFldAug, tVar, tC, tOp, tUn, tTest, tB, tAnd, tOr, tNot, tAndV, tOrV, tNotV, tIf, tTup, tLst, tCons, tNil, tCB, tCall, tMeth, tMake, tFld, rI, rI0, rU, rEq, rNe, rCat, gName, gTup, gCons, gNil, tPar, tPar3, tBM, tBM0, rAppend, rExtend, rPopAt, rIxL, rIxT, rIxS, tSl, rSlS, rSlL, tPart, tNoPart, iStr, iTup, iList, iRng1, tAug, ipI, L2.rAdd, L2.rSub, L2.rAddS, tChain, rIsB, rNotB, scal_ss, scal_ii, scal_bb, scal_nn, scal_in, scal_ni, tYes,
  cx_K, cx_N, List.getElem?_cons_zero, List.getElem?_cons_succ, List.set_cons_zero, List.set_cons_succ, List.nil_append, List.cons_append, List.append_nil, List.length_cons, List.length_nil, Nat.zero_add,
  Option.some.injEq, V.ref.injEq, V.int.injEq, V.str.injEq, V.bl.injEq, HO.ins.injEq, HO.lst.injEq, HO.tup.injEq, List.cons.injEq, exists_eq_left, exists_eq_left', exists_eq_right, exists_eq_right', and_true, true_and, exists_and_left, exists_and_right, and_assoc, decide_eq_true_eq, Bool.not_eq_true', decide_eq_false_iff_not, reduceCtorEq, exists_const, forall_const, if_true, if_false, false_and, and_false, ite_true, ite_false, Bool.true_eq_false, Bool.false_eq_true, Nat.reduceLeDiff, Nat.reduceAdd, small_line, small_lt, upd_ne, ne_eq, not_false_eq_true, Nat.zero_le, Prod.mk.injEq, upd_same, upd_upd, S_tl, S_len, S_app, S_one, S_inj,
  lk_breaks, lk_hard, lk_soft, lk_bend, lk_note, lk_rules, lk_state, lk_bent, lk_word, lk_begun, lk_opened, lk_place, pt_state, pt_bent, pt_word, pt_wordS, pt_wordN, pt_begun, pt_opened, pt_place, pt_place1, len_mf, litv_empty, litv_note, litv_nl, mf_inj, rf_inj, lkn_begin, lkn_ended, lkn_plain, lkn_quoted, lkn_step, lkn_fault, lkn_key, lkn_told, lkn_quotes, lkn_special, pt_open1, not_true_eq_false, not_false_eq_true, *])
local macro_rules | `(tactic| walk_at "pl") => `(tactic| (first | decide | (refine Nat.lt_of_le_of_lt (length_putF _ _ _) ?_; repeat (first | decide | refine pl2 ?_))))
local macro_rules | `(tactic| walk_at "al") => `(tactic| (intro p hp; generalize hH : upd _ p _ = H1; obtain ⟨S, e⟩ := gen_new hH hp; clear hH))
/-! ### states, costs -/
abbrev So := Option Nat
def sT : So → Tx
  | none => []
  | some q => [q]
def RS.sts (r : RS) : List So := none :: r.quotes.map some
def RS.spec (r : RS) : Tx := r.breaks ++ (r.quotes ++ (r.bend ++ r.note))
def costT (r : RS) : So → Nat → Option Nat
  | none, c => if c ∈ r.spec then (if r.bend ≠ [] then some 2 else none) else some 1
  | some q, c => if q ∈ r.hard then (if c ≠ q then some 1 else none) else if c ≠ q ∧ c ∉ r.bend then some 1 else if r.bend ≠ [] then some 2 else none
theorem few_q {r : RS} (ok : r.Ok) : r.hard.length + r.soft.length ≤ 100 := by have h1 := ok.l2; have h2 := ok.l3; omega
theorem line_le {n : Nat} (h : n ≤ 1000) : n ≤ sizeLine := Nat.le_trans h (by decide)
theorem RS.quotes_len {r : RS} (ok : r.Ok) : r.quotes.length ≤ 4 := by have h1 := ok.l2; have h2 := ok.l3; simp only [RS.quotes, List.length_append]; omega
/-- the lesser of the plain number and one more than any quoted one -/
def lowT (x : Nat) (xs : List Nat) : Nat := xs.foldl (fun m y => min m (y + 1)) x
theorem low_spec : ∀ (xs : List Nat) (x : Nat), lowT x xs ≤ x ∧ (∀ y ∈ xs, lowT x xs ≤ y + 1) ∧ (lowT x xs = x ∨ ∃ y ∈ xs, lowT x xs = y + 1)
  | [], x => ⟨Nat.le_refl _, fun y h => by simp at h, .inl rfl⟩
  | z :: xs, x => by
    obtain ⟨h1, h2, h3⟩ := low_spec xs (min x (z + 1))
    have e : lowT x (z :: xs) = lowT (min x (z + 1)) xs := rfl
    rw [e]
    refine ⟨by omega, fun y hy => ?_, ?_⟩
    · rcases List.mem_cons.mp hy with rfl | hy
      · omega
      · exact h2 y hy
    · rcases h3 with h | ⟨y, hy, h⟩
      · by_cases q : x ≤ z + 1
        · exact .inl (by omega)
        · exact .inr ⟨z, List.mem_cons_self, by omega⟩
      · exact .inr ⟨y, List.mem_cons_of_mem _ hy, h⟩
def enteredT : List Nat → List Nat
  | [] => []
  | x :: xs => lowT x xs :: xs.map fun y => min y (lowT x xs + 1)
section
variable {P : Program} {w : World} {K : PySem.W.Frag} {mg : Str → Option Value} {base : Heap} {a : Ad}
def sp_special (a : Ad) : Sp := fun vs H Q _ => ∃ p dr r c, vs = [.ref p, .str (S [c])] ∧ H p = some (.ins a.c_Rules dr (RS.f r)) ∧ r.Ok ∧ ∀ H', Same H H' → Q (.bl (decide (c ∈ r.spec))) H'
theorem ok_Rules_special (T : Txt K mg a) : FnOk P w K mg base CX0 2 a.f_Rules_special a.d_Rules_special P_Rules_special (sp_special a) := by
  refine T.F_Rules_special.ok sc_Rules_special (fun vs H Q E h => ?_) (fun cdv A outer s H vs Q E hr h => ?_)
  · obtain ⟨p, dr, r, c, rfl, _⟩ := h
    rfl
  · obtain ⟨p, dr, r, c, rfl, hR, ok, k⟩ := h
    have G_Rules_quotes := ok_Rules_quotes (P := P) (w := w) (base := base) T
    have B_Rules_quotes := bi_Rules_quotes T
    refine ⟨_,
(pss_one (ps_ret (pe_cmpR op_in_sign (pv 1) (pe_op op_add_str (pe_op op_add_str (pe_op op_add_str (pe_fld (pv 0) rfl) (pe_meth0 (pv 0) T.c_Rules.cl T.m_Rules_quotes G_Rules_quotes (hr.mono (by decide)) B_Rules_quotes .nil pass0)) (pe_fld (pv 0) rfl)) (pe_fld (pv 0) rfl)) rfl)))
      , ?_⟩
    rw [show start N_Rules_special [V.ref p, V.str (S [c])] = [some (.ref p), some (.str (S [c]))] from rfl]
    have hc := T.c_Rules.cl
    have n1 := T.n_Rules_breaks
    have n2 := T.n_Rules_hard
    have n4 := T.n_Rules_bend
    have n5 := T.n_Rules_note
    walk_at "rdh"
    have l1 := ok.l1
    have l4 := ok.l4
    have l5 := ok.l5
    have l6 := r.quotes_len ok
    refine ⟨p, dr, r, rfl, hR, few_q ok, ?_⟩
    walk_at "rdh"
    have k := k H (Same.refl H)
    rw [show r.spec = r.breaks ++ r.quotes ++ r.bend ++ r.note by simp [RS.spec]] at k
    refine ⟨line_le (by omega), line_le (by simp only [List.length_append]; omega), line_le (by simp only [List.length_append]; omega), k⟩
def sp_states_of (a : Ad) : Sp := fun vs H Q _ => ∃ p dr r, vs = [.ref p] ∧ H p = some (.ins a.c_Rules dr (RS.f r)) ∧ r.Ok ∧ ∀ l H', H l = none → Same H H' → H' l = some (.lst (r.sts.map fun s => .str (S (sT s)))) → Q (.ref l) H'
theorem ok_states_of (T : Txt K mg a) : FnOk P w K mg base CX0 2 a.f_states_of a.d_states_of P_states_of (sp_states_of a) := by
  refine T.F_states_of.ok sc_states_of (fun vs H Q E h => ?_) (fun cdv A outer s H vs Q E hr h => ?_)
  · obtain ⟨p, dr, r, rfl, _⟩ := h
    rfl
  · obtain ⟨p, dr, r, rfl, hR, ok, k⟩ := h
    have G_Rules_quotes := ok_Rules_quotes (P := P) (w := w) (base := base) T
    have B_Rules_quotes := bi_Rules_quotes T
    refine ⟨_,
(pss_one (ps_ret (pe_op op_cat (pe_lst (pa_cons (pe_glob (v := .str ("" : Str)) rfl T.g_LOOSE ⟨_, rfl⟩) pa_nil)) (pe_callTy (call_list_str rfl) (by rfl) T.b_list (by decide +kernel) (pa_cons (pe_meth0 (pv 0) T.c_Rules.cl T.m_Rules_quotes G_Rules_quotes (hr.mono (by decide)) B_Rules_quotes .nil pass0) pa_nil)))))
      , ?_⟩
    rw [show start N_states_of [V.ref p] = [some (.ref p)] from rfl]
    walk_at "rd"
    intro p1 hp1
    have S1 := same_new (o := HO.lst [V.str (S [])]) hp1
    have e1 : upd H p1 (HO.lst [V.str (S [])]) p1 = some (HO.lst [V.str (S [])]) := upd_same
    generalize upd H p1 (HO.lst [V.str (S [])]) = H1 at *
    refine ⟨dr, _, S1 _ _ hR, lkn_quotes r, p, dr, r, rfl, S1 _ _ hR, few_q ok, r.quotes, rfl, Nat.le_trans (r.quotes_len ok) (by decide), ?_⟩
    walk_at "al"
    rename_i p2 hp2 H2 S2 e2
    refine ⟨_, S2 _ _ e1, ?_, ?_⟩
    · rw [List.length_map]; exact line_le (by have := r.quotes_len ok; simp only [List.length_cons, List.length_nil]; omega)
    walk_at "al"
    rename_i p3 hp3 H3 S3 e3
    refine k p3 H3 ((S1.trans S2).free hp3) ((S1.trans S2).trans S3) ?_
    rw [e3]
    simp [RS.sts, sT]
def oI : Option Nat → V
  | none => .non
  | some n => .int n
def sp_cost_of (a : Ad) : Sp := fun vs H Q _ => ∃ p dr r s c, vs = [.ref p, .str (S (sT s)), .str (S [c])] ∧ H p = some (.ins a.c_Rules dr (RS.f r)) ∧ r.Ok ∧ ∀ H', Same H H' → Q (oI (costT r s c)) H'
theorem ok_cost_of (T : Txt K mg a) : FnOk P w K mg base CX0 3 a.f_cost_of a.d_cost_of P_cost_of (sp_cost_of a) := by
  refine T.F_cost_of.ok sc_cost_of (fun vs H Q E h => ?_) (fun cdv A outer s H vs Q E hr h => ?_)
  · obtain ⟨p, dr, r, st, c, rfl, _⟩ := h
    rfl
  · obtain ⟨p, dr, r, st, c, rfl, hR, ok, k⟩ := h
    have G_Rules_special := ok_Rules_special (P := P) (w := w) (base := base) T
    have B_Rules_special := bi_Rules_special T
    refine ⟨_,
(pss_cons (ps_if (pt_cmpR op_eq (pv 1) (pe_glob (v := .str ("" : Str)) rfl T.g_LOOSE ⟨_, rfl⟩) (nomark _)) (pss_cons (ps_if (pt_not (pt_val (pe_meth (pv 0) T.c_Rules.cl T.m_Rules_special G_Rules_special (hr.mono (by decide)) B_Rules_special .nil pass0 (pa_cons (pv 2) pa_nil)))) (pss_one (ps_ret pe_int)) pss_nil)
    (pss_one (ps_ret (pe_ifExp (pt_cmpR op_ne (pe_fld (pv 0) rfl) pe_str (nomark _)) pe_int pe_non)))) pss_nil)
    (pss_cons (ps_if (pt_cmpR op_in_sign (pv 1) (pe_fld (pv 0) rfl) rfl) (pss_one (ps_ret (pe_ifExp (pt_cmpR op_ne (pv 2) (pv 1) (nomark _)) pe_int pe_non))) pss_nil)
    (pss_cons (ps_if (PW.pt (pw_and (pt_cmpR op_ne (pv 2) (pv 1) (nomark _)) (pw_and1 (pt_cmpR op_notIn_sign (pv 2) (pe_fld (pv 0) rfl) rfl)))) (pss_one (ps_ret pe_int)) pss_nil)
    (pss_one (ps_ret (pe_ifExp (pt_cmpR op_ne (pe_fld (pv 0) rfl) pe_str (nomark _)) pe_int pe_non))))))
      , ?_⟩
    rw [show start N_cost_of [V.ref p, V.str (S (sT st)), V.str (S [c])] = [some (.ref p), some (.str (S (sT st))), some (.str (S [c]))] from rfl]
    have hc := T.c_Rules.cl
    have n1 := T.n_Rules_breaks
    have n2 := T.n_Rules_hard
    have n4 := T.n_Rules_bend
    have n5 := T.n_Rules_note
    walk_at "rdh"
    cases st with
    | none =>
      refine ite2 (fun _ => ?_) (fun c => absurd rfl c)
      refine ⟨p, dr, r, c, rfl, hR, ok, fun H' s1 => ?_⟩
      have hR' := s1 _ _ hR
      walk_at "rdh"
      have k := k H' s1
      simp only [costT] at k
      by_cases h1 : c ∈ r.spec
      · by_cases h2 : r.bend = []
        · simpa [h1, h2, oI] using k
        · simpa [h1, h2, oI] using k
      · simpa [h1, oI] using k
    | some q =>
      refine ite2 (fun c => absurd c (by intro z; cases z)) (fun _ => ?_)
      refine ⟨q, rfl, ?_⟩
      have k := k H (Same.refl H)
      simp only [costT] at k
      by_cases h0 : q ∈ r.hard
      · by_cases h1 : c = q
        · simpa [h0, h1, oI, sT] using k
        · simpa [h0, h1, oI, sT] using k
      · by_cases h1 : c = q
        · by_cases h2 : r.bend = []
          · simpa [h0, h1, h2, oI, sT] using k
          · simpa [h0, h1, h2, oI, sT] using k
        · by_cases h3 : c ∈ r.bend
          · by_cases h2 : r.bend = []
            · simpa [h0, h1, h2, h3, oI, sT] using k
            · simpa [h0, h1, h2, h3, oI, sT] using k
          · simpa [h0, h1, h3, oI, sT] using k
def sp_entered : Sp := fun vs H Q _ => ∃ (l : Addr) (row : List Nat), vs = [.ref l] ∧ H l = some (.lst (row.map fun n => .int (n : Nat))) ∧ row ≠ [] ∧ row.length ≤ 100 ∧ ∀ l' H', H l' = none → Same H H' → H' l' = some (.lst ((enteredT row).map fun n => .int (n : Nat))) → Q (.ref l') H'
theorem ok_entered (T : Txt K mg a) : FnOk P w K mg base CX0 1 a.f_entered a.d_entered P_entered sp_entered := by
  refine T.F_entered.ok sc_entered (fun vs H Q E h => ?_) (fun cdv A outer s H vs Q E hr h => ?_)
  · obtain ⟨l, row, rfl, _⟩ := h
    rfl
  · obtain ⟨l, row, rfl, hl, ne, ln, k⟩ := h

    refine ⟨_,
(pss_cons (ps_set (i := 1) sc_entered.nd rfl (by first | exact Or.inl rfl | exact Or.inr rfl) (pe_callB (cr_min rfl) (by rfl) T.b_min (by decide +kernel) (pa_cons (pe_op op_cat (pe_lst (pa_cons (pe_ix ix_list (pv 0) pe_int (fun _ _ => rfl)) pa_nil)) (pe_lc (own := [("number", 2)]) (g := gName 2) (tt := tYes) rfl sc_entered.nd (pi_list (pe_slice sl_list (pv 0) (po_some pe_int) po_none)) (blkOk_by (own := [("number", 2)]) (N := N_entered) (sc := defScope st_entered) (by decide +kernel)) (fun _ _ _ _ _ => (pg_name (i := 2) sc_entered.nd rfl (by first | exact Or.inl rfl | exact Or.inr rfl))) (fun _ _ _ _ _ => pts_nil) (fun _ _ _ _ _ => (pe_op op_add (pv 2) pe_int)))) pa_nil)))
    (pss_one (ps_ret (pe_op op_cat (pe_lst (pa_cons (pv 1) pa_nil)) (pe_lc (own := [("number", 2)]) (g := gName 2) (tt := tYes) rfl sc_entered.nd (pi_list (pe_slice sl_list (pv 0) (po_some pe_int) po_none)) (blkOk_by (own := [("number", 2)]) (N := N_entered) (sc := defScope st_entered) (by decide +kernel)) (fun _ _ _ _ _ => (pg_name (i := 2) sc_entered.nd rfl (by first | exact Or.inl rfl | exact Or.inr rfl))) (fun _ _ _ _ _ => pts_nil) (fun _ _ _ _ _ => (pe_callB ((call_min2 rfl)) (by rfl) T.b_min (by decide +kernel) (pa_cons (pv 2) (pa_cons (pe_op op_add (pv 1) pe_int) pa_nil)))))))))
      , ?_⟩
    rw [show start N_entered [V.ref l] = [some (.ref l), none, none] from rfl]
    walk_at "rd"
    have hl0 : SqL K H l (row.map fun n => V.int (n : Nat)) := .inl (.inl hl)
    obtain ⟨x0, xs, rfl⟩ : ∃ x xs, row = x :: xs := by
      cases row with
      | nil => exact absurd rfl ne
      | cons x xs => exact ⟨x, xs, rfl⟩
    refine ⟨_, hl0, .int (x0 : Nat), atI_nat (j := 0) rfl, ?_⟩
    walk_at "al"
    rename_i p1 hp1 H1 S1 e1
    have cutr : ∀ {n : Int}, n = 1 → cutV ((x0 :: xs).map fun n => V.int (n : Nat)) (some n) none = xs.map fun n => V.int (n : Nat) := fun h => by
      subst h
      exact (cut_from _ 1).trans rfl
    refine tlc_all (ι := Addr × Hp) (C := fun z => z.2 z.1 = some (.lst (xs.map fun n => V.int (n : Nat))) ∧ Same H1 z.2) (J := fun z => Itl K z.1) (H1 := fun z => z.2) (fun R hR => ?_) fun z hz D hD => ?_
    · walk_at "rd"
      refine ⟨_, .inl (.inl (S1 _ _ hl)), ?_⟩
      rw [cutr rfl]
      walk_at "al"
      rename_i p2 hp2 H2 S2 e2
      exact ⟨⟨_, .inl (.inl e2)⟩, hR (p2, H2) ⟨e2, S2⟩⟩
    obtain ⟨p2, H2⟩ := z
    obtain ⟨e2, S2⟩ := hz
    dsimp only at e2 S2 hD
    refine lc_map xs (fun n => .int ((n + 1 : Nat))) (G := fun H => SqL K H p2 (xs.map fun n => V.int (n : Nat))) (List.length_map _ ▸ walk_list) (by simp only [List.length_cons] at ln; omega) hD (fun H s => .inl (.inl (s _ _ e2))) ?_ ?_
    · rintro R R' i n x H3 H3' hi s3 ⟨rfl, hx⟩ hR
      rw [List.getElem?_map, hi] at hx
      cases hx
      walk_at "rdh"
      exact hR _ (Same.refl _)
    intro H3 s3 e3
    have e1' := s3 _ _ (S2 _ _ e1)
    walk_at "rdh"
    simp only [List.length_cons] at ln
    refine ⟨by rw [List.length_map]; exact line_le (by omega), ?_⟩
    walk_at "al"
    rename_i p4 hp4 H4 S4 e4
    have hlow := low_spec xs x0
    refine ⟨p4, (x0 : Int) :: xs.map fun n => ((n + 1 : Nat) : Int), rfl, .inl (.inl (by rw [e4, List.map_cons, List.map_map]; rfl)), by simp, fun m hm hle => ?_⟩
    obtain rfl : m = (lowT x0 xs : Nat) := by
      have a1 : (m : Int) ≤ (lowT x0 xs : Nat) := by
        rcases hlow.2.2 with h | ⟨y, hy, h⟩
        · rw [h]; exact hle _ List.mem_cons_self
        · rw [h]; exact hle _ (List.mem_cons_of_mem _ (List.mem_map.mpr ⟨y, hy, rfl⟩))
      have a2 : ((lowT x0 xs : Nat) : Int) ≤ m := by
        rcases List.mem_cons.mp hm with h | h
        · rw [h]; exact Int.ofNat_le.mpr hlow.1
        · obtain ⟨y, hy, rfl⟩ := List.mem_map.mp h
          exact Int.ofNat_le.mpr (hlow.2.1 y hy)
      omega
    walk_at "al"
    rename_i p5 hp5 H5 S5 e5
    have hl5 := S5 _ _ (S4 _ _ (s3 _ _ (S2 _ _ (S1 _ _ hl))))
    refine tlc_all (ι := Addr × Hp) (C := fun z => z.2 z.1 = some (.lst (xs.map fun n => V.int (n : Nat))) ∧ Same H5 z.2) (J := fun z => Itl K z.1) (H1 := fun z => z.2) (fun R hR => ?_) fun z hz D6 hD6 => ?_
    · walk_at "rd"
      refine ⟨_, .inl (.inl hl5), ?_⟩
      rw [cutr rfl]
      walk_at "al"
      rename_i p6 hp6 H6 S6 e6
      exact ⟨⟨_, .inl (.inl e6)⟩, hR (p6, H6) ⟨e6, S6⟩⟩
    obtain ⟨p6, H6⟩ := z
    obtain ⟨e6, S6⟩ := hz
    dsimp only at e6 S6 hD6
    refine lc_map xs (fun n => .int ((min n (lowT x0 xs + 1) : Nat))) (G := fun H => SqL K H p6 (xs.map fun n => V.int (n : Nat))) (List.length_map _ ▸ walk_list) (by omega) hD6 (fun H s => .inl (.inl (s _ _ e6))) ?_ ?_
    · rintro R R' i n x H7 H7' hi s7 ⟨rfl, hx⟩ hR
      rw [List.getElem?_map, hi] at hx
      cases hx
      walk_at "rdh"
      have := hR _ (Same.refl _)
      rw [show ((min n (lowT x0 xs + 1) : Nat) : Int) = if ((lowT x0 xs : Nat) : Int) + 1 < (n : Int) then ((lowT x0 xs : Nat) : Int) + 1 else (n : Int) by split <;> omega] at this
      exact this
    intro H7 s7 e7
    have e5' := s7 _ _ (S6 _ _ e5)
    walk_at "rdh"
    refine ⟨by rw [List.length_map]; exact line_le (by omega), ?_⟩
    walk_at "al"
    rename_i p8 hp8 H8 S8 e8
    have Sa := (((((S1.trans S2).trans s3).trans S4).trans S5).trans S6).trans s7
    refine k p8 H8 (Sa.free hp8) (Sa.trans S8) ?_
    rw [e8, enteredT, List.map_cons, List.map_map]
    rfl
end
end Qw

set_option Elab.async false
set_option linter.all false
set_option maxRecDepth 100000
set_option maxHeartbeats 4000000
namespace Qw
open PySem L2
local macro_rules | `(tactic| walk_at "rd") => `(tactic| simp only [iEnum, iRng3, tRevL, rSlS, rSlL, gSub, rSetL, wipe, List.map_cons, List.map_nil, rAll, rAny, rIsi, tM1, tM0, iZipLT, iZip, iRng2, tLenSetS, rListStr, rMulS, rRep, rCntB, tRevS, rNeD, rEqD, tSeq, tNext, tAsg, tRet, tRetN, tDrop, tIfS, sFld, sFldAug, tVar, tC, tOp, tUn, tTest, tB, tAnd, tOr, tNot, tAndV, tOrV, tNotV, tIf, tTup, tLst, tCons, tNil, tCB, tCall, tMeth, tMake, tFld, rI, rI0, rU, rEq, rNe, rCat, gName, gTup, gCons, gNil, tPar, tPar3, tBM, tBM0, rAppend, rExtend, rPopAt, rIxL, rIxT, rIxS, tSl, rSlS, rSlL, tPart, tNoPart, iStr, iTup, iList, iRng1, tAug, ipI, L2.rAdd, L2.rSub, L2.rAddS, tChain, rIsB, rNotB, scal_ss, scal_ii, scal_bb, scal_nn, scal_in, scal_ni, tYes,
  cx_K, cx_N, List.getElem?_cons_zero, List.getElem?_cons_succ, List.set_cons_zero, List.set_cons_succ, List.nil_append, List.cons_append, List.append_nil, List.length_cons, List.length_nil, Nat.zero_add,
  Option.some.injEq, V.ref.injEq, V.int.injEq, V.str.injEq, V.bl.injEq, HO.ins.injEq, HO.lst.injEq, HO.tup.injEq, List.cons.injEq, exists_eq_left, exists_eq_left', exists_eq_right, exists_eq_right', and_true, true_and, exists_and_left, exists_and_right, and_assoc, decide_eq_true_eq, Bool.not_eq_true', decide_eq_false_iff_not, reduceCtorEq, exists_const, forall_const, if_true, if_false, false_and, and_false, ite_true, ite_false, Bool.true_eq_false, Bool.false_eq_true, Nat.reduceLeDiff, Nat.reduceAdd, small_line, small_lt, upd_ne, ne_eq, not_false_eq_true, Nat.zero_le, Prod.mk.injEq, upd_same, upd_upd, S_tl, S_len, S_app, S_one, S_inj,
  lk_breaks, lk_hard, lk_soft, lk_bend, lk_note, lk_rules, lk_state, lk_bent, lk_word, lk_begun, lk_opened, lk_place, pt_state, pt_bent, pt_word, pt_wordS, pt_wordN, pt_begun, pt_opened, pt_place, pt_place1, len_mf, litv_empty, litv_note, litv_nl, mf_inj, rf_inj, lkn_begin, lkn_ended, lkn_plain, lkn_quoted, lkn_step, lkn_fault, lkn_key, lkn_told, lkn_quotes, lkn_special, pt_open1, not_true_eq_false, not_false_eq_true])
local macro_rules | `(tactic| walk_at "rdh") => `(tactic| simp only [iEnum, iRng3, tRevL, rSlS, rSlL, gSub, rSetL, wipe, List.map_cons, List.map_nil, rAll, rAny, rIsi, tM1, tM0, iZipLT, iZip, iRng2, tLenSetS, rListStr, rMulS, rRep, rCntB, tRevS, rNeD, rEqD, tSeq, tNext, tAsg, tRet, tRetN, tDrop, tIfS, sFld, sFldAug, tVar, tC, tOp, tUn, tTest, tB, tAnd, tOr, tNot, tAndV, tOrV, tNotV, tIf, tTup, tLst, tCons, tNil, tCB, tCall, tMeth, tMake, tFld, rI, rI0, rU, rEq, rNe, rCat, gName, gTup, gCons, gNil, tPar, tPar3, tBM, tBM0, rAppend, rExtend, rPopAt, rIxL, rIxT, rIxS, tSl, rSlS, rSlL, tPart, tNoPart, iStr, iTup, iList, iRng1, tAug, ipI, L2.rAdd, L2.rSub, L2.rAddS, tChain, rIsB, rNotB, scal_ss, scal_ii, scal_bb, scal_nn, scal_in, scal_ni, tYes,
  cx_K, cx_N, List.getElem?_cons_zero, List.getElem?_cons_succ, List.set_cons_zero, List.set_cons_succ, List.nil_append, List.cons_append, List.append_nil, List.length_cons, List.length_nil, Nat.zero_add,
  Option.some.injEq, V.ref.injEq, V.int.injEq, V.str.injEq, V.bl.injEq, HO.ins.injEq, HO.lst.injEq, HO.tup.injEq, List.cons.injEq, exists_eq_left, exists_eq_left', exists_eq_right, exists_eq_right', and_true, true_and, exists_and_left, exists_and_right, and_assoc, decide_eq_true_eq, Bool.not_eq_true', decide_eq_false_iff_not, reduceCtorEq, exists_const, forall_const, if_true, if_false, false_and, and_false, ite_true, ite_false, Bool.true_eq_false, Bool.false_eq_true, Nat.reduceLeDiff, Nat.reduceAdd, small_line, small_lt, upd_ne, ne_eq, not_false_eq_true, Nat.zero_le, Prod.mk.injEq, upd_same, upd_upd, S_tl, S_len, S_app, S_one, S_inj,
  lk_breaks, lk_hard, lk_soft, lk_bend, lk_note, lk_rules, lk_state, lk_bent, lk_word, lk_begun, lk_opened, lk_place, pt_state, pt_bent, pt_word, pt_wordS, pt_wordN, pt_begun, pt_opened, pt_place, pt_place1, len_mf, litv_empty, litv_note, litv_nl, mf_inj, rf_inj, lkn_begin, lkn_ended, lkn_plain, lkn_quoted, lkn_step, lkn_fault, lkn_key, lkn_told, lkn_quotes, lkn_special, pt_open1, not_true_eq_false, not_false_eq_true, *])
local macro_rules | `(tactic| walk_at "pl") => `(tactic| (first | decide | (refine Nat.lt_of_le_of_lt (length_putF _ _ _) ?_; repeat (first | decide | refine pl2 ?_))))
local macro_rules | `(tactic| walk_at "al") => `(tactic| (intro p hp; generalize hH : upd _ p _ = H1; obtain ⟨S, e⟩ := gen_new hH hp; clear hH))
section
variable {X : Cx}
theorem pi_listK {K : PySem.W.Frag} (h : X.K = K) {tg l : Expr} {tl : TE} (hl : PE X l tl) : PI X tg l (iList K tl) := by
  subst h
  exact pi_list hl
theorem cr_allK {K : PySem.W.Frag} (h : X.K = K) (hc : X.calm = true) : CallR X (.builtin "all") (rAll K) := by
  subst h
  exact cr_all hc
theorem cr_anyK {K : PySem.W.Frag} (h : X.K = K) (hc : X.calm = true) : CallR X (.builtin "any") (rAny K) := by
  subst h
  exact cr_any hc
theorem cr_sumK {K : PySem.W.Frag} (h : X.K = K) (hc : X.calm = true) : CallR X (.builtin "sum") (rSum K) := by
  subst h
  exact cr_sum hc
end
abbrev intsV (row : List Nat) : List V := row.map fun n => .int (n : Nat)
/-- lists of numbers -/
def RowV (H : Hp) (v : V) (row : List Nat) : Prop := ∃ l, v = .ref l ∧ H l = some (.lst (intsV row))
/-- .. at lists that were not there at H0 -/
def RowN (H0 H : Hp) (v : V) (row : List Nat) : Prop := ∃ l, v = .ref l ∧ H0 l = none ∧ H l = some (.lst (intsV row))
abbrev RowsV (H : Hp) (xs : List V) (rows : List (List Nat)) : Prop := Paired (RowV H) xs rows
theorem RowV.same {H H' : Hp} {v : V} {row : List Nat} (h : RowV H v row) (s : Same H H') : RowV H' v row := by
  obtain ⟨l, e, h⟩ := h
  exact ⟨l, e, s _ _ h⟩
theorem RowsV.same {H H' : Hp} {xs : List V} {rows : List (List Nat)} (h : RowsV H xs rows) (s : Same H H') : RowsV H' xs rows := Paired.mapP h fun _ _ z => z.same s
def nextT (r : RS) (row : List Nat) (c : Nat) : List Nat := List.zipWith (fun n s => match costT r s c with | none => 99 | some k => n + k) row r.sts
def stepT (r : RS) (row : List Nat) (c : Nat) : List Nat := enteredT (nextT r row c)
def row0 (r : RS) : List Nat := enteredT (0 :: List.replicate r.quotes.length 99)
/-- the row behind a word's first signs -/
def curT (r : RS) (u : Tx) : List Nat := u.foldl (stepT r) (row0 r)
theorem curT_snoc (r : RS) (u : Tx) (c : Nat) : curT r (u ++ [c]) = stepT r (curT r u) c := by simp [curT]
def rowsT (r : RS) (w : Tx) : List (List Nat) := (List.range (w.length + 1)).map fun i => curT r (w.take i)
theorem entered_len (l : List Nat) : (enteredT l).length = l.length := by cases l <;> simp [enteredT]
theorem cur_len (r : RS) : ∀ u : Tx, (curT r u).length = r.quotes.length + 1 := by
  intro u
  suffices h : ∀ (u : Tx) (row : List Nat), row.length = r.quotes.length + 1 → (u.foldl (stepT r) row).length = r.quotes.length + 1 from h u _ (by rw [row0, entered_len]; simp)
  intro u
  induction u with
  | nil => intro row h; exact h
  | cons c u ih =>
    intro row h
    refine ih _ ?_
    rw [stepT, entered_len, nextT, List.length_zipWith, h]
    simp [RS.sts]
theorem Paired.snoc_inv {α β : Type} {F : α → β → Prop} : ∀ {l : List α} {m : List β} {y : β}, Paired F l (m ++ [y]) → ∃ l' x, l = l' ++ [x] ∧ Paired F l' m ∧ F x y
  | _, [], _, .cons r .nil => ⟨[], _, rfl, .nil, r⟩
  | _, _ :: _, _, .cons r t => by
    obtain ⟨l', x, rfl, h1, h2⟩ := Paired.snoc_inv t
    exact ⟨_ :: l', x, rfl, .cons r h1, h2⟩
theorem Paired.right {α β : Type} {F : α → β → Prop} : ∀ {l : List α} {m : List β} {i : Nat} {y : β}, Paired F l m → m[i]? = some y → ∃ x, l[i]? = some x ∧ F x y
  | _, _, 0, _, .cons r _, h => by
    cases h
    exact ⟨_, rfl, r⟩
  | _, _, i + 1, _, .cons _ t, h => by
    obtain ⟨x, h1, h2⟩ := Paired.right (i := i) t (by simpa using h)
    exact ⟨x, by simpa using h1, h2⟩
  | _, _, _, _, .nil, h => by simp at h
theorem line_le' {n : Nat} (h : n ≤ 3000) : n ≤ sizeLine := Nat.le_trans h (by decide)
def cannotT (r : RS) (w : Tx) : Bool := if w = [] then decide (r.quotes = []) else w.any fun c => r.sts.all fun s => (costT r s c).isNone
/-- a comprehension that leaves items out -/
theorem lc_filt {α : Type} {J : It} {G : Hp → Prop} {Y : Nat → Hp → V → Hp → Prop} {g : TG} {tt : TT} {te : TE} {vs : List Nat} {σ : St} {H1 : Hp} {D : Addr} {Qd : Hp → Prop}
    (as : List α) (pr : α → Bool) (F : α → V) (w : Walk J as.length G Y) (hz : as.length ≤ 1000000) (h1 : H1 D = none) (hG : ∀ H, Same H1 H → G H)
    (hs : ∀ (R : VK) (R' : Hp → Prop) i a x H H', as[i]? = some a → Same H1 H → Y i H x H' → (∀ H4, Same H H4 → pr a = true → R (F a) H4) → (∀ H4, Same H H4 → pr a = false → R' H4) →
      g x (wipe σ vs) H' fun σ2 H2 => wipe σ2 vs = wipe σ vs ∧ tt σ2 H2 fun b H3 => if b = true then te σ2 H3 R else R' H3)
    (hd : ∀ H, Same H1 H → H D = some (.lst ((as.filter pr).map F)) → Qd H) :
    ∃ W : Nat → Nat → Hp → Prop, (∃ m, W 0 m (upd H1 D (.lst []))) ∧ ∀ i m H, W i m H →
      (J.stop i H ∧ Qd H) ∨ (J.go i H ∧ ∃ Nx : Hp → Prop, (∀ H', Nx H' → ∃ m', m' < m ∧ W (i + 1) m' H') ∧ ∀ x H', J.yld i H x H' → g x (wipe σ vs) H' fun σ2 H2 => wipe σ2 vs = wipe σ vs ∧ tt σ2 H2 fun b H3 =>
        if b = true then te σ2 H3 fun y H4 => ∃ acc, H4 D = some (.lst acc) ∧ acc.length < sizeLine ∧ Nx (upd H4 D (.lst (acc ++ [y]))) else Nx H3) := by
  refine lc_it w (fun i H => Same H1 H ∧ H D = some (.lst (((as.take i).filter pr).map F))) ⟨same_new h1, upd_same⟩ (fun _ H _ p => hG H p.1) ?_ fun H p => hd H p.1 (by rw [List.take_length] at p; exact p.2)
  rintro i x H H' hi ⟨p1, p2⟩ y
  obtain ⟨a, ha⟩ : ∃ a, as[i]? = some a := ⟨as[i], List.getElem?_eq_getElem hi⟩
  refine hs _ _ i a x H H' ha p1 y (fun H4 s4 hp => ⟨_, s4 _ _ p2, ?_, ?_, ?_⟩) fun H4 s4 hp => ⟨p1.trans s4, ?_⟩
  · rw [List.length_map]
    have := List.length_filter_le pr (as.take i)
    rw [List.length_take] at this
    exact Nat.lt_of_lt_of_le (show _ < 1000001 by omega) (by decide)
  · exact Same.mut (p1.trans s4) h1
  · rw [upd_same, take_at ha, List.filter_append, List.map_append, List.filter_cons, if_pos hp]
    rfl
  · rw [take_at ha, List.filter_append, List.filter_cons, if_neg (by rw [hp]; decide), List.filter_nil, List.append_nil]
    exact s4 _ _ p2
/-! ### a writing by its heights -/
def rowAt (rows : List (List Nat)) (i : Nat) : List Nat := rows.getD i []
def wrHit (r : RS) (w : Tx) (rows : List (List Nat)) (at_ st : Nat) : Option Nat :=
  if at_ = 0 then none else match costT r (r.sts.getD st none) (w.getD (at_ - 1) 0) with
    | none => none
    | some c => if (rowAt rows (at_ - 1)).getD st 0 + c = (rowAt rows at_).getD st 0 then some c else none
def wrOn (r : RS) (rows : List (List Nat)) (at_ : Nat) : List Nat := (List.range' 1 (r.sts.length - 1)).filter fun k => decide ((rowAt rows at_).getD k 0 + 1 = (rowAt rows at_).getD 0 0)
def wrGo (r : RS) (w : Tx) (rows : List (List Nat)) : Nat → Tx → Nat → Nat → Option Tx
  | 0, _, _, _ => none
  | n + 1, found, at_, st =>
    if at_ = 0 ∧ st = 0 then some found else match wrHit r w rows at_ st with
      | some c => wrGo r w rows n ((if c = 1 then [w.getD (at_ - 1) 0] else r.bend ++ [w.getD (at_ - 1) 0]) ++ found) (at_ - 1) st
      | none => if st > 0 then wrGo r w rows n (sT (r.sts.getD st none) ++ found) at_ 0 else match wrOn r rows at_ with
        | [] => none
        | k :: _ => wrGo r w rows n (sT (r.sts.getD k none) ++ found) at_ k
section
variable {P : Program} {w : World} {K : PySem.W.Frag} {mg : Str → Option Value} {base : Heap} {a : Ad}
def sp_cannot (a : Ad) : Sp := fun vs H Q _ => ∃ p dr r t, vs = [.ref p, .str (S t)] ∧ H p = some (.ins a.c_Rules dr (RS.f r)) ∧ r.Ok ∧ t.length ≤ 100 ∧ ∀ H', Same H H' → Q (.bl (cannotT r t)) H'
theorem ok_cannot (T : Txt K mg a) : FnOk P w K mg base CX0 4 a.f_cannot a.d_cannot P_cannot (sp_cannot a) := by
  refine T.F_cannot.ok sc_cannot (fun vs H Q E h => ?_) (fun cdv A outer s H vs Q E hr h => ?_)
  · obtain ⟨p, dr, r, t, rfl, _⟩ := h
    rfl
  · obtain ⟨p, dr, r, t, rfl, hR, ok, ht, k⟩ := h
    have G_Rules_quotes := ok_Rules_quotes (P := P) (w := w) (base := base) T
    have B_Rules_quotes := bi_Rules_quotes T
    have G_states_of := ok_states_of (P := P) (w := w) (base := base) T
    have B_states_of := bi_states_of T
    have G_cost_of := ok_cost_of (P := P) (w := w) (base := base) T
    have B_cost_of := bi_cost_of T
    refine ⟨_,
(pss_cons (ps_if (pt_cmpR op_eq (pv 1) pe_str (nomark _)) (pss_one (ps_ret (pe_cmpR op_eq (pe_meth0 (pv 0) T.c_Rules.cl T.m_Rules_quotes G_Rules_quotes (hr.mono (by decide)) B_Rules_quotes .nil pass0) pe_str (nomark _)))) pss_nil)
    (pss_cons (ps_set (i := 2) sc_cannot.nd rfl (by first | exact Or.inl rfl | exact Or.inr rfl) (pe_call G_states_of (hr.mono (by decide)) rfl T.f_states_of.g T.f_states_of.k B_states_of .nil pass0 (pa_cons (pv 0) pa_nil)))
    (pss_one (ps_ret (pe_callB (cr_any rfl) (by rfl) T.b_any (by decide +kernel) (pa_cons (pe_lc (own := [("sign", 4)]) (g := gName 4) (tt := tYes) rfl sc_cannot.nd (pi_str (pv 1)) (blkOk_by (own := [("sign", 4)]) (N := N_cannot) (sc := defScope st_cannot) (by decide +kernel)) (fun _ _ _ _ _ => (pg_name (i := 4) sc_cannot.nd rfl (by first | exact Or.inl rfl | exact Or.inr rfl))) (fun _ _ _ _ _ => pts_nil) (fun _ _ _ _ _ => (pe_callB (cr_allK (K := K) rfl rfl) (by rfl) T.b_all (by decide +kernel) (pa_cons (pe_lc (own := [("state", 3)]) (g := gName 3) (tt := tYes) rfl sc_cannot.nd (pi_listK (K := K) rfl (pv 2)) (blkOk_by (own := [("state", 3)]) (N := N_cannot) (sc := (relS { kind := ScopeKind.function, names := [(".0", NameKind.local), ("sign", NameKind.cell), ("all", NameKind.globalImplicit), ("rules", NameKind.free), ("states", NameKind.free)], isGenerator := false, isCoroutine := false } (defScope st_cannot))) (by decide +kernel)) (fun _ _ _ _ _ => (pg_name (i := 3) sc_cannot.nd rfl (by first | exact Or.inl rfl | exact Or.inr rfl))) (fun _ _ _ _ _ => pts_nil) (fun _ _ _ _ _ => (pe_cmpR op_isN (pe_call G_cost_of (hr.mono (by decide)) rfl T.f_cost_of.g T.f_cost_of.k B_cost_of .nil pass0 (pa_cons (pv 0) (pa_cons (pv 3) (pa_cons (pv 4) pa_nil)))) pe_non (nomark _)))) pa_nil)))) pa_nil))))))
      , ?_⟩
    rw [show start N_cannot [V.ref p, V.str (S t)] = [some (.ref p), some (.str (S t)), none, none, none] from rfl]
    walk_at "rd"
    refine ite2 (fun c0 => ?_) (fun c0 => ?_)
    · subst c0
      refine ⟨dr, _, hR, lkn_quotes r, p, dr, r, rfl, hR, few_q ok, ?_⟩
      walk_at "rd"
      have k := k H (Same.refl H)
      simpa [cannotT] using k
    refine ⟨p, dr, r, rfl, hR, ok, fun l H1 hl s1 e1 => ?_⟩
    have hR1 := s1 _ _ hR
    refine tlc_map t (fun c => .bl (r.sts.all fun s => (costT r s c).isNone)) (J := Its (S t)) (H1 := H1) (fun R hR => ?_) walk_text (by omega) (fun _ _ => trivial) ?_ ?_
    · exact ⟨_, rfl, _, rfl, hR⟩
    · rintro R R' i c x H2 H3 hi s2 ⟨rfl, c', hc, rfl⟩ hk
      rw [hi] at hc
      cases hc
      walk_at "rdh"
      refine tlc_map r.sts (fun s => .bl (costT r s c).isNone) (J := Itl K l) (H1 := H3) (G := fun H => SqL K H l (r.sts.map fun s => .str (S (sT s)))) (fun R hR => ?_) (List.length_map _ ▸ walk_list) ?_ (fun H s => .inl (.inl (s _ _ (s2 _ _ e1)))) ?_ ?_
      · walk_at "rd"
        exact ⟨⟨_, .inl (.inl (s2 _ _ e1))⟩, hR⟩
      · have := r.quotes_len ok
        simp only [RS.sts, List.length_cons, List.length_map]; omega
      · rintro R R' j s x H4 H5 hj s4 ⟨rfl, hx⟩ hk4
        rw [List.getElem?_map, hj] at hx
        cases hx
        walk_at "rdh"
        refine ⟨p, dr, r, s, c, rfl, s4 _ _ (s2 _ _ hR1), ok, fun H6 s6 => ?_⟩
        have hk4 := hk4 H6 s6
        walk_at "rd"
        cases hc : costT r s c with
        | none => rw [hc] at hk4; exact hk4
        | some n => rw [hc] at hk4; exact hk4
      · intro D H6 hD s6 e6
        walk_at "rdh"
        refine ⟨r.sts.map fun s => (costT r s c).isNone, .inl (.inl (by rw [List.map_map]; exact e6)), ?_⟩
        rw [List.all_map]
        exact hk H6 s6
    · intro D H2 hD s2 e2
      refine ⟨D, rfl, t.map fun c => r.sts.all fun s => (costT r s c).isNone, .inl (.inl (by rw [List.map_map]; exact e2)), ?_⟩
      have k := k H2 (s1.trans s2)
      rw [cannotT, if_neg c0] at k
      rw [List.any_map]
      exact k
def sp_heights_of (a : Ad) : Sp := fun vs H Q _ => ∃ p dr r t, vs = [.ref p, .str (S t), .int 99] ∧ H p = some (.ins a.c_Rules dr (RS.f r)) ∧ r.Ok ∧ t.length ≤ 100 ∧ ∀ l H' xs, H l = none → Same H H' → H' l = some (.lst xs) → Paired (RowN H H') xs (rowsT r t) → Q (.ref l) H'
theorem ok_heights_of (T : Txt K mg a) : FnOk P w K mg base CX0 4 a.f_heights_of a.d_heights_of P_heights_of (sp_heights_of a) := by
  refine T.F_heights_of.ok sc_heights_of (fun vs H Q E h => ?_) (fun cdv A outer s H vs Q E hr h => ?_)
  · obtain ⟨p, dr, r, t, rfl, _⟩ := h
    rfl
  · obtain ⟨p, dr, r, t, rfl, hR, ok, ht, k⟩ := h
    have G_states_of := ok_states_of (P := P) (w := w) (base := base) T
    have B_states_of := bi_states_of T
    have G_entered := ok_entered (P := P) (w := w) (base := base) T
    have B_entered := bi_entered T
    have G_cost_of := ok_cost_of (P := P) (w := w) (base := base) T
    have B_cost_of := bi_cost_of T
    refine ⟨_,
(pss_cons (ps_set (i := 3) sc_heights_of.nd rfl (by first | exact Or.inl rfl | exact Or.inr rfl) (pe_call G_states_of (hr.mono (by decide)) rfl T.f_states_of.g T.f_states_of.k B_states_of .nil pass0 (pa_cons (pv 0) pa_nil)))
    (pss_cons (ps_set (i := 4) sc_heights_of.nd rfl (by first | exact Or.inl rfl | exact Or.inr rfl) (pe_lst (pa_cons (pe_call G_entered (hr.mono (by decide)) rfl T.f_entered.g T.f_entered.k B_entered .nil pass0 (pa_cons (pe_op op_cat (pe_lst (pa_cons pe_int pa_nil)) (pe_op op_rep (pe_lst (pa_cons (pv 2) pa_nil)) (pe_op op_sub (pe_callB call_len_seq (by rfl) T.b_len PySem.boot_len (pa_cons (pv 3) pa_nil)) pe_int))) pa_nil)) pa_nil)))
    (pss_cons (ps_for PassesOwn.never rfl (pi_str (pv 1)) (pg_name (i := 5) sc_heights_of.nd rfl (by first | exact Or.inl rfl | exact Or.inr rfl))
    (pss_cons (ps_setLc (i := 6) (own := [("state", 7)]) (g := gName 7) (tt := tYes) rfl sc_heights_of.nd rfl rfl (sw_true rfl rfl rfl (by decide +kernel)) (pi_list (pv 3)) (blkOk_by (own := [("state", 7)]) (N := N_heights_of) (sc := defScope st_heights_of) (by decide +kernel)) (fun _ _ _ _ _ => (pg_name (i := 7) sc_heights_of.nd rfl (by first | exact Or.inl rfl | exact Or.inr rfl))) (fun _ _ _ _ _ => pts_nil) (fun _ _ _ _ _ => (pe_call G_cost_of (hr.mono (by decide)) rfl T.f_cost_of.g T.f_cost_of.k B_cost_of .nil pass0 (pa_cons (pv 0) (pa_cons (pv 7) (pa_cons (pv 5) pa_nil))))))
    (pss_one (ps_expr (pe_bm PySem.F.plainAttrs_list PySem.F.slot_list_append PySem.F.type_list_append mt_append (pv 4) (pa_cons (pe_call G_entered (hr.mono (by decide)) rfl T.f_entered.g T.f_entered.k B_entered .nil pass0 (pa_cons (pe_lc (own := [("number", 8), ("cost", 9)]) (g := gTup _ 2 (gCons (gName 8) (gCons (gName 9) (gNil)))) (tt := tYes) rfl sc_heights_of.nd (pi_zip (by rfl) T.b_zip (pa_cons (pe_ix ix_list (pv 4) (pe_un un_neg pe_int) (fun _ _ => rfl)) (pa_cons (pv 6) pa_nil))) (blkOk_by (own := [("number", 8), ("cost", 9)]) (N := N_heights_of) (sc := defScope st_heights_of) (by decide +kernel)) (fun _ _ _ _ _ => (pg_tup rfl (pgs_cons (pg_name (i := 8) sc_heights_of.nd rfl (by first | exact Or.inl rfl | exact Or.inr rfl)) (pgs_cons (pg_name (i := 9) sc_heights_of.nd rfl (by first | exact Or.inl rfl | exact Or.inr rfl)) pgs_nil)))) (fun _ _ _ _ _ => pts_nil) (fun _ _ _ _ _ => (pe_ifExp (pt_cmpR op_isN (pv 9) pe_non (nomark _)) (pv 2) (pe_op op_add (pv 8) (pv 9))))) pa_nil)) pa_nil))))))
    (pss_one (ps_ret (pv 4))))))
      , ?_⟩
    rw [show start N_heights_of [V.ref p, V.str (S t), V.int 99] = [some (.ref p), some (.str (S t)), some (.int 99), none, none, none, none, none, none, none] from rfl]
    walk_at "rd"
    refine ⟨p, dr, r, rfl, hR, ok, fun l H1 hl s1 e1 => ?_⟩
    have hR1 := s1 _ _ hR
    have hql := r.quotes_len ok
    have hsl : (r.sts.map fun s => V.str (S (sT s))).length = r.quotes.length + 1 := by simp [RS.sts]
    walk_at "al"
    rename_i p1 hp1 H2 S2 e2
    walk_at "al"
    rename_i p2 hp2 H3 S3 e3
    refine ⟨l, rfl, _, .inl (.inl (.inl (S3 _ _ (S2 _ _ e1)))), by omega, by omega, line_le (by omega), ?_⟩
    rw [hsl]
    have en : (((r.quotes.length + 1 : Nat) : Int) - 1).toNat = r.quotes.length := by omega
    rw [en]
    have ef : (List.replicate r.quotes.length [V.int 99]).flatten = List.replicate r.quotes.length (V.int 99) := by
      induction r.quotes.length with
      | zero => rfl
      | succ n ih => rw [List.replicate_succ, List.flatten_cons, ih, List.replicate_succ]; rfl
    rw [ef]
    walk_at "al"
    rename_i p3 hp3 H4 S4 e4
    refine ⟨_, S4 _ _ (S3 _ _ e2), line_le (by rw [List.length_replicate]; simp only [List.length_cons, List.length_nil]; omega), ?_⟩
    walk_at "al"
    rename_i p4 hp4 H5 S5 e5
    refine ⟨p4, 0 :: List.replicate r.quotes.length 99, rfl, by rw [e5]; simp, by simp, by simp only [List.length_cons, List.length_replicate]; omega, fun p5 H6 hp5 S6 e6 => ?_⟩
    walk_at "al"
    rename_i p6 hp6 H7 S7 e7
    have Sa := ((((s1.trans S2).trans S3).trans S4).trans S5).trans (S6.trans S7)
    refine tfor_it (J := Its (S t)) (H1 := H7) (n := t.length) (G := fun _ => True) (fun R hR => ⟨_, rfl, _, rfl, hR⟩) walk_text (fun i σ H' => ∃ v5 v6 xs, σ = [some (V.ref p), some (V.str (S t)), some (V.int 99), some (V.ref l), some (V.ref p6), v5, v6, none, none, none] ∧
      Same H6 H' ∧ H' p6 = some (.lst xs) ∧ Paired (fun v row => ∃ l, v = .ref l ∧ l ≠ p6 ∧ H l = none ∧ H' l = some (.lst (intsV row))) xs ((List.range (i + 1)).map fun j => curT r (t.take j))) ?_ (fun _ _ _ _ _ => trivial) ?_ ?_
    · refine ⟨_, _, _, rfl, S7, e7, ?_⟩
      refine .cons ⟨p5, rfl, ne_of_none e6 hp6, ((((s1.trans S2).trans S3).trans S4).trans S5).free hp5, ?_⟩ .nil
      exact S7 _ _ e6
    · rintro i x σ Hx H8 hi ⟨v5, v6, xs, rfl, S8, e8, prs⟩ ⟨rfl, c, hc, rfl⟩
      walk_at "rd"
      have Sb := (((((s1.trans S2).trans S3).trans S4).trans S5).trans S6).trans S8
      have el := S8 _ _ (S6 _ _ (S5 _ _ (S4 _ _ (S3 _ _ (S2 _ _ e1)))))
      refine tlc_map r.sts (fun s => oI (costT r s c)) (J := Itl K l) (H1 := H8) (G := fun H => SqL K H l (r.sts.map fun s => .str (S (sT s)))) (fun R hR => ?_) (List.length_map _ ▸ walk_list) ?_ (fun H s => .inl (.inl (s _ _ el))) ?_ ?_
      · walk_at "rd"
        exact ⟨⟨_, .inl (.inl el)⟩, hR⟩
      · simp only [RS.sts, List.length_cons, List.length_map]; omega
      · rintro R R' j s x H9 H9' hj s9 ⟨rfl, hx⟩ hk
        rw [List.getElem?_map, hj] at hx
        cases hx
        walk_at "rdh"
        exact ⟨p, dr, r, s, c, rfl, s9 _ _ (Sb _ _ hR), ok, fun H10 s10 => hk H10 s10⟩
      intro D H9 hD s9 e9
      rw [List.range_succ, List.map_append] at prs
      obtain ⟨ys, y, rfl, pr1, pl, rfl, np, npn, epl⟩ := Paired.snoc_inv prs
      have np9 := Ne.symm (ne_of_none e8 hD)
      have e9p := s9 _ _ e8
      have hrow := cur_len r (t.take i)
      refine ⟨.inl ⟨rfl, _, .inl (.inl e9p)⟩, ?_⟩
      refine tlc_map ((curT r (t.take i)).zip r.sts) (fun z => .int ((match costT r z.2 c with | none => 99 | some k => z.1 + k : Nat))) (J := Itz K pl D) (H1 := H9) (G := fun H => SqL K H pl (intsV (curT r (t.take i))) ∧ SqL K H D (r.sts.map fun s => oI (costT r s c))) (fun R hR => ?_) (walk_zip (by simp [List.length_zip])) ?_ (fun H s => ⟨.inl (.inl (s _ _ (s9 _ _ epl))), .inl (.inl (s _ _ e9))⟩) ?_ ?_
      · walk_at "rd"
        exact ⟨_, .inl (.inl e9p), _, atI_last _ _, pl, rfl, ⟨_, .inl (.inl (s9 _ _ epl))⟩, ⟨_, .inl (.inl e9)⟩, hR⟩
      · rw [List.length_zip, hrow]
        have := Nat.min_le_left (r.quotes.length + 1) r.sts.length
        omega
      · rintro R R' j z x H10 H10' hj s10 ⟨T0, x1, x2, rfl, hT0, rfl, hx1, hx2⟩ hk
        walk_at "rdh"
        rw [List.getElem?_zip_eq_some] at hj
        obtain ⟨hj1, hj2⟩ := hj
        dsimp only [intsV] at hx1 hx2
        rw [List.getElem?_map, hj1] at hx1
        rw [List.getElem?_map, hj2] at hx2
        cases hx1
        cases hx2
        refine ⟨_, .inl (.inl upd_same), rfl, _, _, rfl, _, _, rfl, rfl, ?_⟩
        have hk := hk (upd H10 T0 (HO.tup [V.int (z.1 : Nat), oI (costT r z.2 c)])) (same_new hT0)
        cases hc2 : costT r z.2 c with
        | none =>
          rw [hc2] at hk
          refine ite2 (fun _ => ?_) (fun q => absurd (by show oI (costT r z.2 c) = V.non; rw [hc2]; rfl) q)
          dsimp only
          rw [hc2]
          exact hk
        | some k =>
          rw [hc2] at hk
          refine ite2 (fun q => ?_) (fun _ => ?_)
          · have q : oI (costT r z.2 c) = V.non := q
            rw [hc2] at q
            cases q
          dsimp only
          rw [hc2]
          exact ⟨_, rfl, _, rfl, hk⟩
      intro D2 H10 hD2 s10 e10
      have enx : ((curT r (t.take i)).zip r.sts).map (fun z => V.int ((match costT r z.2 c with | none => 99 | some k => z.1 + k : Nat))) = intsV (nextT r (curT r (t.take i)) c) := by
        rw [nextT, ← List.map_uncurry_zip_eq_zipWith, intsV, List.map_map]
        rfl
      refine ⟨D2, _, rfl, by rw [e10, enx], ?_, ?_, fun D3 H11 hD3 s11 e11 => ?_⟩
      · intro z
        have := congrArg List.length z
        rw [nextT, List.length_zipWith, hrow, RS.sts, List.length_cons, List.length_map] at this
        simp at this
      · rw [nextT, List.length_zipWith, hrow]
        have := Nat.min_le_left (r.quotes.length + 1) r.sts.length
        omega
      have s98 := (s9.trans s10).trans s11
      refine ⟨_, s98 _ _ e8, ?_, ?_, ?_⟩
      · have := pr1.length
        rw [List.length_map, List.length_range] at this
        exact Nat.lt_of_lt_of_le (show _ < 1000 by simp only [List.length_append, List.length_cons, List.length_nil]; omega) (by decide)
      · exact Same.mut (S8.trans s98) hp6
      · have mv : ∀ {v row}, (∃ l, v = V.ref l ∧ l ≠ p6 ∧ H l = none ∧ H8 l = some (.lst (intsV row))) → ∃ l, v = V.ref l ∧ ¬ l = p6 ∧ H l = none ∧ upd H11 p6 (HO.lst (ys ++ [V.ref pl] ++ [V.ref D3])) l = some (.lst (intsV row)) := fun ⟨l, h1, h2, hn, h3⟩ => ⟨l, h1, h2, hn, by rw [upd_ne h2]; exact s98 _ _ h3⟩
        have n3 : D3 ≠ p6 := fun z => by
          have := s10 _ _ (s9 _ _ e8)
          rw [← z, hD3] at this; cases this
        rw [List.range_succ, List.map_append, List.range_succ, List.map_append]
        refine Paired.app (Paired.app (Paired.mapP pr1 fun _ _ z => mv z) (.cons (mv ⟨pl, rfl, np, npn, epl⟩) .nil)) (.cons ⟨D3, rfl, n3, (Sb.trans (s9.trans s10)).free hD3, ?_⟩ .nil)
        rw [upd_ne n3, e11]
        have e1 := take_at hc
        show _ = some (HO.lst (intsV (curT r (t.take (i + 1)))))
        rw [e1, curT_snoc]
        rfl
    · rintro σ H8 ⟨v5, v6, xs, rfl, S8, e8, prs⟩
      walk_at "rd"
      have Sb := ((((s1.trans S2).trans S3).trans S4).trans S5).trans S6
      refine k p6 H8 xs (Sb.free hp6) (Sb.trans S8) e8 (Paired.mapP prs fun _ _ ⟨l, h1, _, h3, h2⟩ => ⟨l, h1, h3, h2⟩)
def sp_written_by (a : Ad) : Sp := fun vs H Q _ => ∃ p dr r w lr xs rows t, vs = [.ref p, .str (S w), .ref lr] ∧ H p = some (.ins a.c_Rules dr (RS.f r)) ∧ r.Ok ∧ H lr = some (.lst xs) ∧ RowsV H xs rows ∧ rows.length = w.length + 1 ∧ (∀ row ∈ rows, row.length = r.sts.length) ∧ w.length ≤ 100 ∧
  wrGo r w rows 1000 [] w.length 0 = some t ∧ ∀ H', Same H H' → Q (.str (S t)) H'
theorem ok_written_by (T : Txt K mg a) : FnOk P w K mg base CX0 4 a.f_written_by a.d_written_by P_written_by (sp_written_by a) := by
  refine T.F_written_by.ok sc_written_by (fun vs H Q E h => ?_) (fun cdv A outer s H vs Q E hr h => ?_)
  · obtain ⟨p, dr, r, w', lr, xs, rows, t, rfl, _⟩ := h
    rfl
  · obtain ⟨p, dr, r, wd, lr, xs, rows, t, rfl, hR, ok, hlr, hrows, hlen, hrl, hw, hgo, k⟩ := h
    have G_states_of := ok_states_of (P := P) (w := w) (base := base) T
    have B_states_of := bi_states_of T
    have G_cost_of := ok_cost_of (P := P) (w := w) (base := base) T
    have B_cost_of := bi_cost_of T
    refine ⟨_,
(pss_cons (ps_asg (pe_tup (pa_cons (pe_call G_states_of (hr.mono (by decide)) rfl T.f_states_of.g T.f_states_of.k B_states_of .nil pass0 (pa_cons (pv 0) pa_nil)) (pa_cons pe_str (pa_cons (pe_callB call_len_str (by rfl) T.b_len PySem.boot_len (pa_cons (pv 1) pa_nil)) (pa_cons pe_int pa_nil))))) (pg_tup rfl (pgs_cons (pg_name (i := 3) sc_written_by.nd rfl (by first | exact Or.inl rfl | exact Or.inr rfl)) (pgs_cons (pg_name (i := 4) sc_written_by.nd rfl (by first | exact Or.inl rfl | exact Or.inr rfl)) (pgs_cons (pg_name (i := 5) sc_written_by.nd rfl (by first | exact Or.inl rfl | exact Or.inr rfl)) (pgs_cons (pg_name (i := 6) sc_written_by.nd rfl (by first | exact Or.inl rfl | exact Or.inr rfl)) pgs_nil))))))
    (pss_cons (ps_while PassesOwn.never (PW.pt (pw_or (pt_cmpR op_gt (pv 5) pe_int (nomark _)) (pw_or1 (pt_cmpR op_gt (pv 6) pe_int (nomark _))))) (pss_cons (ps_set (i := 7) sc_written_by.nd rfl (by first | exact Or.inl rfl | exact Or.inr rfl) (pe_ix ix_list (pv 2) (pv 5) (fun _ _ => rfl)))
    (pss_cons (ps_set (i := 8) sc_written_by.nd rfl (by first | exact Or.inl rfl | exact Or.inr rfl) (pe_ifExp (pt_cmpR op_gt (pv 5) pe_int (nomark _)) (pe_call G_cost_of (hr.mono (by decide)) rfl T.f_cost_of.g T.f_cost_of.k B_cost_of .nil pass0 (pa_cons (pv 0) (pa_cons (pe_ix ix_list (pv 3) (pv 6) (fun _ _ => rfl)) (pa_cons (pe_ix ix_str (pv 1) (pe_op op_sub (pv 5) pe_int) (fun _ _ => rfl)) pa_nil)))) pe_non))
    (pss_one (ps_if (PW.pt (pw_and (pt_cmpR op_notN (pv 8) pe_non (nomark _)) (pw_and1 (pt_cmpR op_eq (pe_op op_add (pe_ix ix_list (pe_ix ix_list (pv 2) (pe_op op_sub (pv 5) pe_int) (fun _ _ => rfl)) (pv 6) (fun _ _ => rfl)) (pv 8)) (pe_ix ix_list (pv 7) (pv 6) (fun _ _ => rfl)) (nomark _))))) (pss_cons (ps_set (i := 4) sc_written_by.nd rfl (by first | exact Or.inl rfl | exact Or.inr rfl) (pe_op op_add_str (pe_ifExp (pt_cmpR op_eq (pv 8) pe_int (nomark _)) (pe_ix ix_str (pv 1) (pe_op op_sub (pv 5) pe_int) (fun _ _ => rfl)) (pe_op op_add_str (pe_fld (pv 0) rfl) (pe_ix ix_str (pv 1) (pe_op op_sub (pv 5) pe_int) (fun _ _ => rfl)))) (pv 4)))
    (pss_one (ps_aug (i := 5) sc_written_by.nd rfl (by first | exact Or.inl rfl | exact Or.inr rfl) pe_int ip_sub))) (pss_one (ps_if (pt_cmpR op_gt (pv 6) pe_int (nomark _)) (pss_cons (ps_set (i := 4) sc_written_by.nd rfl (by first | exact Or.inl rfl | exact Or.inr rfl) (pe_op op_add_str (pe_ix ix_list (pv 3) (pv 6) (fun _ _ => rfl)) (pv 4)))
    (pss_one (ps_set (i := 6) sc_written_by.nd rfl (by first | exact Or.inl rfl | exact Or.inr rfl) pe_int))) (pss_cons (ps_set (i := 6) sc_written_by.nd rfl (by first | exact Or.inl rfl | exact Or.inr rfl) (pe_ix ix_list (pe_lc (own := [("k", 9)]) (g := gName 9) rfl sc_written_by.nd (pi_range2 rfl T.b_range (pa_cons pe_int (pa_cons (pe_callB call_len_seq (by rfl) T.b_len PySem.boot_len (pa_cons (pv 3) pa_nil)) pa_nil))) (blkOk_by (own := [("k", 9)]) (N := N_written_by) (sc := defScope st_written_by) (by decide +kernel)) (fun _ _ _ _ _ => (pg_name (i := 9) sc_written_by.nd rfl (by first | exact Or.inl rfl | exact Or.inr rfl))) (fun _ _ _ _ _ => (pts_one (pt_cmpR op_eq (pe_op op_add (pe_ix (ix_listK (K := K) rfl) (pv 7) (pv 9) (fun _ _ => rfl)) pe_int) (pe_ix (ix_listK (K := K) rfl) (pv 7) pe_int (fun _ _ => rfl)) (nomark _)))) (fun _ _ _ _ _ => (pv 9))) pe_int (fun _ _ => rfl)))
    (pss_one (ps_set (i := 4) sc_written_by.nd rfl (by first | exact Or.inl rfl | exact Or.inr rfl) (pe_op op_add_str (pe_ix ix_list (pv 3) (pv 6) (fun _ _ => rfl)) (pv 4))))))))))))
    (pss_one (ps_ret (pv 4)))))
      , ?_⟩
    rw [show start N_written_by [V.ref p, V.str (S wd), V.ref lr] = [some (.ref p), some (.str (S wd)), some (.ref lr), none, none, none, none, none, none, none] from rfl]
    walk_at "rd"
    refine ⟨p, dr, r, rfl, hR, ok, fun ls H1 hls s1 e1 => ⟨line_le (by omega), ?_⟩⟩
    walk_at "al"
    rename_i p1 hp1 H2 S2 e2
    refine ⟨_, .inl (.inl e2), rfl, _, _, rfl, _, _, rfl, _, _, rfl, _, _, rfl, rfl, ?_⟩
    have hql := r.quotes_len ok
    have hsl : r.sts.length = r.quotes.length + 1 := by simp [RS.sts]
    refine while_rule (fun n σ H' => ∃ v7 v8 v9 found at_ st, σ = [some (V.ref p), some (V.str (S wd)), some (V.ref lr), some (V.ref ls), some (V.str (S found)), some (V.int (at_ : Nat)), some (V.int (st : Nat)), v7, v8, v9] ∧ Same H2 H' ∧
      wrGo r wd rows n found at_ st = some t ∧ at_ ≤ wd.length ∧ st < r.sts.length ∧ n ≤ 1000 ∧ found.length ≤ 2 * (1000 - n)) 1000 ⟨_, _, _, [], wd.length, 0, rfl, Same.refl _, hgo, Nat.le_refl _, by omega, Nat.le_refl _, Nat.zero_le _⟩ ?_
    rintro n σ1 H3 R ⟨v7, v8, v9, found, at_, st, rfl, S3, go, hat, hst, hn, hf⟩ hT hF
    walk_at "rd"
    cases n with
    | zero => rw [wrGo] at go; cases go
    | succ n =>
    rw [wrGo] at go
    have Sa := (s1.trans S2).trans S3
    have hR3 := Sa _ _ hR
    have els := S3 _ _ (S2 _ _ e1)
    have elr := Sa _ _ hlr
    have gr : ∀ i, i ≤ wd.length → ∃ l, atI xs (i : Nat) = some (.ref l) ∧ H3 l = some (.lst (intsV (rowAt rows i))) ∧ (rowAt rows i).length = r.sts.length := fun i hi => by
      have e : rows[i]? = some (rowAt rows i) := by
        rw [rowAt, List.getD_eq_getElem?_getD, List.getElem?_eq_getElem (by omega)]
        rfl
      obtain ⟨x, h1, l, rfl, h2⟩ := Paired.right hrows e
      exact ⟨l, atI_nat h1, Sa _ _ h2, hrl _ (List.mem_of_getElem? e)⟩
    have gn : ∀ (row : List Nat) k, row.length = r.sts.length → k < r.sts.length → atI (intsV row) (k : Nat) = some (.int (row.getD k 0 : Nat)) := fun row k h1 h2 => by
      refine atI_nat ?_
      rw [List.getElem?_map, List.getElem?_eq_getElem (by omega), List.getD_eq_getElem?_getD, List.getElem?_eq_getElem (by omega)]
      rfl
    have gs : ∀ k, k < r.sts.length → atI (r.sts.map fun s => V.str (S (sT s))) (k : Nat) = some (.str (S (sT (r.sts.getD k none)))) := fun k h2 => by
      refine atI_nat ?_
      rw [List.getElem?_map, List.getD_eq_getElem?_getD, List.getElem?_eq_getElem h2]
      rfl
    obtain ⟨rl, h1, hrl3, hrn⟩ := gr at_ hat
    by_cases h0 : at_ = 0 ∧ st = 0
    · rw [if_pos h0] at go
      obtain ⟨rfl, rfl⟩ := h0
      cases go
      refine ite2 (fun c => absurd c (by decide)) (fun _ => ?_)
      refine hF H3 ?_
      walk_at "rd"
      exact k H3 Sa
    rw [if_neg h0] at go
    suffices hx : R true H3 by
      refine ite2 (fun _ => hx) (fun c => ?_)
      rw [decide_eq_true (show (0 : Int) < st by omega)]
      exact hx
    refine hT H3 ?_
    clear hT hF
    have row0e : ∀ k, k < r.sts.length → atI (intsV (rowAt rows at_)) (k : Nat) = some (.int ((rowAt rows at_).getD k 0 : Nat)) := fun k => gn _ k hrn
    refine tseq_split (fun σ' H' => σ' = [some (V.ref p), some (V.str (S wd)), some (V.ref lr), some (V.ref ls), some (V.str (S found)), some (V.int (at_ : Nat)), some (V.int (st : Nat)), some (V.ref rl), v8, v9] ∧ H' = H3) (fun N hN => ?_) ?_
    · walk_at "rd"
      exact ⟨_, .inl (.inl elr), _, h1, hN _ _ ⟨rfl, rfl⟩⟩
    rintro σ' H3 ⟨rfl, rfl⟩
    refine tseq_split (fun σ' H' => σ' = [some (V.ref p), some (V.str (S wd)), some (V.ref lr), some (V.ref ls), some (V.str (S found)), some (V.int (at_ : Nat)), some (V.int (st : Nat)), some (V.ref rl), some (oI (if at_ = 0 then none else costT r (r.sts.getD st none) (wd.getD (at_ - 1) 0))), v9] ∧ Same H3 H') (fun N hN => ?_) ?_
    · walk_at "rd"
      by_cases ha : at_ = 0
      · subst ha
        refine ite2 (fun c => absurd c (by decide)) (fun _ => ?_)
        exact hN _ _ ⟨rfl, Same.refl _⟩
      · refine ite2 (fun _ => ?_) (fun c => absurd (show (0 : Int) < at_ by omega) c)
        have ew : atI wd ((at_ : Int) - 1) = some (wd.getD (at_ - 1) 0) := by
          rw [show (at_ : Int) - 1 = ((at_ - 1 : Nat) : Int) by omega]
          refine atI_nat ?_
          rw [List.getD_eq_getElem?_getD, List.getElem?_eq_getElem (by omega)]
          rfl
        refine ⟨_, .inl (.inl els), _, gs st hst, line_le (by omega), _, ew, p, dr, r, _, _, rfl, hR3, ok, fun H4 s4 => ?_⟩
        refine hN _ _ ⟨?_, s4⟩
        rw [if_neg ha]
    rintro σ' H4 ⟨rfl, S4⟩
    have els4 := S4 _ _ els
    have elr4 := S4 _ _ elr
    have hR4 := S4 _ _ hR3
    have hrl4 := S4 _ _ hrl3
    have S24 := S3.trans S4
    have nB := T.n_Rules_bend
    have hcR := T.c_Rules.cl
    obtain ⟨cv, hcv⟩ : ∃ cv, cv = if at_ = 0 then none else costT r (r.sts.getD st none) (wd.getD (at_ - 1) 0) := ⟨_, rfl⟩
    rw [← hcv]
    cases cv with
    | none =>
      have hh : wrHit r wd rows at_ st = none := by
        unfold wrHit
        by_cases ha : at_ = 0
        · rw [if_pos ha]
        · rw [if_neg ha] at hcv
          rw [if_neg ha, ← hcv]
      rw [hh] at go
      dsimp only [oI] at go ⊢
      walk_at "rd"
      refine ite2 (fun q => ?_) (fun q => ?_)
      · have q' : st > 0 := by omega
        rw [if_pos q'] at go
        have sl : (sT (r.sts.getD st none)).length ≤ 1 := by cases r.sts.getD st none <;> simp [sT]
        exact ⟨_, .inl (.inl els4), _, gs st hst, _, rfl, line_le' (by rw [S_len]; omega), n, Nat.lt_succ_self n, _, _, _, sT (r.sts.getD st none) ++ found, S_app _ _, at_, rfl, 0, rfl, rfl, rfl, rfl, S24, go, hat, by omega, by omega, by rw [List.length_append]; omega⟩
      · have q' : ¬ st > 0 := by omega
        have q0 : st = 0 := by omega
        rw [if_neg q'] at go
        refine tlc_all (ι := Unit) (C := fun _ => True) (J := fun _ => Itr 1 (r.sts.length - 1)) (H1 := fun _ => H4) (fun R hR => ?_) fun _ _ D hD => ?_
        · walk_at "rd"
          refine ⟨_, .inl (.inl (.inl els4)), by decide, by decide, by omega, by rw [List.length_map]; omega, ?_⟩
          rw [List.length_map, show ((r.sts.length : Int) - 1).toNat = r.sts.length - 1 by omega]
          exact hR () trivial
        refine lc_filt (List.range' 1 (r.sts.length - 1)) (fun k => decide ((rowAt rows at_).getD k 0 + 1 = (rowAt rows at_).getD 0 0)) (fun k => .int (k : Nat)) (G := fun _ => True) (Y := YFn fun i => .int (1 + i)) (by rw [List.length_range']; exact walk_range) (by rw [List.length_range']; omega) hD (fun _ _ => trivial) ?_ ?_
        · rintro R R' j kk x H5 H6 hj s5 ⟨rfl, rfl⟩ hk1 hk2
          walk_at "rdh"
          obtain ⟨hjl, hje⟩ := List.getElem?_eq_some_iff.mp hj
          rw [List.length_range'] at hjl
          rw [List.getElem_range', Nat.one_mul] at hje
          have ej : (1 : Int) + (j : Nat) = ((1 + j : Nat) : Int) := by omega
          rw [ej]
          subst hje
          have a1 := row0e (1 + j) (by omega)
          have a2 := row0e 0 (by omega)
          refine ⟨_, .inl (.inl (s5 _ _ hrl4)), _, a1, _, rfl, _, .inl (.inl (s5 _ _ hrl4)), _, a2, rfl, ?_⟩
          refine ite2 (fun e => ?_) (fun e => ?_)
          · have e := V.int.inj e
            exact hk1 _ (Same.refl _) (decide_eq_true (by omega))
          · exact hk2 _ (Same.refl _) (decide_eq_false fun z => e (congrArg V.int (by omega)))
        · intro H5 s5 e5
          change H5 D = some (.lst ((wrOn r rows at_).map fun k => V.int (k : Nat))) at e5
          cases hon : wrOn r rows at_ with
          | nil => rw [hon] at go; cases go
          | cons k1 more =>
            rw [hon] at go e5
            have mem : k1 ∈ wrOn r rows at_ := by rw [hon]; exact List.mem_cons_self
            have hk1 : k1 < r.sts.length := by
              have := (List.mem_filter.mp mem).1
              rw [List.mem_range'_1] at this
              omega
            have sl : (sT (r.sts.getD k1 none)).length ≤ 1 := by cases r.sts.getD k1 none <;> simp [sT]
            exact ⟨D, rfl, _, .inl (.inl e5), _, atI_nat (j := 0) rfl, _, _, rfl, .inl (.inl (s5 _ _ els4)), _, gs k1 hk1, _, rfl, line_le' (by rw [S_len]; omega), n, Nat.lt_succ_self n, _, _, _, sT (r.sts.getD k1 none) ++ found, S_app _ _, at_, rfl, k1, rfl, rfl, rfl, rfl, S24.trans s5, go, hat, hk1, by omega, by rw [List.length_append]; omega⟩
    | some c =>
      have ha : at_ ≠ 0 := fun z => by rw [if_pos z] at hcv; cases hcv
      rw [if_neg ha] at hcv
      have hh : wrHit r wd rows at_ st = if (rowAt rows (at_ - 1)).getD st 0 + c = (rowAt rows at_).getD st 0 then some c else none := by
        unfold wrHit
        rw [if_neg ha, ← hcv]
      rw [hh] at go
      dsimp only [oI] at go ⊢
      walk_at "rd"
      obtain ⟨rm, m1, m2, m3⟩ := gr (at_ - 1) (by omega)
      have ea : (at_ : Int) - 1 = ((at_ - 1 : Nat) : Int) := by omega
      rw [ea]
      refine ⟨_, .inl (.inl elr4), _, m1, rm, rfl, _, .inl (.inl (S4 _ _ m2)), _, gn _ st m3 hst, _, rfl, _, .inl (.inl hrl4), _, row0e st hst, rfl, ?_⟩
      have ew : atI wd ((at_ - 1 : Nat) : Int) = some (wd.getD (at_ - 1) 0) := by
        refine atI_nat ?_
        rw [List.getD_eq_getElem?_getD, List.getElem?_eq_getElem (by omega)]
        rfl
      have l4 := ok.l4
      refine ite2 (fun e => ?_) (fun e => ?_)
      · have e := V.int.inj e
        rw [if_pos (by omega)] at go
        dsimp only at go
        refine ite2 (fun c1 => ?_) (fun c1 => ?_)
        · rw [if_pos (by omega)] at go
          exact ⟨line_le (by omega), _, ew, line_le' (by omega), n, Nat.lt_succ_self n, _, _, _, at_ - 1, rfl, st, rfl, rfl, rfl, rfl, S24, go, by omega, hst, by omega, by omega⟩
        · rw [if_neg (by omega)] at go
          exact ⟨_, _, _, hR4, hcR, nB, _, lk_bend r, line_le (by omega), _, ew, _, rfl, line_le (by rw [S_len]; omega), line_le' (by rw [S_app, S_len, List.length_append]; simp only [List.length_cons, List.length_nil]; omega), n, Nat.lt_succ_self n, _, _, _,
            (r.bend ++ [wd.getD (at_ - 1) 0]) ++ found, by rw [S_app, S_app], at_ - 1, rfl, st, rfl, rfl, rfl, rfl, S24, go, by omega, hst, by omega, by simp only [List.length_append, List.length_cons, List.length_nil]; omega⟩
      rw [if_neg (fun z => e (congrArg V.int (by omega)))] at go
      dsimp only at go
      refine ite2 (fun q => ?_) (fun q => ?_)
      · have q' : st > 0 := by omega
        rw [if_pos q'] at go
        have sl : (sT (r.sts.getD st none)).length ≤ 1 := by cases r.sts.getD st none <;> simp [sT]
        exact ⟨_, .inl (.inl els4), _, gs st hst, _, rfl, line_le' (by rw [S_len]; omega), n, Nat.lt_succ_self n, _, _, _, sT (r.sts.getD st none) ++ found, S_app _ _, at_, rfl, 0, rfl, rfl, rfl, rfl, S24, go, hat, by omega, by omega, by rw [List.length_append]; omega⟩
      · have q' : ¬ st > 0 := by omega
        have q0 : st = 0 := by omega
        rw [if_neg q'] at go
        refine tlc_all (ι := Unit) (C := fun _ => True) (J := fun _ => Itr 1 (r.sts.length - 1)) (H1 := fun _ => H4) (fun R hR => ?_) fun _ _ D hD => ?_
        · walk_at "rd"
          refine ⟨_, .inl (.inl (.inl els4)), by decide, by decide, by omega, by rw [List.length_map]; omega, ?_⟩
          rw [List.length_map, show ((r.sts.length : Int) - 1).toNat = r.sts.length - 1 by omega]
          exact hR () trivial
        refine lc_filt (List.range' 1 (r.sts.length - 1)) (fun k => decide ((rowAt rows at_).getD k 0 + 1 = (rowAt rows at_).getD 0 0)) (fun k => .int (k : Nat)) (G := fun _ => True) (Y := YFn fun i => .int (1 + i)) (by rw [List.length_range']; exact walk_range) (by rw [List.length_range']; omega) hD (fun _ _ => trivial) ?_ ?_
        · rintro R R' j kk x H5 H6 hj s5 ⟨rfl, rfl⟩ hk1 hk2
          walk_at "rdh"
          obtain ⟨hjl, hje⟩ := List.getElem?_eq_some_iff.mp hj
          rw [List.length_range'] at hjl
          rw [List.getElem_range', Nat.one_mul] at hje
          have ej : (1 : Int) + (j : Nat) = ((1 + j : Nat) : Int) := by omega
          rw [ej]
          subst hje
          have a1 := row0e (1 + j) (by omega)
          have a2 := row0e 0 (by omega)
          refine ⟨_, .inl (.inl (s5 _ _ hrl4)), _, a1, _, rfl, _, .inl (.inl (s5 _ _ hrl4)), _, a2, rfl, ?_⟩
          refine ite2 (fun e => ?_) (fun e => ?_)
          · have e := V.int.inj e
            exact hk1 _ (Same.refl _) (decide_eq_true (by omega))
          · exact hk2 _ (Same.refl _) (decide_eq_false fun z => e (congrArg V.int (by omega)))
        · intro H5 s5 e5
          change H5 D = some (.lst ((wrOn r rows at_).map fun k => V.int (k : Nat))) at e5
          cases hon : wrOn r rows at_ with
          | nil => rw [hon] at go; cases go
          | cons k1 more =>
            rw [hon] at go e5
            have mem : k1 ∈ wrOn r rows at_ := by rw [hon]; exact List.mem_cons_self
            have hk1 : k1 < r.sts.length := by
              have := (List.mem_filter.mp mem).1
              rw [List.mem_range'_1] at this
              omega
            have sl : (sT (r.sts.getD k1 none)).length ≤ 1 := by cases r.sts.getD k1 none <;> simp [sT]
            exact ⟨D, rfl, _, .inl (.inl e5), _, atI_nat (j := 0) rfl, _, _, rfl, .inl (.inl (s5 _ _ els4)), _, gs k1 hk1, _, rfl, line_le' (by rw [S_len]; omega), n, Nat.lt_succ_self n, _, _, _, sT (r.sts.getD k1 none) ++ found, S_app _ _, at_, rfl, k1, rfl, rfl, rfl, rfl, S24.trans s5, go, hat, hk1, by omega, by rw [List.length_append]; omega⟩
end
end Qw

set_option Elab.async false
set_option linter.all false
set_option maxRecDepth 100000
set_option maxHeartbeats 4000000
namespace Qw
open PySem L2
local macro_rules | `(tactic| walk_at "rd") => `(tactic| simp only [iEnum, iRng3, tRevL, rSlS, rSlL, gSub, rSetL, wipe, List.map_cons, List.map_nil, rAll, rAny, rIsi, tM1, tM0, iZipLT, iZip, iRng2, tLenSetS, rListStr, rMulS, rRep, rCntB, tRevS, rNeD, rEqD, tSeq, tNext, tAsg, tRet, tRetN, tDrop, tIfS, sFld, sFldAug, tVar, tC, tOp, tUn, tTest, tB, tAnd, tOr, tNot, tAndV, tOrV, tNotV, tIf, tTup, tLst, tCons, tNil, tCB, tCall, tMeth, tMake, tFld, rI, rI0, rU, rEq, rNe, rCat, gName, gTup, gCons, gNil, tPar, tPar3, tBM, tBM0, rAppend, rExtend, rPopAt, rIxL, rIxT, rIxS, tSl, rSlS, rSlL, tPart, tNoPart, iStr, iTup, iList, iRng1, tAug, ipI, L2.rAdd, L2.rSub, L2.rAddS, tChain, rIsB, rNotB, scal_ss, scal_ii, scal_bb, scal_nn, scal_in, scal_ni, tYes,
  cx_K, cx_N, List.getElem?_cons_zero, List.getElem?_cons_succ, List.set_cons_zero, List.set_cons_succ, List.nil_append, List.cons_append, List.append_nil, List.length_cons, List.length_nil, Nat.zero_add,
  Option.some.injEq, V.ref.injEq, V.int.injEq, V.str.injEq, V.bl.injEq, HO.ins.injEq, HO.lst.injEq, HO.tup.injEq, List.cons.injEq, exists_eq_left, exists_eq_left', exists_eq_right, exists_eq_right', and_true, true_and, exists_and_left, exists_and_right, and_assoc, decide_eq_true_eq, Bool.not_eq_true', decide_eq_false_iff_not, reduceCtorEq, exists_const, forall_const, if_true, if_false, false_and, and_false, ite_true, ite_false, Bool.true_eq_false, Bool.false_eq_true, Nat.reduceLeDiff, Nat.reduceAdd, small_line, small_lt, upd_ne, ne_eq, not_false_eq_true, Nat.zero_le, Prod.mk.injEq, upd_same, upd_upd, S_tl, S_len, S_app, S_one, S_inj,
  lk_breaks, lk_hard, lk_soft, lk_bend, lk_note, lk_rules, lk_state, lk_bent, lk_word, lk_begun, lk_opened, lk_place, pt_state, pt_bent, pt_word, pt_wordS, pt_wordN, pt_begun, pt_opened, pt_place, pt_place1, len_mf, litv_empty, litv_note, litv_nl, mf_inj, rf_inj, lkn_begin, lkn_ended, lkn_plain, lkn_quoted, lkn_step, lkn_fault, lkn_key, lkn_told, lkn_quotes, lkn_special, pt_open1, not_true_eq_false, not_false_eq_true])
local macro_rules | `(tactic| walk_at "rdh") => `(tactic| simp only [iEnum, iRng3, tRevL, rSlS, rSlL, gSub, rSetL, wipe, List.map_cons, List.map_nil, rAll, rAny, rIsi, tM1, tM0, iZipLT, iZip, iRng2, tLenSetS, rListStr, rMulS, rRep, rCntB, tRevS, rNeD, rEqD, tSeq, tNext, tAsg, tRet, tRetN, tDrop, tIfS, sFld, sFldAug, tVar, tC, tOp, tUn, tTest, tB, tAnd, tOr, tNot, tAndV, tOrV, tNotV, tIf, tTup, tLst, tCons, tNil, tCB, tCall, tMeth, tMake, tFld, rI, rI0, rU, rEq, rNe, rCat, gName, gTup, gCons, gNil, tPar, tPar3, tBM, tBM0, rAppend, rExtend, rPopAt, rIxL, rIxT, rIxS, tSl, rSlS, rSlL, tPart, tNoPart, iStr, iTup, iList, iRng1, tAug, ipI, L2.rAdd, L2.rSub, L2.rAddS, tChain, rIsB, rNotB, scal_ss, scal_ii, scal_bb, scal_nn, scal_in, scal_ni, tYes,
  cx_K, cx_N, List.getElem?_cons_zero, List.getElem?_cons_succ, List.set_cons_zero, List.set_cons_succ, List.nil_append, List.cons_append, List.append_nil, List.length_cons, List.length_nil, Nat.zero_add,
  Option.some.injEq, V.ref.injEq, V.int.injEq, V.str.injEq, V.bl.injEq, HO.ins.injEq, HO.lst.injEq, HO.tup.injEq, List.cons.injEq, exists_eq_left, exists_eq_left', exists_eq_right, exists_eq_right', and_true, true_and, exists_and_left, exists_and_right, and_assoc, decide_eq_true_eq, Bool.not_eq_true', decide_eq_false_iff_not, reduceCtorEq, exists_const, forall_const, if_true, if_false, false_and, and_false, ite_true, ite_false, Bool.true_eq_false, Bool.false_eq_true, Nat.reduceLeDiff, Nat.reduceAdd, small_line, small_lt, upd_ne, ne_eq, not_false_eq_true, Nat.zero_le, Prod.mk.injEq, upd_same, upd_upd, S_tl, S_len, S_app, S_one, S_inj,
  lk_breaks, lk_hard, lk_soft, lk_bend, lk_note, lk_rules, lk_state, lk_bent, lk_word, lk_begun, lk_opened, lk_place, pt_state, pt_bent, pt_word, pt_wordS, pt_wordN, pt_begun, pt_opened, pt_place, pt_place1, len_mf, litv_empty, litv_note, litv_nl, mf_inj, rf_inj, lkn_begin, lkn_ended, lkn_plain, lkn_quoted, lkn_step, lkn_fault, lkn_key, lkn_told, lkn_quotes, lkn_special, pt_open1, not_true_eq_false, not_false_eq_true, *])
local macro_rules | `(tactic| walk_at "pl") => `(tactic| (first | decide | (refine Nat.lt_of_le_of_lt (length_putF _ _ _) ?_; repeat (first | decide | refine pl2 ?_))))
local macro_rules | `(tactic| walk_at "al") => `(tactic| (intro p hp; generalize hH : upd _ p _ = H1; obtain ⟨S, e⟩ := gen_new hH hp; clear hH))
theorem call_list_ofK {X : Cx} {K : PySem.W.Frag} (h : X.K = K) : CallR X (.type "list") (fun xs H Q => ∃ p ys, xs = [V.ref p] ∧ (SqL K H p ys ∨ SqT K H p ys) ∧ ∀ l, H l = none → Q (.ref l) (upd H l (.lst ys))) := by
  subst h
  exact call_list_of
/-- a comprehension whose items are told by a relation that knows the new list -/
theorem lc_relD {α : Type} {J : It} {G : Hp → Prop} {Y : Nat → Hp → V → Hp → Prop} {g : TG} {tt : TT} {te : TE} {vs : List Nat} {σ : St} {H1 : Hp} {D : Addr} {Qd : Hp → Prop}
    (as : List α) (F : Hp → V → α → Prop) (mono : ∀ {H H' : Hp} {v : V} {x : α}, Kp D H H' → F H v x → F H' v x)
    (w : Walk J as.length G Y) (hz : as.length ≤ 1000000) (h1 : H1 D = none) (hG : ∀ H, Same H1 H → G H)
    (hs : ∀ (R : VK) (R' : Hp → Prop) i a x H H', as[i]? = some a → Same H1 H → (∃ xs, H D = some (.lst xs)) → Y i H x H' → (∀ y H4, Same H H4 → F H4 y a → R y H4) →
      g x (wipe σ vs) H' fun σ2 H2 => wipe σ2 vs = wipe σ vs ∧ tt σ2 H2 fun b H3 => if b = true then te σ2 H3 R else R' H3)
    (hd : ∀ H ys, Same H1 H → H D = some (.lst ys) → Paired (F H) ys as → Qd H) :
    ∃ W : Nat → Nat → Hp → Prop, (∃ m, W 0 m (upd H1 D (.lst []))) ∧ ∀ i m H, W i m H →
      (J.stop i H ∧ Qd H) ∨ (J.go i H ∧ ∃ Nx : Hp → Prop, (∀ H', Nx H' → ∃ m', m' < m ∧ W (i + 1) m' H') ∧ ∀ x H', J.yld i H x H' → g x (wipe σ vs) H' fun σ2 H2 => wipe σ2 vs = wipe σ vs ∧ tt σ2 H2 fun b H3 =>
        if b = true then te σ2 H3 fun y H4 => ∃ acc, H4 D = some (.lst acc) ∧ acc.length < sizeLine ∧ Nx (upd H4 D (.lst (acc ++ [y]))) else Nx H3) := by
  refine lc_it w (fun i H => Same H1 H ∧ ∃ ys, H D = some (.lst ys) ∧ Paired (F H) ys (as.take i)) ⟨same_new h1, [], upd_same, by simp only [List.take_zero]; exact .nil⟩ (fun _ H _ p => hG H p.1) ?_ fun H p => by
    obtain ⟨p1, ys, p2, p3⟩ := p
    rw [List.take_length] at p3
    exact hd H ys p1 p2 p3
  rintro i x H H' hi ⟨p1, ys, p2, p3⟩ y
  obtain ⟨a, ha⟩ : ∃ a, as[i]? = some a := ⟨as[i], List.getElem?_eq_getElem hi⟩
  refine hs _ _ i a x H H' ha p1 ⟨_, p2⟩ y fun z H4 s4 f4 => ⟨_, s4 _ _ p2, ?_, ?_, _, upd_same, ?_⟩
  · rw [p3.length, List.length_take]
    exact Nat.lt_of_lt_of_le (show min i as.length < 1000001 by omega) (by decide)
  · exact Same.mut (p1.trans s4) h1
  · have kq : Kp D H4 (upd H4 D (.lst (ys ++ [z]))) := kp_upd
    rw [take_at ha]
    exact Paired.app (Paired.mapP p3 fun _ _ f => mono kq (mono (s4.kp D) f)) (.cons (mono kq f4) .nil)
/-- lists of numbers, none at D -/
def RowD (D : Addr) (H : Hp) (v : V) (row : List Nat) : Prop := ∃ l, v = .ref l ∧ l ≠ D ∧ H l = some (.lst (intsV row))
def HtsD (D : Addr) (H : Hp) (v : V) (rows : List (List Nat)) : Prop := ∃ l xs, v = .ref l ∧ l ≠ D ∧ H l = some (.lst xs) ∧ Paired (RowD D H) xs rows
/-- a word's writing -/
def wrT (r : RS) (w : Tx) : Option Tx := wrGo r w (rowsT r w) 1000 [] w.length 0
/-- a word's writing and heights; an empty word's: two quotes, none -/
def oneT (r : RS) (w : Tx) : Option (Tx × List (List Nat)) := if w = [] then (match r.quotes with | [] => none | q :: _ => some ([q, q], [])) else (wrT r w).map fun t => (t, rowsT r w)
section
variable {P : Program} {w : World} {K : PySem.W.Frag} {mg : Str → Option Value} {base : Heap} {a : Ad}
def OneV (H0 H : Hp) (v : V) (d : Tx × List (List Nat)) : Prop := ∃ q l xs, v = .ref q ∧ H q = some (.tup [.str (S d.1), .ref l]) ∧ H0 l = none ∧ H l = some (.lst xs) ∧ Paired (RowN H0 H) xs d.2
def sp_one_written (a : Ad) : Sp := fun vs H Q _ => ∃ p dr r t d, vs = [.ref p, .str (S t)] ∧ H p = some (.ins a.c_Rules dr (RS.f r)) ∧ r.Ok ∧ t.length ≤ 100 ∧ oneT r t = some d ∧ ∀ v H', Same H H' → OneV H H' v d → Q v H'
theorem ok_one_written (T : Txt K mg a) : FnOk P w K mg base CX0 5 a.f_one_written a.d_one_written P_one_written (sp_one_written a) := by
  refine T.F_one_written.ok sc_one_written (fun vs H Q E h => ?_) (fun cdv A outer s H vs Q E hr h => ?_)
  · obtain ⟨p, dr, r, t, d, rfl, _⟩ := h
    rfl
  · obtain ⟨p, dr, r, t, d, rfl, hR, ok, ht, hd, k⟩ := h
    have G_Rules_quotes := ok_Rules_quotes (P := P) (w := w) (base := base) T
    have B_Rules_quotes := bi_Rules_quotes T
    have G_heights_of := ok_heights_of (P := P) (w := w) (base := base) T
    have B_heights_of := bi_heights_of T
    have G_written_by := ok_written_by (P := P) (w := w) (base := base) T
    have B_written_by := bi_written_by T
    refine ⟨_,
(pss_cons (ps_if (pt_cmpR op_eq (pv 1) pe_str (nomark _)) (pss_one (ps_ret (pe_tup (pa_cons (pe_op op_mul_str (pe_ix ix_str (pe_meth0 (pv 0) T.c_Rules.cl T.m_Rules_quotes G_Rules_quotes (hr.mono (by decide)) B_Rules_quotes .nil pass0) pe_int (fun _ _ => rfl)) pe_int) (pa_cons (pe_lst pa_nil) pa_nil))))) pss_nil)
    (pss_cons (ps_set (i := 2) sc_one_written.nd rfl (by first | exact Or.inl rfl | exact Or.inr rfl) (pe_call G_heights_of (hr.mono (by decide)) rfl T.f_heights_of.g T.f_heights_of.k B_heights_of .nil pass0 (pa_cons (pv 0) (pa_cons (pv 1) (pa_cons (pe_glob (v := .int 99) rfl T.g_FAR ⟨_, rfl⟩) pa_nil)))))
    (pss_one (ps_ret (pe_tup (pa_cons (pe_call G_written_by (hr.mono (by decide)) rfl T.f_written_by.g T.f_written_by.k B_written_by .nil pass0 (pa_cons (pv 0) (pa_cons (pv 1) (pa_cons (pv 2) pa_nil)))) (pa_cons (pv 2) pa_nil)))))))
      , ?_⟩
    rw [show start N_one_written [V.ref p, V.str (S t)] = [some (.ref p), some (.str (S t)), none] from rfl]
    walk_at "rd"
    have hql := r.quotes_len ok
    refine ite2 (fun c => ?_) (fun c => ?_)
    · rw [oneT, if_pos c] at hd
      refine ⟨dr, _, hR, lkn_quotes r, p, dr, r, rfl, hR, few_q ok, S r.quotes, rfl, line_le (by rw [S_len]; omega), ?_⟩
      cases hq : r.quotes with
      | nil => rw [hq] at hd; cases hd
      | cons q more =>
        rw [hq] at hd
        cases hd
        refine ⟨q, atI_nat (j := 0) rfl, 2, rfl, by decide, by decide, ?_⟩
        walk_at "al"
        rename_i p1 hp1 H1 S1 e1
        walk_at "al"
        rename_i p2 hp2 H2 S2 e2
        exact k _ H2 (S1.trans S2) ⟨p2, p1, [], rfl, e2, hp1, S2 _ _ e1, .nil⟩
    · rw [oneT, if_neg c] at hd
      obtain ⟨u, hu, rfl⟩ := Option.map_eq_some_iff.mp hd
      refine ⟨p, dr, r, t, rfl, hR, ok, ht, fun l H1 xs hl s1 e1 rs => ?_⟩
      refine ⟨p, dr, r, t, l, xs, rowsT r t, u, rfl, s1 _ _ hR, ok, e1, Paired.mapP rs (fun _ _ ⟨l, h1, _, h2⟩ => ⟨l, h1, h2⟩), by simp [rowsT], fun row hrow => ?_, ht, hu, fun H2 s2 => ?_⟩
      · obtain ⟨j, _, rfl⟩ := List.mem_map.mp hrow
        rw [cur_len]
        simp [RS.sts]
      walk_at "al"
      rename_i p2 hp2 H3 S3 e3
      exact k _ H3 ((s1.trans s2).trans S3) ⟨p2, l, xs, rfl, e3, hl, S3 _ _ (s2 _ _ e1), Paired.mapP rs fun _ _ ⟨l, h1, h0, h2⟩ => ⟨l, h1, h0, S3 _ _ (s2 _ _ h2)⟩⟩
def HeightsV (H : Hp) (v : V) (rows : List (List Nat)) : Prop := ∃ l xs, v = .ref l ∧ H l = some (.lst xs) ∧ RowsV H xs rows
def sp_Shortest_init (a : Ad) : Sp := fun vs H Q _ => ∃ p dx t l xs hs, vs = [.ref p, .str (S t), .ref l] ∧ H p = some (.ins a.c_Shortest dx []) ∧ H l = some (.lst xs) ∧ Paired (HeightsV H) xs hs ∧ hs.length ≤ 100 ∧ (∀ rows ∈ hs, rows.length ≤ 100 ∧ ∀ row ∈ rows, row.length ≤ 100) ∧
  ∀ H' l' xs', H l' = none → H' p = some (.ins a.c_Shortest dx [("text", .str (S t)), ("heights", .ref l')]) → H' l' = some (.lst xs') → Paired (HeightsV H') xs' hs → Kp p H H' → Q .non H'
theorem ok_Shortest_init (T : Txt K mg a) : FnOk P w K mg base CX0 1 a.f_Shortest_init a.d_Shortest_init P_Shortest_init (sp_Shortest_init a) := by
  refine T.F_Shortest_init.ok sc_Shortest_init (fun vs H Q E h => ?_) (fun cdv A outer s H vs Q E hr h => ?_)
  · obtain ⟨p, dx, t, l, xs, hs, rfl, _⟩ := h
    rfl
  · obtain ⟨p, dx, t, l, xs, hs, rfl, hM, hl, hhs, hn, hb, k⟩ := h
    refine ⟨_,
(pss_cons (ps_fld (pv 0) (pv 1) rfl)
    (pss_one (ps_fld (pv 0) (pe_lc (own := [("rows", 4)]) (g := gName 4) (tt := tYes) rfl sc_Shortest_init.nd (pi_list (pv 2)) (blkOk_by (own := [("rows", 4)]) (N := N_Shortest_init) (sc := defScope st_Shortest_init) (by decide +kernel)) (fun _ _ _ _ _ => (pg_name (i := 4) sc_Shortest_init.nd rfl (by first | exact Or.inl rfl | exact Or.inr rfl))) (fun _ _ _ _ _ => pts_nil) (fun _ _ _ _ _ => (pe_lc (own := [("row", 3)]) (g := gName 3) (tt := tYes) rfl sc_Shortest_init.nd (pi_listK (K := K) rfl (pv 4)) (blkOk_by (own := [("row", 3)]) (N := N_Shortest_init) (sc := (relS { kind := ScopeKind.function, names := [(".0", NameKind.local), ("rows", NameKind.local)], isGenerator := false, isCoroutine := false } (defScope st_Shortest_init))) (by decide +kernel)) (fun _ _ _ _ _ => (pg_name (i := 3) sc_Shortest_init.nd rfl (by first | exact Or.inl rfl | exact Or.inr rfl))) (fun _ _ _ _ _ => pts_nil) (fun _ _ _ _ _ => (pe_callTy (call_list_ofK (K := K) rfl) (by rfl) T.b_list (by decide +kernel) (pa_cons (pv 3) pa_nil)))))) rfl)))
      , ?_⟩
    rw [show start N_Shortest_init [V.ref p, V.str (S t), V.ref l] = [some (.ref p), some (.str (S t)), some (.ref l), none, none] from rfl]
    walk_at "rd"
    refine ⟨_, _, _, hM, T.c_Shortest.cl, T.n_Shortest_text, by decide, ?_⟩
    have npl : l ≠ p := Ne.symm (ne_of hM hl fun z => by cases z)
    have k1 : Kp p H (upd H p (HO.ins a.c_Shortest dx (putF (Str.ofString "text") (V.str (S t)) []))) := kp_upd
    have e1 : upd H p (HO.ins a.c_Shortest dx (putF (Str.ofString "text") (V.str (S t)) [])) p = some (HO.ins a.c_Shortest dx (putF (Str.ofString "text") (V.str (S t)) [])) := upd_same
    generalize upd H p (HO.ins a.c_Shortest dx (putF (Str.ofString "text") (V.str (S t)) [])) = H1 at *
    have tk1 := k1.tk hM fun _ z => by cases z
    have ll1 : ∀ b ys, H b = some (.lst ys) → H1 b = some (.lst ys) := fun b ys hb => k1 _ _ hb fun z => by rw [z, hM] at hb; cases hb
    have hh1 : Paired (HeightsV H1) xs hs := Paired.mapP hhs fun _ _ ⟨b, ys, h1, h2, h3⟩ => ⟨b, ys, h1, ll1 _ _ h2, Paired.mapP h3 fun _ _ ⟨b, h1, h2⟩ => ⟨b, h1, ll1 _ _ h2⟩⟩
    have hl1 := ll1 _ _ hl
    refine tlc_all (ι := Unit) (C := fun _ => True) (J := fun _ => Itl K l) (H1 := fun _ => H1) (fun R hR => ?_) fun _ _ D hD => ?_
    · walk_at "rd"
      exact ⟨⟨_, .inl (.inl hl1)⟩, hR () trivial⟩
    refine lc_relD hs (HtsD D) ?_ (G := fun H => SqL K H l xs) (hhs.length ▸ walk_list) (by omega) hD (fun H s => .inl (.inl (s _ _ hl1))) ?_ ?_
    · rintro H H' v x kd ⟨b, ys, h1, h2, h3, h4⟩
      exact ⟨b, ys, h1, h2, kd _ _ h3 h2, Paired.mapP h4 fun _ _ ⟨b, h1, h2, h3⟩ => ⟨b, h1, h2, kd _ _ h3 h2⟩⟩
    · rintro R R' i rows x H2 H2' hi s2 ⟨dl, hdl⟩ ⟨rfl, hx⟩ hk
      obtain ⟨v, hv, b, ys, rfl, hb2, hb3⟩ := Paired.right hh1 hi
      rw [hx] at hv
      cases hv
      have hb4 := s2 _ _ hb2
      have hb5 : RowsV H2' ys rows := hb3.same s2
      obtain ⟨hbl, hbr⟩ := hb rows (List.mem_of_getElem? hi)
      walk_at "rdh"
      refine tlc_all (ι := Unit) (C := fun _ => True) (J := fun _ => Itl K b) (H1 := fun _ => H2') (fun R hR => ?_) fun _ _ D2 hD2 => ?_
      · walk_at "rd"
        exact ⟨⟨_, .inl (.inl hb4)⟩, hR () trivial⟩
      have nD : D2 ≠ D := fun z => by rw [z, hdl] at hD2; cases hD2
      refine lc_relD rows (fun H v row => RowD D H v row ∧ RowD D2 H v row) ?_ (G := fun H => SqL K H b ys) (hb5.length ▸ walk_list) (by omega) hD2 (fun H s => .inl (.inl (s _ _ hb4))) ?_ ?_
      · rintro H H' v x kd ⟨⟨b, h1, h2, h3⟩, ⟨b', h1', h2', h3'⟩⟩
        cases h1.symm.trans h1'
        exact ⟨⟨b, h1, h2, kd _ _ h3 h2'⟩, ⟨b, h1, h2', kd _ _ h3 h2'⟩⟩
      · rintro R R' j row x H3 H3' hj s3 ⟨dl2, hdl2⟩ ⟨rfl, hx⟩ hk3
        obtain ⟨v, hv, c, rfl, hc2⟩ := Paired.right hb5 hj
        rw [hx] at hv
        cases hv
        walk_at "rdh"
        refine ⟨_, .inl (.inl (.inl (s3 _ _ hc2))), ?_⟩
        walk_at "al"
        rename_i q hq H4 S4 e4
        exact hk3 _ H4 S4 ⟨⟨q, rfl, Ne.symm (ne_of_none (s3 _ _ hdl) hq), e4⟩, ⟨q, rfl, Ne.symm (ne_of_none hdl2 hq), e4⟩⟩
      · intro H3 zs s3 e3 prs
        exact hk _ H3 s3 ⟨D2, zs, rfl, nD, e3, Paired.mapP prs fun _ _ z => z.1⟩
    · intro H2 ys s2 e2 prs
      have hM2 := s2 _ _ e1
      refine ⟨_, _, _, hM2, T.c_Shortest.cl, T.n_Shortest_heights, by walk_at "pl", ?_⟩
      have npD : D ≠ p := Ne.symm (ne_of_none e1 hD)
      have k3 : Kp p H2 (upd H2 p (HO.ins a.c_Shortest dx (putF (Str.ofString "heights") (V.ref D) (putF (Str.ofString "text") (V.str (S t)) [])))) := kp_upd
      have ll3 : ∀ b ys, H2 b = some (.lst ys) → upd H2 p (HO.ins a.c_Shortest dx (putF (Str.ofString "heights") (V.ref D) (putF (Str.ofString "text") (V.str (S t)) []))) b = some (.lst ys) := fun b ys hb => k3 _ _ hb fun z => by rw [z, hM2] at hb; cases hb
      refine k _ D ys ?_ ?_ (ll3 _ _ e2) ?_ ((k1.trans (s2.kp p)).trans k3)
      · cases e : H D with
        | none => rfl
        | some o => exact absurd (k1 _ _ e npD) (by rw [hD]; intro z; cases z)
      · rw [upd_same]
        exact congrArg (fun l => some (HO.ins a.c_Shortest dx l)) (by kernel_rfl)
      · exact Paired.mapP prs fun _ _ ⟨b, xs, h1, h2, h3, h4⟩ => ⟨b, xs, h1, ll3 _ _ h3, Paired.mapP h4 fun _ _ ⟨c, g1, g2, g3⟩ => ⟨c, g1, ll3 _ _ g3⟩⟩
end
end Qw

set_option Elab.async false
set_option linter.all false
set_option maxRecDepth 100000
set_option maxHeartbeats 4000000
namespace Qw
open PySem L2
/-! ### the writing, in plain Lean: signs unlike -/
structure RS.Dis (r : RS) : Prop where
  qb : ∀ q ∈ r.quotes, q ∉ r.breaks
  qn : ∀ q ∈ r.quotes, q ∉ r.note
  bq : ∀ b ∈ r.bend, b ∉ r.quotes
  bb : ∀ b ∈ r.bend, b ∉ r.breaks
  bn : ∀ b ∈ r.bend, b ∉ r.note
  hs : ∀ q ∈ r.hard, q ∉ r.soft
  kn : ∀ c ∈ r.breaks, c ∉ r.note
theorem RS.Ok.dis {r : RS} (ok : r.Ok) : r.Dis := by
  have nd := ok.nd
  simp only [RS.every, List.nodup_append, List.mem_append] at nd
  obtain ⟨n1, ⟨n2, ⟨n3, ⟨n4, n5, n45⟩, n345⟩, n2345⟩, n12345⟩ := nd
  refine ⟨fun q hq h => ?_, fun q hq h => ?_, fun b hb h => ?_, fun b hb h => ?_, fun b hb h => ?_, fun q hq h => ?_, fun c hc h => ?_⟩
  · rcases List.mem_append.mp hq with x | x
    · exact n12345 q h q (.inl x) rfl
    · exact n12345 q h q (.inr (.inl x)) rfl
  · rcases List.mem_append.mp hq with x | x
    · exact n2345 q x q (.inr (.inr h)) rfl
    · exact n345 q x q (.inr h) rfl
  · rcases List.mem_append.mp h with x | x
    · exact n2345 b x b (.inr (.inl hb)) rfl
    · exact n345 b x b (.inl hb) rfl
  · exact n12345 b h b (.inr (.inr (.inl hb))) rfl
  · exact n45 b hb b h rfl
  · exact n2345 q hq q (.inl h) rfl
  · exact n12345 c hc c (.inr (.inr (.inr h))) rfl
theorem RS.bend_one {r : RS} (ok : r.Ok) (h : r.bend ≠ []) : ∃ b, r.bend = [b] := by
  have l4 := ok.l4
  match hb : r.bend, h, l4 with
  | [b], _, _ => exact ⟨b, rfl⟩
/-! ### how the machine goes -/
/-- from state s, the word u there, the text t ends the word w in plain -/
def Runs (r : RS) (s : So) (u t w : Tx) : Prop := ∀ m : MS, m.state = sT s → m.bent = false → m.word = some u →
  (m.run r t).2 = [] ∧ (m.run r t).1.state = [] ∧ (m.run r t).1.bent = false ∧ (m.run r t).1.word = some w ∧ (m.run r t).1.begun = m.begun
theorem Runs.nil (r : RS) (w : Tx) : Runs r none w [] w := fun _ h1 h2 h3 => ⟨rfl, h1, h2, h3, rfl⟩
def Stp (r : RS) (s : So) (u : Tx) (c : Nat) (s' : So) (u' : Tx) : Prop := ∀ m : MS, m.state = sT s → m.bent = false → m.word = some u →
  (m.step r c).2 = [] ∧ (m.step r c).1.state = sT s' ∧ (m.step r c).1.bent = false ∧ (m.step r c).1.word = some u' ∧ (m.step r c).1.begun = m.begun
theorem Runs.cons {r : RS} {s s' : So} {u u' t w : Tx} {c : Nat} (h : Stp r s u c s' u') (k : Runs r s' u' t w) : Runs r s u (c :: t) w := fun m h1 h2 h3 => by
  obtain ⟨a1, a2, a3, a4, a5⟩ := h m h1 h2 h3
  obtain ⟨b1, b2, b3, b4, b5⟩ := k _ a2 a3 a4
  exact ⟨by show _ ++ _ = _; rw [a1, b1]; rfl, b2, b3, b4, b5.trans a5⟩
/-- the bend and a sign -/
theorem Runs.bent {r : RS} {s : So} {u t w : Tx} {b c : Nat} (h : ∀ m : MS, m.state = sT s → m.bent = false → m.word = some u →
    (m.step r b).2 = [] ∧ (m.step r b).1.state = sT s ∧ (m.step r b).1.bent = true ∧ (m.step r b).1.word = some u ∧ (m.step r b).1.begun = m.begun) (k : Runs r s (u ++ [c]) t w) : Runs r s u (b :: c :: t) w := fun m h1 h2 h3 => by
  obtain ⟨a1, a2, a3, a4, a5⟩ := h m h1 h2 h3
  have nt : (m.step r b).1.state ≠ NT := by
    rw [a2]
    cases s with
    | none => exact nil_NT
    | some q => exact one_NT q
  have st := step_bent (r := r) (c := c) nt a3
  obtain ⟨b1, b2, b3, b4, b5⟩ := k ((m.step r b).1.step r c).1 (by rw [st]; exact a2) (by rw [st]; rfl) (by rw [st]; simp [MS.add, a4])
  refine ⟨?_, b2, b3, b4, b5.trans (Eq.trans (by rw [st]; rfl) a5)⟩
  show _ ++ (_ ++ _) = _
  rw [a1, b1, st]
  rfl
theorem stp_self {r : RS} (ok : r.Ok) {s : So} (hs : s ∈ r.sts) {u : Tx} {c : Nat} (h : costT r s c = some 1) : Stp r s u c s (u ++ [c]) := fun m h1 h2 h3 => by
  cases s with
  | none =>
    have hc : c ∉ r.spec := fun z => by
      simp only [costT, if_pos z] at h
      split at h <;> cases h
    simp only [RS.spec, List.mem_append, not_or] at hc
    rw [step_plain h1 h2]
    have pl : m.plain r c = (m.add c, []) := by
      unfold MS.plain
      rw [if_neg hc.1, if_neg hc.2.2.2, if_neg hc.2.1, if_neg hc.2.2.1, begin_some h3]
    rw [pl]
    exact ⟨rfl, h1, h2, by simp [MS.add, h3], rfl⟩
  | some q =>
    rw [step_quoted h1 h2]
    have hq : ¬ ([c] = m.state) := fun z => by
      rw [h1] at z
      have e : c = q := by injection z
      subst e
      by_cases hh : c ∈ r.hard
      · simp [costT, hh] at h
      · simp only [costT, if_neg hh, ne_eq, not_true_eq_false, false_and, if_false] at h
        split at h <;> cases h
    have nb : ¬ (c ∈ r.bend ∧ m.state.all (· ∈ r.soft) = true) := fun ⟨z1, z2⟩ => by
      rw [h1] at z2
      have z2 : q ∈ r.soft := by simpa [sT] using z2
      have hh : q ∉ r.hard := fun z => ok.dis.hs q z z2
      simp only [costT, if_neg hh] at h
      rw [if_neg (fun z => z.2 z1)] at h
      split at h <;> cases h
    have qd : m.quoted r c = m.add c := by
      unfold MS.quoted
      rw [if_neg hq, if_neg nb]
    rw [qd]
    exact ⟨rfl, h1, h2, by simp [MS.add, h3], rfl⟩
theorem stp_bend {r : RS} (ok : r.Ok) {s : So} (hs : s ∈ r.sts) {u : Tx} {b : Nat} (hb : r.bend = [b]) (h : s = none ∨ ∃ q ∈ r.soft, s = some q) : ∀ m : MS, m.state = sT s → m.bent = false → m.word = some u →
    (m.step r b).2 = [] ∧ (m.step r b).1.state = sT s ∧ (m.step r b).1.bent = true ∧ (m.step r b).1.word = some u ∧ (m.step r b).1.begun = m.begun := fun m h1 h2 h3 => by
  have mb : b ∈ r.bend := by rw [hb]; exact List.mem_singleton.mpr rfl
  have d := ok.dis
  rcases h with rfl | ⟨q, hq, rfl⟩
  · rw [step_plain h1 h2]
    have pl : m.plain r b = ({ m with bent := true, opened := m.place }, []) := by
      unfold MS.plain
      rw [if_neg (d.bb b mb), if_neg (d.bn b mb), if_neg (d.bq b mb), if_pos mb, begin_some h3]
    rw [pl]
    exact ⟨rfl, h1, rfl, h3, rfl⟩
  · rw [step_quoted h1 h2]
    have hq' : ¬ ([b] = m.state) := fun z => by
      rw [h1] at z
      have e : b = q := by injection z
      subst e
      exact d.bq b mb (List.mem_append_right _ hq)
    have qd : m.quoted r b = { m with bent := true } := by
      unfold MS.quoted
      rw [if_neg hq', if_pos ⟨mb, by rw [h1]; simpa [sT] using hq⟩]
    rw [qd]
    exact ⟨rfl, h1, rfl, h3, rfl⟩
theorem stp_open {r : RS} (ok : r.Ok) {q : Nat} (hq : q ∈ r.quotes) (u : Tx) : Stp r none u q (some q) u := fun m h1 h2 h3 => by
  have d := ok.dis
  rw [step_plain h1 h2]
  have pl : m.plain r q = ({ m with state := [q], opened := m.place }, []) := by
    unfold MS.plain
    rw [if_neg (d.qb q hq), if_neg (d.qn q hq), if_pos hq, begin_some h3]
  rw [pl]
  exact ⟨rfl, rfl, h2, h3, rfl⟩
theorem stp_shut {r : RS} (q : Nat) (u : Tx) : Stp r (some q) u q none u := fun m h1 h2 h3 => by
  rw [step_quoted h1 h2]
  have qd : m.quoted r q = { m with state := [] } := by
    unfold MS.quoted
    rw [if_pos (by rw [h1]; rfl)]
  rw [qd]
  exact ⟨rfl, rfl, h2, h3, rfl⟩
/-- what a sign costs -/
theorem cost_two {r : RS} {s : So} {c n : Nat} (hs : s ∈ r.sts) (h : costT r s c = some n) : n = 1 ∨ (n = 2 ∧ r.bend ≠ [] ∧ (s = none ∨ ∃ q ∈ r.soft, s = some q)) := by
  cases s with
  | none =>
    simp only [costT] at h
    split at h
    · split at h
      · rename_i hb
        cases h
        exact .inr ⟨rfl, hb, .inl rfl⟩
      · cases h
    · cases h
      exact .inl rfl
  | some q =>
    simp only [costT] at h
    split at h
    · split at h
      · cases h; exact .inl rfl
      · cases h
    · rename_i hh
      split at h
      · cases h; exact .inl rfl
      · split at h
        · rename_i hb
          cases h
          refine .inr ⟨rfl, hb, .inr ⟨q, ?_, rfl⟩⟩
          have : q ∈ r.quotes := by simpa [RS.sts] using hs
          exact (List.mem_append.mp this).elim (fun z => absurd z hh) id
        · cases h
/-- a sign by its cost -/
theorem Runs.sign {r : RS} (ok : r.Ok) {s : So} (hs : s ∈ r.sts) {u t w : Tx} {c n : Nat} (h : costT r s c = some n) (k : Runs r s (u ++ [c]) t w) :
    Runs r s u ((if n = 1 then [c] else r.bend ++ [c]) ++ t) w ∧ (if n = 1 then [c] else r.bend ++ [c]).length = n := by
  rcases cost_two hs h with rfl | ⟨rfl, hb, hh⟩
  · exact ⟨Runs.cons (stp_self ok hs h) k, rfl⟩
  · obtain ⟨b, hb⟩ := r.bend_one ok hb
    rw [if_neg (by decide), hb]
    exact ⟨Runs.bent (stp_bend ok hs hb hh) k, rfl⟩
/-! ### rows -/
theorem sts_len (r : RS) : r.sts.length = r.quotes.length + 1 := by simp [RS.sts]
abbrev gt (l : List Nat) (k : Nat) : Nat := l.getD k 0
theorem gt_mem {l : List Nat} {k : Nat} (h : k < l.length) : gt l k ∈ l := by
  rw [gt, List.getD_eq_getElem?_getD, List.getElem?_eq_getElem h]
  exact List.getElem_mem h
theorem mem_gt {l : List Nat} {y : Nat} (h : y ∈ l) : ∃ k, k < l.length ∧ gt l k = y := by
  obtain ⟨k, hk, e⟩ := List.getElem_of_mem h
  exact ⟨k, hk, by rw [gt, List.getD_eq_getElem?_getD, List.getElem?_eq_getElem hk]; exact e⟩
structure Ent (l e : List Nat) : Prop where
  a : gt e 0 ≤ gt l 0
  b : ∀ k, 1 ≤ k → k < l.length → gt e 0 ≤ gt l k + 1
  c : gt e 0 = gt l 0 ∨ ∃ k, 1 ≤ k ∧ k < l.length ∧ gt e 0 = gt l k + 1
  d : ∀ k, 1 ≤ k → k < l.length → gt e k = min (gt l k) (gt e 0 + 1)
theorem entered_ent {l : List Nat} (ne : l ≠ []) : Ent l (enteredT l) := by
  cases l with
  | nil => exact absurd rfl ne
  | cons x xs =>
    obtain ⟨h1, h2, h3⟩ := low_spec xs x
    refine ⟨h1, fun k k1 k2 => ?_, ?_, fun k k1 k2 => ?_⟩
    · obtain ⟨j, rfl⟩ : ∃ j, k = j + 1 := ⟨k - 1, by omega⟩
      exact h2 _ (gt_mem (l := xs) (by simpa using k2))
    · rcases h3 with h | ⟨y, hy, h⟩
      · exact .inl h
      · obtain ⟨k, hk, e⟩ := mem_gt hy
        exact .inr ⟨k + 1, by omega, by simpa using hk, by rw [show gt (x :: xs) (k + 1) = gt xs k from rfl, e]; exact h⟩
    · obtain ⟨j, rfl⟩ : ∃ j, k = j + 1 := ⟨k - 1, by omega⟩
      have k2' : j < xs.length := by simpa using k2
      show (xs.map fun y => min y (lowT x xs + 1)).getD j 0 = min (xs.getD j 0) (lowT x xs + 1)
      rw [List.getD_eq_getElem?_getD, List.getD_eq_getElem?_getD, List.getElem?_map, List.getElem?_eq_getElem k2']
      rfl
theorem next_len {r : RS} {row : List Nat} {c : Nat} (h : row.length = r.sts.length) : (nextT r row c).length = r.sts.length := by
  rw [nextT, List.length_zipWith, h, Nat.min_self]
theorem next_gt {r : RS} {row : List Nat} {c k : Nat} (h : row.length = r.sts.length) (hk : k < r.sts.length) :
    gt (nextT r row c) k = (match costT r (r.sts.getD k none) c with | none => (99 : Nat) | some n => (gt row k + n : Nat)) := by
  have e : (nextT r row c)[k]? = some (match costT r (r.sts.getD k none) c with | none => 99 | some n => gt row k + n) := by
    rw [nextT, List.getElem?_zipWith, List.getElem?_eq_getElem (by omega), List.getElem?_eq_getElem hk]
    simp only [gt, List.getD_eq_getElem?_getD, List.getElem?_eq_getElem hk, List.getElem?_eq_getElem (show k < row.length by omega)]
    rfl
  rw [gt, List.getD_eq_getElem?_getD, e]
  rfl
theorem next_none {r : RS} {row : List Nat} {c k : Nat} (h : row.length = r.sts.length) (hk : k < r.sts.length) (hc : costT r (r.sts.getD k none) c = none) : gt (nextT r row c) k = 99 := by
  have g := next_gt (c := c) h hk
  rw [hc] at g
  exact g
theorem next_some {r : RS} {row : List Nat} {c k n : Nat} (h : row.length = r.sts.length) (hk : k < r.sts.length) (hc : costT r (r.sts.getD k none) c = some n) : gt (nextT r row c) k = gt row k + n := by
  have g := next_gt (c := c) h hk
  rw [hc] at g
  exact g
theorem cur_len' (r : RS) (u : Tx) : (curT r u).length = r.sts.length := by rw [cur_len, sts_len]
theorem row0_gt {r : RS} {k : Nat} (hk : k < r.sts.length) : gt (row0 r) k = if k = 0 then 0 else 1 := by
  have hl : (0 :: List.replicate r.quotes.length 99).length = r.sts.length := by simp [RS.sts]
  have e := entered_ent (l := 0 :: List.replicate r.quotes.length 99) (by simp)
  have a := e.a
  have z : gt (row0 r) 0 = 0 := Nat.le_zero.mp a
  by_cases h : k = 0
  · subst h; simpa using z
  · rw [if_neg h]
    have d := e.d k (by omega) (by omega)
    rw [show enteredT (0 :: List.replicate r.quotes.length 99) = row0 r from rfl, z] at d
    have r99 : gt (0 :: List.replicate r.quotes.length 99) k = 99 := by
      obtain ⟨j, rfl⟩ : ∃ j, k = j + 1 := ⟨k - 1, by omega⟩
      show (List.replicate r.quotes.length 99).getD j 0 = 99
      rw [sts_len] at hk
      rw [List.getD_eq_getElem?_getD, List.getElem?_replicate, if_pos (by omega)]
      rfl
    rw [r99] at d
    omega
/-- a sign can be written somewhere -/
def canT (r : RS) (c : Nat) : Prop := ∃ s ∈ r.sts, (costT r s c).isSome = true
theorem can_of {r : RS} {w : Tx} (h : cannotT r w = false) (ne : w ≠ []) : ∀ c ∈ w, canT r c := by
  rw [cannotT, if_neg ne] at h
  intro c hc
  have h1 := List.any_eq_false.mp h c hc
  rw [Bool.not_eq_true, List.all_eq_false] at h1
  obtain ⟨s, hs, h2⟩ := h1
  exact ⟨s, hs, by cases e : costT r s c <;> simp_all⟩
theorem sts_at {r : RS} {s : So} (h : s ∈ r.sts) : ∃ k, k < r.sts.length ∧ r.sts.getD k none = s := by
  obtain ⟨k, hk, e⟩ := List.getElem_of_mem h
  exact ⟨k, hk, by rw [List.getD_eq_getElem?_getD, List.getElem?_eq_getElem hk]; exact e⟩
theorem at_sts {r : RS} {k : Nat} (h : k < r.sts.length) : r.sts.getD k none ∈ r.sts := by
  rw [List.getD_eq_getElem?_getD, List.getElem?_eq_getElem h]
  exact List.getElem_mem h
theorem sts_zero (r : RS) : r.sts.getD 0 none = none := rfl
theorem sts_succ {r : RS} {k : Nat} (h : k < r.sts.length) (h1 : 1 ≤ k) : ∃ q ∈ r.quotes, r.sts.getD k none = some q := by
  obtain ⟨j, rfl⟩ : ∃ j, k = j + 1 := ⟨k - 1, by omega⟩
  have hj : j < r.quotes.length := by rw [sts_len] at h; omega
  refine ⟨r.quotes[j], List.getElem_mem hj, ?_⟩
  show (r.quotes.map some).getD j none = _
  rw [List.getD_eq_getElem?_getD, List.getElem?_map, List.getElem?_eq_getElem hj]
  rfl
/-- the numbers of a row and the next -/
structure Nxt (r : RS) (row row' : List Nat) (c : Nat) : Prop where
  l : row.length = r.sts.length
  l' : row'.length = r.sts.length
  e : Ent (nextT r row c) row'
theorem cur_nxt (r : RS) (u : Tx) (c : Nat) : Nxt r (curT r u) (curT r (u ++ [c])) c := by
  refine ⟨cur_len' r u, cur_len' r _, ?_⟩
  rw [curT_snoc]
  refine entered_ent fun z => ?_
  have := next_len (c := c) (cur_len' r u)
  rw [z] at this
  simp [RS.sts] at this
theorem Nxt.le {r : RS} {row row' : List Nat} {c : Nat} (h : Nxt r row row' c) {k n : Nat} (hk : k < r.sts.length) (hc : costT r (r.sts.getD k none) c = some n) : gt row' k ≤ gt row k + n := by
  have nl := next_len (c := c) h.l
  have g := next_some (c := c) h.l hk hc
  by_cases k0 : k = 0
  · subst k0
    have := h.e.a
    omega
  · have := h.e.d k (by omega) (by omega)
    omega
theorem Nxt.one {r : RS} {row row' : List Nat} {c : Nat} (h : Nxt r row row' c) {k : Nat} (hk : k < r.sts.length) : gt row' k ≤ gt row' 0 + 1 ∧ gt row' 0 ≤ gt row' k + 1 := by
  have nl := next_len (c := c) h.l
  by_cases k0 : k = 0
  · subst k0; omega
  · have a := h.e.d k (by omega) (by omega)
    have b := h.e.b k (by omega) (by omega)
    omega
theorem cur_one (r : RS) (u : Tx) {k : Nat} (hk : k < r.sts.length) : gt (curT r u) k ≤ gt (curT r u) 0 + 1 ∧ gt (curT r u) 0 ≤ gt (curT r u) k + 1 := by
  rcases List.eq_nil_or_concat u with rfl | ⟨v, c, rfl⟩
  · have a : gt (curT r []) k = _ := row0_gt hk
    have b : gt (curT r []) 0 = _ := row0_gt (k := 0) (by omega)
    rw [a, b]
    simp only [if_true]
    split <;> omega
  · rw [List.concat_eq_append]
    exact (cur_nxt r v c).one hk
theorem cur_low {r : RS} : ∀ (n : Nat) (u : Tx), u.length = n → (∀ c ∈ u, canT r c) → gt (curT r u) 0 ≤ 4 * u.length := by
  intro n
  induction n with
  | zero =>
    intro u hu _
    cases List.eq_nil_of_length_eq_zero hu
    have b : gt (curT r []) 0 = _ := row0_gt (k := 0) (by simp [RS.sts])
    rw [b]; simp
  | succ n ih =>
    intro u hu hc
    rcases List.eq_nil_or_concat u with rfl | ⟨v, c, rfl⟩
    · cases hu
    · rw [List.concat_eq_append] at *
      have hv : v.length = n := by simpa using hu
      have h1 := ih v hv fun x hx => hc x (List.mem_append_left _ hx)
      obtain ⟨s, hs, h2⟩ := hc c (by simp)
      obtain ⟨k, hk, rfl⟩ := sts_at hs
      obtain ⟨m, hm⟩ := Option.isSome_iff_exists.mp h2
      have h3 := (cur_nxt r v c).le hk hm
      have h4 := cur_one r v hk
      have h5 := (cur_nxt r v c).one hk
      have h6 : m ≤ 2 := by rcases cost_two hs hm with h | h <;> omega
      rw [List.length_append]
      simp only [List.length_cons, List.length_nil]
      omega
theorem rowAt_rows {r : RS} {w : Tx} {i : Nat} (h : i ≤ w.length) : rowAt (rowsT r w) i = curT r (w.take i) := by
  rw [rowAt, rowsT, List.getD_eq_getElem?_getD, List.getElem?_map, List.getElem?_range (by omega)]
  rfl
/-- where a number came from -/
theorem Nxt.from_ {r : RS} {row row' : List Nat} {c : Nat} (h : Nxt r row row' c) (hl : gt row' 0 ≤ 90) {k : Nat} (hk : k < r.sts.length) :
    (∃ n, costT r (r.sts.getD k none) c = some n ∧ gt row k + n = gt row' k) ∨ (1 ≤ k ∧ gt row' k = gt row' 0 + 1) ∨ (k = 0 ∧ ∃ j, 1 ≤ j ∧ j < r.sts.length ∧ gt row' j + 1 = gt row' 0) := by
  have nl := next_len (c := c) h.l
  by_cases k0 : k = 0
  · subst k0
    rcases h.e.c with e | ⟨j, j1, j2, e⟩
    · cases hc : costT r (r.sts.getD 0 none) c with
      | none => have g := next_none (c := c) h.l hk hc; omega
      | some n => have g := next_some (c := c) h.l hk hc; exact .inl ⟨n, rfl, by omega⟩
    · refine .inr (.inr ⟨rfl, j, j1, by omega, ?_⟩)
      have := h.e.d j j1 j2
      omega
  · have d := h.e.d k (by omega) (by omega)
    have one := h.one hk
    cases hc : costT r (r.sts.getD k none) c with
    | none =>
      have g := next_none (c := c) h.l hk hc
      exact .inr (.inl ⟨by omega, by omega⟩)
    | some n =>
      have g := next_some (c := c) h.l hk hc
      by_cases q : gt row k + n = gt row' k
      · exact .inl ⟨n, rfl, q⟩
      · exact .inr (.inl ⟨by omega, by omega⟩)
theorem take_pred {w : Tx} {n : Nat} (h : n + 1 ≤ w.length) : w.take (n + 1) = w.take n ++ [w.getD n 0] := by
  have e : w[n]? = some (w.getD n 0) := by
    rw [List.getD_eq_getElem?_getD, List.getElem?_eq_getElem (by omega)]
    rfl
  exact take_at e
/-- the writing by the heights -/
def Good (r : RS) (w t : Tx) (n : Nat) : Prop := t.length = n ∧ Runs r none [] t w
theorem go_ok {r : RS} (ok : r.Ok) {w : Tx} (hw : ∀ c ∈ w, canT r c) (hl : w.length ≤ 22) : ∀ at_, at_ ≤ w.length → ∀ st, st < r.sts.length → ∀ (found : Tx) (fuel : Nat), 3 * at_ + 2 ≤ fuel →
    Runs r (r.sts.getD st none) (w.take at_) found w → ∃ t, wrGo r w (rowsT r w) fuel found at_ st = some t ∧ Good r w t (found.length + gt (curT r (w.take at_)) st) := by
  intro at_
  induction at_ with
  | zero =>
    intro _ st hst found fuel hf hr
    have g0 : ∀ k, k < r.sts.length → gt (curT r (w.take 0)) k = if k = 0 then 0 else 1 := fun k hk => row0_gt hk
    obtain ⟨f, rfl⟩ : ∃ f, fuel = f + 2 := ⟨fuel - 2, by omega⟩
    have zero : ∀ (n : Nat) (found : Tx), Runs r none [] found w → ∃ t, wrGo r w (rowsT r w) (n + 1) found 0 0 = some t ∧ Good r w t found.length := fun n found h => by
      refine ⟨found, ?_, rfl, h⟩
      rw [wrGo, if_pos ⟨rfl, rfl⟩]
    by_cases s0 : st = 0
    · subst s0
      rw [g0 0 hst]
      exact zero _ found hr
    · obtain ⟨q, hq, e⟩ := sts_succ hst (by omega)
      rw [e] at hr
      rw [wrGo, if_neg (fun z => s0 z.2)]
      have hh : wrHit r w (rowsT r w) 0 st = none := by unfold wrHit; rw [if_pos rfl]
      rw [hh, if_pos (by omega), e]
      obtain ⟨t, h1, h2⟩ := zero f (q :: found) (Runs.cons (stp_open ok hq _) hr)
      refine ⟨t, h1, ?_⟩
      rw [g0 st hst, if_neg s0]
      simpa using h2
  | succ n ih =>
    intro hn st hst found fuel hf hr
    have nx := cur_nxt r (w.take n) (w.getD n 0)
    rw [← take_pred hn] at nx
    have low := cur_low (r := r) _ (w.take (n + 1)) rfl fun c hc => hw c (List.mem_of_mem_take hc)
    rw [List.length_take] at low
    have low : gt (curT r (w.take (n + 1))) 0 ≤ 90 := by omega
    have ra := rowAt_rows (r := r) hn
    have rb := rowAt_rows (r := r) (w := w) (i := n) (by omega)
    -- where the sign is taken
    have hit : ∀ (st : Nat) (found : Tx) (f : Nat), st < r.sts.length → 3 * n + 3 ≤ f → Runs r (r.sts.getD st none) (w.take (n + 1)) found w → (∃ m, costT r (r.sts.getD st none) (w.getD n 0) = some m ∧ gt (curT r (w.take n)) st + m = gt (curT r (w.take (n + 1))) st) →
        ∃ t, wrGo r w (rowsT r w) f found (n + 1) st = some t ∧ Good r w t (found.length + gt (curT r (w.take (n + 1))) st) := fun st found f hst hf hr ⟨m, hm, e⟩ => by
      obtain ⟨f, rfl⟩ : ∃ f', f = f' + 1 := ⟨f - 1, by omega⟩
      have hh : wrHit r w (rowsT r w) (n + 1) st = some m := by
        unfold wrHit
        rw [if_neg (Nat.succ_ne_zero n), Nat.add_sub_cancel, hm, ra, rb]
        dsimp only
        rw [if_pos e]
      rw [wrGo, if_neg (fun z => Nat.succ_ne_zero n z.1), hh]
      rw [take_pred hn] at hr
      obtain ⟨r1, r2⟩ := Runs.sign ok (at_sts hst) hm hr
      obtain ⟨t, h1, h2, h3⟩ := ih (by omega) st hst _ f (by omega) r1
      refine ⟨t, ?_, ?_, h3⟩
      · rw [Nat.add_sub_cancel]
        exact h1
      · rw [h2, List.length_append, r2]; omega
    have miss : ∀ (st : Nat), (¬ ∃ m, costT r (r.sts.getD st none) (w.getD n 0) = some m ∧ gt (curT r (w.take n)) st + m = gt (curT r (w.take (n + 1))) st) → wrHit r w (rowsT r w) (n + 1) st = none := fun st h => by
      unfold wrHit
      rw [if_neg (Nat.succ_ne_zero n), Nat.add_sub_cancel, ra, rb]
      cases hm : costT r (r.sts.getD st none) (w.getD n 0) with
      | none => rfl
      | some m =>
        dsimp only
        rw [if_neg (fun z => h ⟨m, hm, z⟩)]
    -- in plain
    have plain : ∀ (found : Tx) (f : Nat), 3 * n + 4 ≤ f → Runs r none (w.take (n + 1)) found w →
        ∃ t, wrGo r w (rowsT r w) f found (n + 1) 0 = some t ∧ Good r w t (found.length + gt (curT r (w.take (n + 1))) 0) := fun found f hf hr => by
      by_cases h : ∃ m, costT r (r.sts.getD 0 none) (w.getD n 0) = some m ∧ gt (curT r (w.take n)) 0 + m = gt (curT r (w.take (n + 1))) 0
      · exact hit 0 found f (by omega) (by omega) hr h
      · obtain ⟨f, rfl⟩ : ∃ f', f = f' + 1 := ⟨f - 1, by omega⟩
        rw [wrGo, if_neg (fun z => Nat.succ_ne_zero n z.1), miss 0 h]
        dsimp only
        rw [if_neg (Nat.lt_irrefl 0)]
        rcases nx.from_ low (k := 0) (by omega) with c | c | ⟨_, j, j1, j2, j3⟩
        · exact absurd c h
        · omega
        have mem : j ∈ wrOn r (rowsT r w) (n + 1) := by
          rw [wrOn, List.mem_filter, List.mem_range'_1, ra]
          exact ⟨by omega, decide_eq_true j3⟩
        cases hon : wrOn r (rowsT r w) (n + 1) with
        | nil => rw [hon] at mem; cases mem
        | cons k1 more =>
          have mem1 : k1 ∈ wrOn r (rowsT r w) (n + 1) := by rw [hon]; exact List.mem_cons_self
          rw [wrOn, List.mem_filter, List.mem_range'_1, ra] at mem1
          have e1 : gt (curT r (w.take (n + 1))) k1 + 1 = gt (curT r (w.take (n + 1))) 0 := of_decide_eq_true mem1.2
          have hk1 : k1 < r.sts.length := by omega
          obtain ⟨q, hq, e⟩ := sts_succ hk1 (by omega)
          dsimp only
          rw [e]
          have hr' : Runs r (r.sts.getD k1 none) (w.take (n + 1)) ([q] ++ found) w := by
            rw [e]
            exact Runs.cons (stp_shut q _) hr
          obtain ⟨t, h1, h2, h3⟩ := hit k1 ([q] ++ found) f hk1 (by omega) hr' (by
            rcases nx.from_ low hk1 with c | c | c
            · exact c
            · omega
            · omega)
          exact ⟨t, h1, by rw [h2]; simp only [List.length_append, List.length_cons, List.length_nil]; omega, h3⟩
    by_cases s0 : st = 0
    · subst s0
      exact plain found fuel (by omega) hr
    by_cases h : ∃ m, costT r (r.sts.getD st none) (w.getD n 0) = some m ∧ gt (curT r (w.take n)) st + m = gt (curT r (w.take (n + 1))) st
    · exact hit st found fuel hst (by omega) hr h
    · obtain ⟨f, rfl⟩ : ∃ f', fuel = f' + 1 := ⟨fuel - 1, by omega⟩
      rw [wrGo, if_neg (fun z => Nat.succ_ne_zero n z.1), miss st h]
      dsimp only
      rw [if_pos (by omega)]
      obtain ⟨q, hq, e⟩ := sts_succ hst (by omega)
      rw [e] at hr ⊢
      obtain ⟨t, h1, h2, h3⟩ := plain ([q] ++ found) f (by omega) (Runs.cons (stp_open ok hq _) hr)
      refine ⟨t, h1, ?_, h3⟩
      rw [h2]
      simp only [List.length_append, List.length_cons, List.length_nil]
      rcases nx.from_ low hst with c | c | c
      · exact absurd c h
      · omega
      · omega
/-- the fewest signs for a word -/
def leastT (r : RS) (w : Tx) : Nat := if w = [] then 2 else gt (curT r w) 0
theorem one_ok {r : RS} (ok : r.Ok) {w : Tx} (h : cannotT r w = false) (hl : w.length ≤ 12) : ∃ t, oneT r w = some (t, if w = [] then [] else rowsT r w) ∧ t.length = leastT r w ∧ t ≠ [] ∧ Runs r none [] t w := by
  by_cases ne : w = []
  · subst ne
    rw [cannotT, if_pos rfl, decide_eq_false_iff_not] at h
    cases hq : r.quotes with
    | nil => exact absurd hq h
    | cons q more =>
      have mq : q ∈ r.quotes := by rw [hq]; exact List.mem_cons_self
      refine ⟨[q, q], by simp [oneT, hq], by simp [leastT], by simp, ?_⟩
      exact Runs.cons (stp_open ok mq _) (Runs.cons (stp_shut q _) (Runs.nil r []))
  · obtain ⟨t, h1, h2, h3⟩ := go_ok ok (can_of h ne) (by omega) w.length (Nat.le_refl _) 0 (by simp [RS.sts]) [] 1000 (by omega) (by rw [List.take_length]; exact Runs.nil r w)
    rw [List.take_length] at h2
    refine ⟨t, ?_, ?_, fun z => ?_, h3⟩
    · rw [oneT, if_neg ne, wrT, h1, if_neg ne]
      rfl
    · rw [h2, leastT, if_neg ne]
      simp
    · subst z
      obtain ⟨_, _, _, e, _⟩ := h3 { MS.zero 0 with word := some [] } rfl rfl rfl
      exact ne (by injection e with e; exact e.symm)
/-! ### no text is shorter -/
def totT (r : RS) (ds : List W3) : Nat := (ds.map fun d => leastT r d.1 + 1).sum
theorem totT_app (r : RS) (a b : List W3) : totT r (a ++ b) = totT r a + totT r b := by simp [totT]
structure WInv (r : RS) (m : MS) (u : Tx) (x n k : Nat) : Prop where
  hk : k < r.sts.length
  st : m.state = sT (r.sts.getD k none)
  ca : ∀ c ∈ u, canT r c
  be : m.bent = true → r.bend ≠ [] ∧ (r.sts.getD k none = none ∨ ∃ q ∈ r.soft, r.sts.getD k none = some q)
  le : x + gt (curT r u) k + (if m.bent = true then 1 else 0) ≤ n
  em : u = [] → k = 0 → m.bent = false → x + 2 ≤ n ∧ r.quotes ≠ []
structure LInv (r : RS) (m : MS) (ds : List W3) (n : Nat) : Prop where
  wr : ∀ d ∈ ds, cannotT r d.1 = false
  non : m.word = none → m.bent = false ∧ (m.state = [] ∨ m.state = NT) ∧ totT r ds ≤ n
  som : ∀ u, m.word = some u → ∃ k, WInv r m u (totT r ds) n k
theorem step_nt {r : RS} {m : MS} (hs : m.state = NT) (hb : m.bent = false) : m.step r LE = ({ m with state := [] } : MS).step r LE := by
  rw [step_plain (m := { m with state := [] }) rfl hb]
  unfold MS.step
  rw [if_pos ⟨hs, rfl⟩]
  simp only [hb, Bool.false_eq_true, if_false, if_true]
  rw [MS.place_plain]
theorem step_nt' {r : RS} {m : MS} {c : Nat} (hs : m.state = NT) (hb : m.bent = false) (hc : c ≠ LE) : m.step r c = ({ m with place := m.place + 1 }, []) := by
  unfold MS.step
  rw [if_neg (fun z => hc z.2)]
  simp only [hb, Bool.false_eq_true, if_false, hs, NT_nil, if_true]
theorem can_self {r : RS} {s : So} {c n : Nat} (hs : s ∈ r.sts) (h : costT r s c = some n) : canT r c := ⟨s, hs, by rw [h]; rfl⟩
theorem none_sts (r : RS) : none ∈ r.sts := List.mem_cons_self
theorem some_sts {r : RS} {q : Nat} (h : q ∈ r.quotes) : some q ∈ r.sts := List.mem_cons_of_mem _ (List.mem_map.mpr ⟨q, h, rfl⟩)
theorem cannot_of {r : RS} {u : Tx} (h : ∀ c ∈ u, canT r c) (e : u = [] → r.quotes ≠ []) : cannotT r u = false := by
  rw [cannotT]
  split
  · rename_i z; exact decide_eq_false (e z)
  · rw [List.any_eq_false]
    intro c hc
    obtain ⟨s, hs, z⟩ := h c hc
    rw [Bool.not_eq_true, List.all_eq_false]
    exact ⟨s, hs, by cases e : costT r s c <;> simp_all⟩
/-- a sign more -/
theorem WInv.add {r : RS} {m' : MS} {u : Tx} {x n k c j e : Nat} (hk : k < r.sts.length) (hs : m'.state = sT (r.sts.getD k none)) (ca : ∀ c ∈ u, canT r c) (le : x + gt (curT r u) k + e ≤ n) (hb : m'.bent = false) (hc : costT r (r.sts.getD k none) c = some j) (hj : j ≤ e + 1) : WInv r m' (u ++ [c]) x (n + 1) k := by
  have nx := (cur_nxt r u c).le hk hc
  refine ⟨hk, hs, fun d hd => ?_, fun z => (by rw [hb] at z; cases z), ?_, fun z => (by simp at z)⟩
  · rcases List.mem_append.mp hd with hd | hd
    · exact ca d hd
    · rw [List.mem_singleton.mp hd]
      exact can_self (at_sts hk) hc
  · rw [hb]
    simp only [Bool.false_eq_true, if_false]
    omega
theorem plain_cost {r : RS} {c : Nat} (h1 : c ∉ r.breaks) (h2 : c ∉ r.note) (h3 : c ∉ r.quotes) (h4 : c ∉ r.bend) : costT r none c = some 1 := by
  have : c ∉ r.spec := by simp only [RS.spec, List.mem_append, not_or]; exact ⟨h1, h3, h4, h2⟩
  simp only [costT, if_neg this]
theorem cur_nil {r : RS} {k : Nat} (hk : k < r.sts.length) : gt (curT r []) k = if k = 0 then 0 else 1 := row0_gt hk
theorem sts_pos (r : RS) : 0 < r.sts.length := by simp [RS.sts]
theorem LInv.plain {r : RS} (ok : r.Ok) {m : MS} {ds : List W3} {n : Nat} (h : LInv r m ds n) (hs : m.state = []) (hb : m.bent = false) (c : Nat) : LInv r (m.step r c).1 (ds ++ (m.step r c).2) (n + 1) := by
  rw [step_plain hs hb]
  have ended : (∀ d ∈ m.out, cannotT r d.1 = false) ∧ totT r (ds ++ m.out) ≤ n + 1 := by
    cases hw : m.word with
    | none =>
      have o : m.out = [] := by unfold MS.out; rw [hw]
      rw [o, List.append_nil]
      exact ⟨fun _ z => (nomatch z), Nat.le_succ_of_le (h.non hw).2.2⟩
    | some u =>
      have o : m.out = [(u, m.begun, m.place)] := by unfold MS.out; rw [hw]
      obtain ⟨k, i⟩ := h.som u hw
      have k0 : k = 0 := by
        rcases Nat.eq_zero_or_pos k with z | z
        · exact z
        · obtain ⟨q, _, e⟩ := sts_succ i.hk z
          have := i.st
          rw [e, hs] at this
          cases this
      subst k0
      rw [o, totT_app]
      have le := i.le
      rw [hb] at le
      simp only [Bool.false_eq_true, if_false] at le
      refine ⟨fun d hd => ?_, ?_⟩
      · rw [List.mem_singleton.mp hd]
        exact cannot_of i.ca fun z => (i.em z rfl hb).2
      · show totT r ds + (leastT r u + 1 + 0) ≤ n + 1
        unfold leastT
        split
        · rename_i z
          have := (i.em z rfl hb).1
          omega
        · omega
  have wr' : ∀ {x}, (∀ d ∈ x, cannotT r d.1 = false) → ∀ d ∈ ds ++ x, cannotT r d.1 = false := fun hx d hd => (List.mem_append.mp hd).elim (h.wr d) (hx d)
  unfold MS.plain
  by_cases c1 : c ∈ r.breaks
  · rw [if_pos c1]
    exact ⟨wr' ended.1, fun _ => ⟨hb, .inl hs, ended.2⟩, fun u z => (nomatch z)⟩
  rw [if_neg c1]
  by_cases c2 : c ∈ r.note
  · rw [if_pos c2]
    exact ⟨wr' ended.1, fun _ => ⟨hb, .inr rfl, ended.2⟩, fun u z => (nomatch z)⟩
  rw [if_neg c2]
  have bs : m.begin.state = [] := by unfold MS.begin; split <;> exact hs
  have bb : m.begin.bent = false := by unfold MS.begin; split <;> exact hb
  -- the word is there
  obtain ⟨u, hu, ca, le⟩ : ∃ u, m.begin.word = some u ∧ (∀ c ∈ u, canT r c) ∧ totT r ds + gt (curT r u) 0 ≤ n := by
    unfold MS.begin
    cases hw : m.word with
    | none =>
      refine ⟨[], rfl, fun _ z => (nomatch z), ?_⟩
      rw [cur_nil (sts_pos r)]
      simp only [if_true]
      exact (h.non hw).2.2
    | some u =>
      obtain ⟨k, i⟩ := h.som u hw
      have k0 : k = 0 := by
        rcases Nat.eq_zero_or_pos k with z | z
        · exact z
        · obtain ⟨q, _, e⟩ := sts_succ i.hk z
          have := i.st
          rw [e, hs] at this
          cases this
      subst k0
      exact ⟨u, hw, i.ca, by have := i.le; omega⟩
  by_cases c3 : c ∈ r.quotes
  · rw [if_pos c3, List.append_nil]
    refine ⟨h.wr, fun z => (by rw [hu] at z; cases z), fun v hv => ?_⟩
    rw [hu] at hv
    cases hv
    obtain ⟨k, hk, e⟩ := sts_at (some_sts c3)
    have kp : k ≠ 0 := fun z => by subst z; cases e
    have := (cur_one r u hk).1
    refine ⟨k, hk, by rw [e]; rfl, ca, fun z => (by rw [bb] at z; cases z), ?_, fun _ z => absurd z kp⟩
    simp only [bb, Bool.false_eq_true, if_false]
    omega
  rw [if_neg c3]
  by_cases c4 : c ∈ r.bend
  · rw [if_pos c4, List.append_nil]
    refine ⟨h.wr, fun z => (by rw [hu] at z; cases z), fun v hv => ?_⟩
    rw [hu] at hv
    cases hv
    refine ⟨0, sts_pos r, bs, ca, fun _ => ⟨fun z => (by rw [z] at c4; cases c4), .inl rfl⟩, ?_, fun _ _ z => (nomatch z)⟩
    simp only [if_true]
    omega
  rw [if_neg c4, List.append_nil]
  have hw : (m.begin.add c).word = some (u ++ [c]) := by simp [MS.add, hu]
  refine ⟨h.wr, fun z => (by rw [hw] at z; cases z), fun v hv => ?_⟩
  rw [hw] at hv
  cases hv
  exact ⟨0, WInv.add (sts_pos r) bs ca (e := 0) (by omega) bb (plain_cost c1 c2 c3 c4) (by omega)⟩
theorem LInv.step {r : RS} (ok : r.Ok) {m : MS} {ds : List W3} {n : Nat} (h : LInv r m ds n) (c : Nat) : LInv r (m.step r c).1 (ds ++ (m.step r c).2) (n + 1) := by
  by_cases hb : m.bent = true
  · -- a bent sign
    cases hw : m.word with
    | none => have := (h.non hw).1; rw [hb] at this; cases this
    | some u =>
      obtain ⟨k, i⟩ := h.som u hw
      obtain ⟨b1, b2⟩ := i.be hb
      have nt : m.state ≠ NT := by
        rw [i.st]
        rcases b2 with e | ⟨q, _, e⟩
        · rw [e]; exact nil_NT
        · rw [e]; exact one_NT q
      rw [step_bent nt hb, List.append_nil]
      have hw' : (({ m with bent := false } : MS).add c).word = some (u ++ [c]) := by simp [MS.add, hw]
      refine ⟨h.wr, fun z => (by rw [hw'] at z; cases z), fun v hv => ?_⟩
      rw [hw'] at hv
      cases hv
      have le := i.le
      rw [if_pos hb] at le
      obtain ⟨j, hj, hj2⟩ : ∃ j, costT r (r.sts.getD k none) c = some j ∧ j ≤ 2 := by
        rcases b2 with e | ⟨q, hq, e⟩
        · rw [e]
          simp only [costT, if_pos b1]
          split
          · exact ⟨2, rfl, by omega⟩
          · exact ⟨1, rfl, by omega⟩
        · rw [e]
          have hh : q ∉ r.hard := fun z => ok.dis.hs q z hq
          simp only [costT, if_neg hh, if_pos b1]
          split
          · exact ⟨1, rfl, by omega⟩
          · exact ⟨2, rfl, by omega⟩
      exact ⟨k, WInv.add i.hk i.st i.ca (e := 1) le rfl hj (by omega)⟩
  have hb : m.bent = false := by simpa using hb
  by_cases hs : m.state = []
  · exact h.plain ok hs hb c
  by_cases hn : m.state = NT
  · by_cases hc : c = LE
    · subst hc
      rw [step_nt hn hb]
      have hw : m.word = none := by
        cases hw : m.word with
        | none => rfl
        | some u =>
          obtain ⟨k, i⟩ := h.som u hw
          have := i.st
          rw [hn] at this
          cases e : r.sts.getD k none <;> rw [e] at this <;> cases this
      exact LInv.plain ok (m := { m with state := [] }) ⟨h.wr, fun _ => ⟨hb, .inl rfl, (h.non hw).2.2⟩, fun u z => by rw [show _ = m.word from rfl, hw] at z; cases z⟩ rfl hb LE
    · rw [step_nt' hn hb hc, List.append_nil]
      refine ⟨h.wr, fun z => ?_, fun u z => ?_⟩
      · have := h.non z
        exact ⟨this.1, this.2.1, Nat.le_succ_of_le this.2.2⟩
      · obtain ⟨k, i⟩ := h.som u z
        have := i.st
        rw [hn] at this
        cases e : r.sts.getD k none <;> rw [e] at this <;> cases this
  -- within a quote
  cases hw : m.word with
  | none => exact ((h.non hw).2.1.elim hs hn).elim
  | some u =>
    obtain ⟨k, i⟩ := h.som u hw
    have kp : 1 ≤ k := by
      rcases Nat.eq_zero_or_pos k with z | z
      · subst z
        exact absurd i.st hs
      · exact z
    obtain ⟨q, hq, e⟩ := sts_succ i.hk kp
    have st := i.st
    rw [e] at st
    have st : m.state = [q] := st
    have le := i.le
    rw [hb] at le
    simp only [Bool.false_eq_true, if_false] at le
    rw [step_quoted st hb, List.append_nil]
    have one := cur_one r u i.hk
    unfold MS.quoted
    by_cases c1 : [c] = m.state
    · rw [if_pos c1]
      refine ⟨h.wr, fun z => (by rw [show _ = m.word from rfl, hw] at z; cases z), fun v hv => ?_⟩
      rw [show _ = m.word from rfl, hw] at hv
      cases hv
      refine ⟨0, sts_pos r, rfl, i.ca, fun z => (by rw [show _ = m.bent from rfl, hb] at z; cases z), ?_, fun z _ _ => ?_⟩
      · show _ + (if m.bent = true then 1 else 0) ≤ _
        rw [hb]
        simp only [Bool.false_eq_true, if_false]
        omega
      · subst z
        have := cur_nil i.hk
        rw [if_neg (by omega)] at this
        exact ⟨by omega, fun z => by rw [z] at hq; cases hq⟩
    rw [if_neg c1]
    by_cases c2 : c ∈ r.bend ∧ m.state.all (· ∈ r.soft) = true
    · rw [if_pos c2]
      refine ⟨h.wr, fun z => (by rw [show _ = m.word from rfl, hw] at z; cases z), fun v hv => ?_⟩
      rw [show _ = m.word from rfl, hw] at hv
      cases hv
      refine ⟨k, i.hk, i.st, i.ca, fun _ => ⟨fun z => (by have := c2.1; rw [z] at this; cases this), .inr ⟨q, ?_, e⟩⟩, ?_, fun _ z => (by omega)⟩
      · have := c2.2
        rw [st] at this
        simpa using this
      · simp only [if_true]
        omega
    · rw [if_neg c2]
      have hw' : (m.add c).word = some (u ++ [c]) := by simp [MS.add, hw]
      refine ⟨h.wr, fun z => (by rw [show _ = (m.add c).word from rfl, hw'] at z; cases z), fun v hv => ?_⟩
      rw [show _ = (m.add c).word from rfl, hw'] at hv
      cases hv
      refine ⟨k, WInv.add i.hk i.st i.ca (e := 0) (j := 1) le hb ?_ (by omega)⟩
      rw [e]
      have cq : c ≠ q := fun z => c1 (by rw [st, z])
      by_cases hh : q ∈ r.hard
      · simp only [costT, if_pos hh, if_pos cq]
      · have hsf : q ∈ r.soft := (List.mem_append.mp hq).elim (fun z => absurd z hh) id
        have cb : c ∉ r.bend := fun z => c2 ⟨z, by rw [st]; simpa using hsf⟩
        simp only [costT, if_neg hh, if_pos (show c ≠ q ∧ c ∉ r.bend from ⟨cq, cb⟩)]
theorem LInv.run {r : RS} (ok : r.Ok) : ∀ (t : Tx) {m : MS} {ds : List W3} {n : Nat}, LInv r m ds n → LInv r (m.run r t).1 (ds ++ (m.run r t).2) (n + t.length)
  | [], m, ds, n, h => by rw [show (m.run r []).2 = [] from rfl, List.append_nil]; exact h
  | c :: t, m, ds, n, h => by
    have ih := LInv.run ok t (h.step ok c)
    rw [List.append_assoc] at ih
    rw [List.length_cons, show n + (t.length + 1) = n + 1 + t.length by omega]
    exact ih
/-- a text's words can be written, and as many signs are wanted at least -/
theorem read_least {r : RS} (ok : r.Ok) {t : Tx} {rp : Addr} {ds : List W3} (h : readAll r t rp = .ok ds) : (∀ d ∈ ds, cannotT r d.1 = false) ∧ totT r ds ≤ t.length + 1 := by
  have z : LInv r (MS.zero rp) [] 0 := ⟨fun _ z => (nomatch z), fun _ => ⟨rfl, .inl rfl, Nat.le_refl _⟩, fun u z => (nomatch z)⟩
  have i := LInv.run ok t z
  rw [List.nil_append, Nat.zero_add] at i
  unfold readAll at h
  split at h
  · cases h
  · rename_i hf
    cases h
    generalize ((MS.zero rp).run r t).1 = m at *
    generalize ((MS.zero rp).run r t).2 = ds at *
    cases hw : m.word with
    | none =>
      have o : m.out = [] := by unfold MS.out; rw [hw]
      rw [o, List.append_nil]
      exact ⟨i.wr, Nat.le_succ_of_le (i.non hw).2.2⟩
    | some u =>
      have o : m.out = [(u, m.begun, m.place)] := by unfold MS.out; rw [hw]
      obtain ⟨k, j⟩ := i.som u hw
      unfold MS.fault at hf
      have hf : ¬ (m.bent = true ∨ (m.state ≠ [] ∧ m.state ≠ NT)) := fun z => by rw [if_pos z] at hf; cases hf
      have hb : m.bent = false := by
        cases e : m.bent with
        | true => exact absurd (.inl e) hf
        | false => rfl
      have k0 : k = 0 := by
        rcases Nat.eq_zero_or_pos k with z | z
        · exact z
        · obtain ⟨q, _, e⟩ := sts_succ j.hk z
          have st := j.st
          rw [e] at st
          exact absurd (.inr ⟨by rw [st]; simp [sT], by rw [st]; exact one_NT q⟩) hf
      subst k0
      rw [o, totT_app]
      have le := j.le
      rw [hb] at le
      simp only [Bool.false_eq_true, if_false] at le
      refine ⟨fun d hd => (List.mem_append.mp hd).elim (i.wr d) fun hd => ?_, ?_⟩
      · rw [List.mem_singleton.mp hd]
        exact cannot_of j.ca fun z => (j.em z rfl hb).2
      · show totT r ds + (leastT r u + 1 + 0) ≤ _
        unfold leastT
        split
        · rename_i z
          have := (j.em z rfl hb).1
          omega
        · omega
/-! ### the same from another place -/
def sh3 (k : Nat) (d : W3) : W3 := (d.1, d.2.1 + k, d.2.2 + k)
structure Sim (k : Nat) (m m' : MS) : Prop where
  st : m'.state = m.state
  be : m'.bent = m.bent
  wd : m'.word = m.word
  pl : m'.place = m.place + k
  bg : m.word ≠ none → m'.begun = m.begun + k
theorem Sim.out {k : Nat} {m m' : MS} (h : Sim k m m') : m'.out = m.out.map (sh3 k) := by
  unfold MS.out
  rw [h.wd]
  cases e : m.word with
  | none => rfl
  | some w =>
    have := h.bg (by rw [e]; simp)
    simp [sh3, this, h.pl]
theorem Sim.begin {k : Nat} {m m' : MS} (h : Sim k m m') : Sim k m.begin m'.begin ∧ m.begin.word ≠ none := by
  unfold MS.begin
  rw [h.wd]
  cases e : m.word with
  | none => exact ⟨⟨h.st, h.be, rfl, h.pl, fun _ => h.pl⟩, by simp⟩
  | some w => exact ⟨h, by rw [e]; simp⟩
theorem Sim.add {k : Nat} {m m' : MS} (h : Sim k m m') (c : Nat) : Sim k (m.add c) (m'.add c) := by
  refine ⟨h.st, h.be, by simp [MS.add, h.wd], h.pl, fun z => h.bg fun y => z ?_⟩
  simp [MS.add, y]
theorem Sim.plain {r : RS} {k : Nat} {m m' : MS} (h : Sim k m m') (c : Nat) : Sim k (m.plain r c).1 (m'.plain r c).1 ∧ (m'.plain r c).2 = (m.plain r c).2.map (sh3 k) := by
  unfold MS.plain
  have b := h.begin.1
  by_cases c1 : c ∈ r.breaks
  · simp only [if_pos c1]
    exact ⟨⟨h.st, h.be, rfl, h.pl, fun z => absurd rfl z⟩, h.out⟩
  by_cases c2 : c ∈ r.note
  · simp only [if_neg c1, if_pos c2]
    exact ⟨⟨rfl, h.be, rfl, h.pl, fun z => absurd rfl z⟩, h.out⟩
  by_cases c3 : c ∈ r.quotes
  · simp only [if_neg c1, if_neg c2, if_pos c3]
    exact ⟨⟨rfl, b.be, b.wd, b.pl, b.bg⟩, rfl⟩
  by_cases c4 : c ∈ r.bend
  · simp only [if_neg c1, if_neg c2, if_neg c3, if_pos c4]
    exact ⟨⟨b.st, rfl, b.wd, b.pl, b.bg⟩, rfl⟩
  · simp only [if_neg c1, if_neg c2, if_neg c3, if_neg c4]
    exact ⟨b.add c, rfl⟩
theorem Sim.quoted {r : RS} {k : Nat} {m m' : MS} (h : Sim k m m') (c : Nat) : Sim k (m.quoted r c) (m'.quoted r c) := by
  unfold MS.quoted
  have e1 : ([c] = m'.state) = ([c] = m.state) := by rw [h.st]
  have e2 : (c ∈ r.bend ∧ m'.state.all (· ∈ r.soft) = true) = (c ∈ r.bend ∧ m.state.all (· ∈ r.soft) = true) := by rw [h.st]
  by_cases h1 : [c] = m.state
  · rw [if_pos h1, if_pos (e1.mpr h1)]
    exact ⟨rfl, h.be, h.wd, h.pl, h.bg⟩
  rw [if_neg h1, if_neg (c := [c] = m'.state) (fun z => h1 (e1.mp z))]
  by_cases h2 : c ∈ r.bend ∧ m.state.all (· ∈ r.soft) = true
  · rw [if_pos h2, if_pos (e2.mpr h2)]
    exact ⟨h.st, rfl, h.wd, h.pl, h.bg⟩
  · rw [if_neg h2, if_neg (c := c ∈ r.bend ∧ m'.state.all (· ∈ r.soft) = true) (fun z => h2 (e2.mp z))]
    exact h.add c
theorem Sim.up {k : Nat} {m m' : MS} (h : Sim k m m') : Sim k { m with place := m.place + 1 } { m' with place := m'.place + 1 } :=
  ⟨h.st, h.be, h.wd, by show m'.place + 1 = m.place + 1 + k; rw [h.pl]; omega, h.bg⟩
theorem Sim.step {r : RS} {k : Nat} {m m' : MS} (h : Sim k m m') (c : Nat) : Sim k (m.step r c).1 (m'.step r c).1 ∧ (m'.step r c).2 = (m.step r c).2.map (sh3 k) := by
  obtain ⟨n, n', e1, e2, s⟩ : ∃ n n', n = (if m.state = NT ∧ c = LE then { m with state := [] } else m) ∧ n' = (if m'.state = NT ∧ c = LE then { m' with state := [] } else m') ∧ Sim k n n' := by
    refine ⟨_, _, rfl, rfl, ?_⟩
    by_cases h1 : m.state = NT ∧ c = LE
    · rw [if_pos h1, if_pos (c := m'.state = NT ∧ c = LE) (by rw [h.st]; exact h1)]
      exact ⟨rfl, h.be, h.wd, h.pl, h.bg⟩
    · rw [if_neg h1, if_neg (c := m'.state = NT ∧ c = LE) (by rw [h.st]; exact h1)]
      exact h
  unfold MS.step
  dsimp only
  rw [← e1, ← e2]
  by_cases hb : n.bent = true
  · rw [if_pos hb, if_pos (s.be.trans hb)]
    exact ⟨(Sim.add (m := { n with bent := false }) (m' := { n' with bent := false }) ⟨s.st, rfl, s.wd, s.pl, s.bg⟩ c).up, rfl⟩
  · rw [if_neg hb, if_neg (c := n'.bent = true) (by rw [s.be]; exact hb)]
    by_cases h1 : n.state = []
    · rw [if_pos h1, if_pos (s.st.trans h1)]
      have p := s.plain (r := r) c
      exact ⟨p.1.up, p.2⟩
    · rw [if_neg h1, if_neg (c := n'.state = []) (by rw [s.st]; exact h1)]
      by_cases h2 : n.state = NT
      · rw [if_pos h2, if_pos (s.st.trans h2)]
        exact ⟨s.up, rfl⟩
      · rw [if_neg h2, if_neg (c := n'.state = NT) (by rw [s.st]; exact h2)]
        exact ⟨(s.quoted c).up, rfl⟩
theorem Sim.run {r : RS} {k : Nat} : ∀ (t : Tx) {m m' : MS}, Sim k m m' → Sim k (m.run r t).1 (m'.run r t).1 ∧ (m'.run r t).2 = (m.run r t).2.map (sh3 k)
  | [], _, _, h => ⟨h, rfl⟩
  | c :: t, m, m', h => by
    have a := h.step (r := r) c
    have b := Sim.run (r := r) t a.1
    refine ⟨b.1, ?_⟩
    show (m'.step r c).2 ++ _ = ((m.step r c).2 ++ _).map (sh3 k)
    rw [a.2, b.2, List.map_append]
theorem Sim.fault {k : Nat} {m m' : MS} (h : Sim k m m') : (m'.fault = none) ↔ (m.fault = none) := by
  unfold MS.fault
  rw [h.be, h.st]
  split <;> simp
/-! ### a word's stretch -/
structure Pl (m : MS) : Prop where
  st : m.state = []
  be : m.bent = false
theorem Pl.fault {m : MS} (h : Pl m) : m.fault = none := by
  unfold MS.fault
  rw [if_neg]
  rintro (z | z)
  · rw [h.be] at z; cases z
  · exact z.1 h.st
/-- in plain the text t is the word w -/
structure Wrd (r : RS) (t w : Tx) (m : MS) : Prop where
  out : (m.run r t).2 = []
  pl : Pl (m.run r t).1
  wd : (m.run r t).1.word = some w
  bg : (m.run r t).1.begun = m.place
def IsWrd (r : RS) (t w : Tx) : Prop := ∀ m : MS, Pl m → m.word = none → Wrd r t w m
theorem IsWrd.of {r : RS} {t w : Tx} {m : MS} (h : Wrd r t w m) (p : Pl m) (e : m.word = none) : IsWrd r t w := fun m' p' e' => by
  rcases Nat.le_total m.place m'.place with le | le
  · have s : Sim (m'.place - m.place) m m' := ⟨by rw [p.st, p'.st], by rw [p.be, p'.be], by rw [e, e'], by omega, fun z => absurd e z⟩
    have q := s.run (r := r) t
    refine ⟨by rw [q.2, h.out]; rfl, ⟨by rw [q.1.st, h.pl.st], by rw [q.1.be, h.pl.be]⟩, by rw [q.1.wd, h.wd], ?_⟩
    rw [q.1.bg (by rw [h.wd]; simp), h.bg]; omega
  · have s : Sim (m.place - m'.place) m' m := ⟨by rw [p.st, p'.st], by rw [p.be, p'.be], by rw [e, e'], by omega, fun z => absurd e' z⟩
    have q := s.run (r := r) t
    have o := q.2
    rw [h.out] at o
    have w1 := q.1.wd
    rw [h.wd] at w1
    refine ⟨by simpa using o.symm, ⟨by rw [← q.1.st, h.pl.st], by rw [← q.1.be, h.pl.be]⟩, w1.symm, ?_⟩
    have b := q.1.bg (by rw [← w1]; simp)
    rw [h.bg] at b
    omega
theorem Runs.isWrd {r : RS} {t w : Tx} (h : Runs r none [] t w) (ne : t ≠ []) : IsWrd r t w := fun m p e => by
  cases t with
  | nil => exact absurd rfl ne
  | cons c t =>
    have key : ∀ m : MS, Pl m → m.word = some [] → c ∉ r.breaks ∧ c ∉ r.note := fun m p e => by
      have o := (h m p.st p.be e).1
      rw [show (m.run r (c :: t)).2 = (m.step r c).2 ++ ((m.step r c).1.run r t).2 from rfl] at o
      have o1 := (List.append_eq_nil_iff.mp o).1
      rw [step_plain p.st p.be] at o1
      have out : m.out ≠ [] := by unfold MS.out; rw [e]; simp
      refine ⟨fun z => out ?_, fun z => out ?_⟩
      · unfold MS.plain at o1
        rw [if_pos z] at o1
        exact o1
      · unfold MS.plain at o1
        by_cases y : c ∈ r.breaks
        · rw [if_pos y] at o1; exact o1
        · rw [if_neg y, if_pos z] at o1; exact o1
    have pb : Pl m.begin := ⟨by unfold MS.begin; rw [e]; exact p.st, by unfold MS.begin; rw [e]; exact p.be⟩
    have wb : m.begin.word = some [] := by unfold MS.begin; rw [e]
    obtain ⟨k1, k2⟩ := key _ pb wb
    have er : m.run r (c :: t) = m.begin.run r (c :: t) := by
      show (((m.step r c).1.run r t).1, _) = (((m.begin.step r c).1.run r t).1, _)
      rw [step_begin p.st p.be k1 k2]
    obtain ⟨a1, a2, a3, a4, a5⟩ := h _ pb.st pb.be wb
    refine ⟨by rw [er]; exact a1, ⟨by rw [er]; exact a2, by rw [er]; exact a3⟩, by rw [er]; exact a4, ?_⟩
    rw [er, a5]
    unfold MS.begin
    rw [e]
theorem readAll_of {r : RS} {t : Tx} {rp : Addr} (h : Pl ((MS.zero rp).run r t).1) : readAll r t rp = .ok (((MS.zero rp).run r t).2 ++ ((MS.zero rp).run r t).1.out) := by
  unfold readAll
  rw [h.fault]
theorem IsWrd.read {r : RS} {t w : Tx} (h : IsWrd r t w) (rp : Addr) : readAll r t rp = .ok [(w, 0, t.length)] := by
  have q := h (MS.zero rp) ⟨rfl, rfl⟩ rfl
  have pl := MS.place_run r t (MS.zero rp)
  rw [readAll_of q.pl, q.out]
  unfold MS.out
  rw [q.wd, q.bg, pl]
  simp [MS.zero]
/-! ### words with breaks between -/
def wordsAt : Nat → List (Tx × Tx) → List W3
  | _, [] => []
  | k, (t, w) :: l => (w, k, k + t.length) :: wordsAt (k + t.length + 1) l
theorem wordsAt_map (l : List (Tx × Tx)) : ∀ k, (wordsAt k l).map (·.1) = l.map (·.2) := by
  induction l with
  | nil => intro _; rfl
  | cons x l ih => intro k; simp [wordsAt, ih]
/-- all words' writings, a break between -/
def joinT (c : Nat) : List Tx → Tx
  | [] => []
  | [x] => x
  | x :: y :: l => x ++ c :: joinT c (y :: l)
theorem run_break {r : RS} {m : MS} {b : Nat} (hb : b ∈ r.breaks) (p : Pl m) : m.step r b = ({ m.drop with place := m.place + 1 }, m.out) := by
  rw [step_plain p.st p.be]
  unfold MS.plain
  rw [if_pos hb]
theorem run_joined {r : RS} {b : Nat} (hb : b ∈ r.breaks) : ∀ (l : List (Tx × Tx)), (∀ x ∈ l, IsWrd r x.1 x.2) → ∀ m : MS, Pl m → m.word = none →
    Pl (m.run r (joinT b (l.map (·.1)))).1 ∧ (m.run r (joinT b (l.map (·.1)))).2 ++ (m.run r (joinT b (l.map (·.1)))).1.out = wordsAt m.place l
  | [], _, m, p, e => ⟨p, by show [] ++ m.out = []; unfold MS.out; rw [e]; rfl⟩
  | [(t, w)], h, m, p, e => by
    have q := h (t, w) List.mem_cons_self m p e
    have pl := MS.place_run r t m
    show Pl (m.run r t).1 ∧ (m.run r t).2 ++ (m.run r t).1.out = _
    refine ⟨q.pl, ?_⟩
    rw [q.out]
    unfold MS.out
    rw [q.wd, q.bg, pl]
    rfl
  | (t, w) :: y :: l, h, m, p, e => by
    have q := h (t, w) List.mem_cons_self m p e
    have pl := MS.place_run r t m
    have ih := run_joined hb (y :: l) (fun x hx => h x (List.mem_cons_of_mem _ hx)) { (m.run r t).1.drop with place := (m.run r t).1.place + 1 } ⟨q.pl.st, q.pl.be⟩ rfl
    have er : m.run r (joinT b (((t, w) :: y :: l).map (·.1))) = ((({ (m.run r t).1.drop with place := (m.run r t).1.place + 1 } : MS).run r (joinT b ((y :: l).map (·.1)))).1, (m.run r t).1.out ++ (({ (m.run r t).1.drop with place := (m.run r t).1.place + 1 } : MS).run r (joinT b ((y :: l).map (·.1)))).2) := by
      show m.run r (t ++ b :: joinT b ((y :: l).map (·.1))) = _
      rw [MS.run_app, q.out, List.nil_append]
      show (((((m.run r t).1.step r b).1).run r _).1, ((m.run r t).1.step r b).2 ++ _) = _
      rw [run_break hb q.pl]
    rw [er]
    refine ⟨ih.1, ?_⟩
    rw [List.append_assoc, ih.2]
    unfold MS.out
    rw [q.wd, q.bg, pl]
    rfl
theorem read_joined {r : RS} {b : Nat} (hb : b ∈ r.breaks) (l : List (Tx × Tx)) (h : ∀ x ∈ l, IsWrd r x.1 x.2) (rp : Addr) : readAll r (joinT b (l.map (·.1))) rp = .ok (wordsAt 0 l) := by
  have q := run_joined hb l h (MS.zero rp) ⟨rfl, rfl⟩ rfl
  rw [readAll_of q.1, q.2]
  rfl
/-! ### each word's stretch is that word -/
/-- where a word began -/
structure Beg (r : RS) (m : MS) (u : Tx) : Prop where
  ln : m.place = u.length
  nn : m.word = none → m.bent = false ∧ (m.state = [] ∨ m.state = NT)
  ss : m.word ≠ none → m.state ≠ NT
  wd : m.word ≠ none → ∃ m0 p v, Pl m0 ∧ m0.word = none ∧ u = v ++ p ∧ m0.place = v.length ∧ m0.run r p = (m, []) ∧ m.begun = m0.place
def cutT (t : Tx) (b e : Nat) : Tx := (t.take e).drop b
def WOk (r : RS) (u : Tx) (d : W3) : Prop := IsWrd r (cutT u d.2.1 d.2.2) d.1 ∧ d.2.1 ≤ d.2.2 ∧ d.2.2 ≤ u.length
theorem WOk.more {r : RS} {u : Tx} {d : W3} (h : WOk r u d) (v : Tx) : WOk r (u ++ v) d := by
  obtain ⟨h1, h2, h3⟩ := h
  refine ⟨?_, h2, by rw [List.length_append]; omega⟩
  rw [cutT, List.take_append_of_le_length h3]
  exact h1
theorem Beg.out {r : RS} {m : MS} {u : Tx} (h : Beg r m u) (p : Pl m) : ∀ d ∈ m.out, WOk r u d := fun d hd => by
  unfold MS.out at hd
  cases hw : m.word with
  | none => rw [hw] at hd; cases hd
  | some w =>
    rw [hw] at hd
    cases List.mem_singleton.mp hd
    obtain ⟨m0, p', v, q0, q1, rfl, q2, q3, bg⟩ := h.wd (by rw [hw]; simp)
    have ln := h.ln
    refine ⟨?_, by rw [List.length_append] at ln; show m.begun ≤ m.place; omega, by show m.place ≤ _; omega⟩
    have ec : cutT (v ++ p') m.begun m.place = p' := by
      rw [cutT, ln, List.take_length, bg, q2, List.drop_left]
    show IsWrd r (cutT (v ++ p') m.begun m.place) w
    rw [ec]
    exact IsWrd.of (m := m0) ⟨by rw [q3], by rw [q3]; exact p, by rw [q3]; exact hw, by rw [q3]; exact bg⟩ q0 q1
/-- a sign more of a word that is there -/
theorem Beg.go {r : RS} {m m' : MS} {u : Tx} {c : Nat} (h : Beg r m u) (hw : m.word ≠ none) (e : m.step r c = (m', [])) (bg : m'.begun = m.begun) (w' : m'.word ≠ none) (s' : m'.state ≠ NT) : Beg r m' (u ++ [c]) := by
  refine ⟨?_, fun z => absurd z w', fun _ => s', fun _ => ?_⟩
  · have := MS.place_step r m c
    rw [e] at this
    rw [List.length_append, ← h.ln]
    exact this
  · obtain ⟨m0, p, v, q0, q1, q2, q3, q4, q5⟩ := h.wd hw
    refine ⟨m0, p ++ [c], v, q0, q1, by rw [q2, List.append_assoc], q3, ?_, bg.trans q5⟩
    rw [MS.run_one, q4, e]
    rfl
theorem add_word {m : MS} (c : Nat) (h : m.word ≠ none) : (m.add c).word ≠ none := by
  cases e : m.word with
  | none => exact absurd e h
  | some w => simp [MS.add, e]
theorem Beg.plain {r : RS} {m : MS} {u : Tx} (h : Beg r m u) (p : Pl m) (c : Nat) : Beg r (m.step r c).1 (u ++ [c]) ∧ ∀ d ∈ (m.step r c).2, WOk r (u ++ [c]) d := by
  have pl := MS.place_step r m c
  rw [h.ln] at pl
  have pl : (m.step r c).1.place = (u ++ [c]).length := by rw [pl]; simp
  have st := step_plain (r := r) (c := c) p.st p.be
  by_cases c1 : c ∈ r.breaks
  · have e : m.plain r c = (m.drop, m.out) := by unfold MS.plain; rw [if_pos c1]
    rw [e] at st
    refine ⟨⟨pl, fun _ => ?_, fun z => ?_, fun z => ?_⟩, fun d hd => ?_⟩
    · rw [st]; exact ⟨p.be, .inl p.st⟩
    · rw [st] at z; exact absurd rfl z
    · rw [st] at z; exact absurd rfl z
    · rw [st] at hd
      exact (h.out p d hd).more _
  by_cases c2 : c ∈ r.note
  · have e : m.plain r c = ({ m.drop with state := NT }, m.out) := by unfold MS.plain; rw [if_neg c1, if_pos c2]
    rw [e] at st
    refine ⟨⟨pl, fun _ => ?_, fun z => ?_, fun z => ?_⟩, fun d hd => ?_⟩
    · rw [st]; exact ⟨p.be, .inr rfl⟩
    · rw [st] at z; exact absurd rfl z
    · rw [st] at z; exact absurd rfl z
    · rw [st] at hd
      exact (h.out p d hd).more _
  obtain ⟨m1, e, bg, w1, s1⟩ : ∃ m1, m.plain r c = (m1, []) ∧ m1.begun = m.begin.begun ∧ m1.word ≠ none ∧ m1.state ≠ NT := by
    have bs : m.begin.state = [] := by unfold MS.begin; split <;> exact p.st
    have bw : m.begin.word ≠ none := by
      unfold MS.begin
      split
      · simp
      · rename_i w e; rw [e]; simp
    unfold MS.plain
    rw [if_neg c1, if_neg c2]
    by_cases c3 : c ∈ r.quotes
    · rw [if_pos c3]; exact ⟨_, rfl, rfl, bw, one_NT c⟩
    rw [if_neg c3]
    by_cases c4 : c ∈ r.bend
    · rw [if_pos c4]; exact ⟨_, rfl, rfl, bw, by show m.begin.state ≠ NT; rw [bs]; exact nil_NT⟩
    · rw [if_neg c4]; exact ⟨_, rfl, rfl, add_word c bw, by show m.begin.state ≠ NT; rw [bs]; exact nil_NT⟩
  rw [e] at st
  refine ⟨?_, fun d hd => (by rw [st] at hd; cases hd)⟩
  by_cases hw : m.word = none
  · rw [st] at pl ⊢
    refine ⟨pl, fun z => absurd z w1, fun _ => s1, fun _ => ⟨m, [c], u, p, hw, rfl, h.ln, ?_, ?_⟩⟩
    · show ((m.step r c).1, (m.step r c).2 ++ []) = _
      rw [st]
      rfl
    · show m1.begun = m.place
      rw [bg]
      unfold MS.begin
      rw [hw]
  · rw [st]
    have b2 : m.begin = m := by
      unfold MS.begin
      split
      · rename_i z; exact absurd z hw
      · rfl
    exact h.go hw st (by show m1.begun = _; rw [bg, b2]) w1 s1
theorem Beg.step {r : RS} {m : MS} {u : Tx} (h : Beg r m u) (c : Nat) : Beg r (m.step r c).1 (u ++ [c]) ∧ ∀ d ∈ (m.step r c).2, WOk r (u ++ [c]) d := by
  by_cases hw : m.word = none
  · obtain ⟨hb, hs | hs⟩ := h.nn hw
    · exact h.plain ⟨hs, hb⟩ c
    · by_cases hc : c = LE
      · subst hc
        rw [step_nt hs hb]
        exact Beg.plain (m := { m with state := [] }) ⟨h.ln, fun _ => ⟨hb, .inl rfl⟩, fun z => absurd hw z, fun z => absurd hw z⟩ ⟨rfl, hb⟩ LE
      · rw [step_nt' hs hb hc]
        refine ⟨⟨by show m.place + 1 = _; rw [h.ln]; simp, fun _ => ⟨hb, .inr hs⟩, fun z => absurd hw z, fun z => absurd hw z⟩, fun _ z => (nomatch z)⟩
  · have hn := h.ss hw
    by_cases hb : m.bent = true
    · have st := step_bent (r := r) (c := c) hn hb
      rw [st]
      exact ⟨h.go hw st rfl (add_word (m := { m with bent := false }) c hw) hn, fun _ z => (nomatch z)⟩
    have hb : m.bent = false := by simpa using hb
    by_cases hs : m.state = []
    · exact h.plain ⟨hs, hb⟩ c
    · have st : m.step r c = ({ (m.quoted r c) with place := m.place + 1 }, []) := by
        unfold MS.step
        rw [if_neg (fun z => hn z.1)]
        simp only [hb, Bool.false_eq_true, if_false, hs, hn]
        rw [MS.place_quoted]
      rw [st]
      have q : (m.quoted r c).begun = m.begun ∧ (m.quoted r c).word ≠ none ∧ (m.quoted r c).state ≠ NT := by
        unfold MS.quoted
        split
        · exact ⟨rfl, hw, nil_NT⟩
        split
        · exact ⟨rfl, hw, hn⟩
        · exact ⟨rfl, add_word c hw, hn⟩
      exact ⟨h.go hw st q.1 q.2.1 q.2.2, fun _ z => (nomatch z)⟩
theorem Beg.run {r : RS} : ∀ (t : Tx) {m : MS} {u : Tx}, Beg r m u → Beg r (m.run r t).1 (u ++ t) ∧ ∀ d ∈ (m.run r t).2, WOk r (u ++ t) d
  | [], m, u, h => by rw [List.append_nil]; exact ⟨h, fun _ z => (nomatch z)⟩
  | c :: t, m, u, h => by
    have a := h.step c
    have b := Beg.run t a.1
    rw [List.append_assoc] at b
    refine ⟨b.1, fun d hd => ?_⟩
    rcases List.mem_append.mp hd with z | z
    · have := (a.2 d z).more t
      rw [List.append_assoc] at this
      exact this
    · exact b.2 d z
theorem no_fault {m : MS} (h : m.fault = none) : m.bent = false ∧ (m.state = [] ∨ m.state = NT) := by
  unfold MS.fault at h
  have hf : ¬ (m.bent = true ∨ (m.state ≠ [] ∧ m.state ≠ NT)) := fun z => (by rw [if_pos z] at h; cases h)
  refine ⟨?_, ?_⟩
  · cases e : m.bent with
    | true => exact absurd (.inl e) hf
    | false => rfl
  · by_cases z : m.state = []
    · exact .inl z
    · by_cases y : m.state = NT
      · exact .inr y
      · exact absurd (.inr ⟨z, y⟩) hf
/-- the words of a text, each by its stretch -/
theorem read_stretch {r : RS} {t : Tx} {rp : Addr} {ds : List W3} (h : readAll r t rp = .ok ds) : ∀ d ∈ ds, WOk r t d := by
  have z : Beg r (MS.zero rp) [] := ⟨rfl, fun _ => ⟨rfl, .inl rfl⟩, fun y => absurd rfl y, fun y => absurd rfl y⟩
  have i := z.run t
  rw [List.nil_append] at i
  unfold readAll at h
  split at h
  · cases h
  · rename_i hf
    cases h
    obtain ⟨hb, hs⟩ := no_fault hf
    intro d hd
    rcases List.mem_append.mp hd with y | y
    · exact i.2 d y
    · rcases hs with hs | hs
      · exact i.1.out ⟨hs, hb⟩ d y
      · have w0 : ((MS.zero rp).run r t).1.word = none := by
          cases e : ((MS.zero rp).run r t).1.word with
          | none => rfl
          | some w => exact absurd hs (i.1.ss (by rw [e]; simp))
        unfold MS.out at y
        rw [w0] at y
        cases y
/-! ### two texts, a break between -/
theorem no_note_run {r : RS} (hn : r.note = []) : ∀ (t : Tx) {m : MS}, m.Ok → m.state ≠ NT → (m.run r t).1.state ≠ NT
  | [], _, _, h => h
  | c :: t, m, ok, h => no_note_run hn t (ok.step r c) (by
    refine MS.step_cases r m c (fun x => x.1.state ≠ NT) (fun m1 e _ => ?_) (fun m1 e _ s => ?_) (fun _ z _ => absurd z h) fun _ _ _ => ?_
    · rcases e with e | e <;> subst e
      · exact h
      · exact nil_NT
    · show (m1.plain r c).1.state ≠ NT
      have bs : m1.begin.state = [] := by unfold MS.begin; split <;> exact s
      unfold MS.plain
      split
      · show m1.state ≠ NT; rw [s]; exact nil_NT
      split
      · rename_i z; rw [hn] at z; cases z
      split
      · exact one_NT c
      split
      · show m1.begin.state ≠ NT; rw [bs]; exact nil_NT
      · show m1.begin.state ≠ NT; rw [bs]; exact nil_NT
    · show (m.quoted r c).state ≠ NT
      unfold MS.quoted
      split
      · exact nil_NT
      split
      · exact h
      · exact h)
theorem read_two {r : RS} (hn : r.note = []) {b : Nat} (hb : b ∈ r.breaks) {t u : Tx} {rp : Addr} {ds es : List W3} (h1 : readAll r t rp = .ok ds) (h2 : readAll r u rp = .ok es) :
    readAll r (t ++ b :: u) rp = .ok (ds ++ es.map (sh3 (t.length + 1))) := by
  unfold readAll at h1 h2
  split at h1
  · cases h1
  rename_i f1
  split at h2
  · cases h2
  rename_i f2
  cases h1
  cases h2
  obtain ⟨b1, s1⟩ := no_fault f1
  have p1 : Pl ((MS.zero rp).run r t).1 := ⟨s1.elim id fun z => absurd z (no_note_run hn t (MS.Ok.zero rp) nil_NT), b1⟩
  have pl := MS.place_run r t (MS.zero rp)
  have er : (MS.zero rp).run r (t ++ b :: u) = ((({ ((MS.zero rp).run r t).1.drop with place := ((MS.zero rp).run r t).1.place + 1 } : MS).run r u).1, ((MS.zero rp).run r t).2 ++ (((MS.zero rp).run r t).1.out ++ (({ ((MS.zero rp).run r t).1.drop with place := ((MS.zero rp).run r t).1.place + 1 } : MS).run r u).2)) := by
    rw [MS.run_app]
    show (((((MS.zero rp).run r t).1.step r b).1.run r u).1, _ ++ ((((MS.zero rp).run r t).1.step r b).2 ++ _)) = _
    rw [run_break hb p1]
  have s : Sim (t.length + 1) (MS.zero rp) { ((MS.zero rp).run r t).1.drop with place := ((MS.zero rp).run r t).1.place + 1 } :=
    ⟨p1.st, p1.be, rfl, by show ((MS.zero rp).run r t).1.place + 1 = _; rw [pl]; simp only [MS.zero]; omega, fun z => absurd rfl z⟩
  have q := s.run (r := r) u
  unfold readAll
  rw [er]
  dsimp only
  rw [q.1.fault.mpr f2]
  dsimp only
  rw [q.2, q.1.out]
  simp only [List.append_assoc, List.map_append]
/-! ### other signs in the places of all -/
structure Ren (f : Nat → Nat) : Prop where
  inj : ∀ a b, f a = f b → a = b
  le : f LE = LE
def RS.ren (f : Nat → Nat) (r : RS) : RS := ⟨r.breaks.map f, r.hard.map f, r.soft.map f, r.bend.map f, r.note.map f⟩
theorem Ren.mem {f : Nat → Nat} (h : Ren f) {c : Nat} {l : Tx} : f c ∈ l.map f ↔ c ∈ l := by
  constructor
  · intro z
    obtain ⟨a, h1, h2⟩ := List.mem_map.mp z
    rwa [← h.inj _ _ h2]
  · exact List.mem_map_of_mem
theorem Ren.eqLE {f : Nat → Nat} (h : Ren f) {c : Nat} : f c = LE ↔ c = LE := by
  constructor
  · intro z; exact h.inj _ _ (z.trans h.le.symm)
  · intro z; rw [z, h.le]
theorem ren_quotes (f : Nat → Nat) (r : RS) : (r.ren f).quotes = r.quotes.map f := by simp [RS.quotes, RS.ren]
def ren3 (f : Nat → Nat) (d : W3) : W3 := (d.1.map f, d.2.1, d.2.2)
structure RSim (f : Nat → Nat) (m m' : MS) : Prop where
  st : m'.state = if m.state = NT then NT else m.state.map f
  ok : m.state = [] ∨ m.state = NT ∨ ∃ q, m.state = [q]
  be : m'.bent = m.bent
  wd : m'.word = m.word.map (·.map f)
  pl : m'.place = m.place
  op : m'.opened = m.opened
  bg : m'.begun = m.begun
theorem RSim.nt {f : Nat → Nat} {m m' : MS} (h : RSim f m m') : m'.state = NT ↔ m.state = NT := by
  rw [h.st]
  constructor
  · intro z
    split at z
    · assumption
    · rcases h.ok with e | e | ⟨q, e⟩
      · rw [e] at z; cases z
      · exact e
      · rw [e] at z; exact absurd z (one_NT (f q))
  · intro z; rw [if_pos z]
theorem RSim.nil {f : Nat → Nat} {m m' : MS} (h : RSim f m m') : m'.state = [] ↔ m.state = [] := by
  rw [h.st]
  rcases h.ok with e | e | ⟨q, e⟩ <;> rw [e] <;> simp [NT]
theorem RSim.out {f : Nat → Nat} {m m' : MS} (h : RSim f m m') : m'.out = m.out.map (ren3 f) := by
  unfold MS.out
  rw [h.wd]
  cases e : m.word with
  | none => rfl
  | some w => simp [ren3, h.pl, h.bg]
theorem RSim.begin {f : Nat → Nat} {m m' : MS} (h : RSim f m m') : RSim f m.begin m'.begin := by
  unfold MS.begin
  rw [h.wd]
  cases e : m.word with
  | none => exact ⟨h.st, h.ok, h.be, rfl, h.pl, h.op, h.pl⟩
  | some w => exact ⟨h.st, h.ok, h.be, by rw [e]; exact h.wd.trans (by rw [e]), h.pl, h.op, h.bg⟩
theorem RSim.add {f : Nat → Nat} {m m' : MS} (h : RSim f m m') (c : Nat) : RSim f (m.add c) (m'.add (f c)) := by
  refine ⟨h.st, h.ok, h.be, ?_, h.pl, h.op, h.bg⟩
  show m'.word.map _ = (m.word.map _).map _
  rw [h.wd]
  cases m.word <;> simp
theorem RSim.plain {f : Nat → Nat} (F : Ren f) {r : RS} {m m' : MS} (h : RSim f m m') (hs : m.state = []) (c : Nat) : RSim f (m.plain r c).1 (m'.plain (r.ren f) (f c)).1 ∧ (m'.plain (r.ren f) (f c)).2 = (m.plain r c).2.map (ren3 f) := by
  have b := h.begin
  have bs : m.begin.state = [] := by unfold MS.begin; split <;> exact hs
  have s' : m'.state = [] := h.nil.mpr hs
  have e1 : (f c ∈ (r.ren f).breaks) = (c ∈ r.breaks) := propext F.mem
  have e2 : (f c ∈ (r.ren f).note) = (c ∈ r.note) := propext F.mem
  have e3 : (f c ∈ (r.ren f).quotes) = (c ∈ r.quotes) := by rw [ren_quotes]; exact propext F.mem
  have e4 : (f c ∈ (r.ren f).bend) = (c ∈ r.bend) := propext F.mem
  unfold MS.plain
  by_cases c1 : c ∈ r.breaks
  · rw [if_pos c1, if_pos (e1.mpr c1)]
    exact ⟨⟨h.st, h.ok, h.be, rfl, h.pl, h.op, h.bg⟩, h.out⟩
  rw [if_neg c1, if_neg (c := f c ∈ (r.ren f).breaks) (fun z => c1 (e1.mp z))]
  by_cases c2 : c ∈ r.note
  · rw [if_pos c2, if_pos (e2.mpr c2)]
    exact ⟨⟨rfl, .inr (.inl rfl), h.be, rfl, h.pl, h.op, h.bg⟩, h.out⟩
  rw [if_neg c2, if_neg (c := f c ∈ (r.ren f).note) (fun z => c2 (e2.mp z))]
  by_cases c3 : c ∈ r.quotes
  · rw [if_pos c3, if_pos (e3.mpr c3)]
    exact ⟨⟨by rw [if_neg (one_NT c)]; rfl, .inr (.inr ⟨c, rfl⟩), b.be, b.wd, b.pl, b.pl, b.bg⟩, rfl⟩
  rw [if_neg c3, if_neg (c := f c ∈ (r.ren f).quotes) (fun z => c3 (e3.mp z))]
  by_cases c4 : c ∈ r.bend
  · rw [if_pos c4, if_pos (e4.mpr c4)]
    exact ⟨⟨b.st, b.ok, rfl, b.wd, b.pl, b.pl, b.bg⟩, rfl⟩
  · rw [if_neg c4, if_neg (c := f c ∈ (r.ren f).bend) (fun z => c4 (e4.mp z))]
    exact ⟨b.add c, rfl⟩
theorem RSim.quoted {f : Nat → Nat} (F : Ren f) {r : RS} {m m' : MS} (h : RSim f m m') {q : Nat} (hs : m.state = [q]) (c : Nat) : RSim f (m.quoted r c) (m'.quoted (r.ren f) (f c)) := by
  have s' : m'.state = [f q] := by rw [h.st, if_neg (by rw [hs]; exact one_NT q), hs]; rfl
  have e1 : ([f c] = m'.state) = ([c] = m.state) := by
    rw [s', hs]
    refine propext ⟨fun z => ?_, fun z => ?_⟩
    · injection z with z; rw [F.inj _ _ z]
    · injection z with z; rw [z]
  have e2 : (f c ∈ (r.ren f).bend ∧ m'.state.all (· ∈ (r.ren f).soft) = true) = (c ∈ r.bend ∧ m.state.all (· ∈ r.soft) = true) := by
    rw [s', hs]
    simp only [List.all_cons, List.all_nil, Bool.and_true, decide_eq_true_eq]
    exact propext ⟨fun z => ⟨F.mem.mp z.1, F.mem.mp z.2⟩, fun z => ⟨F.mem.mpr z.1, F.mem.mpr z.2⟩⟩
  unfold MS.quoted
  by_cases h1 : [c] = m.state
  · rw [if_pos h1, if_pos (e1.mpr h1)]
    exact ⟨rfl, .inl rfl, h.be, h.wd, h.pl, h.op, h.bg⟩
  rw [if_neg h1, if_neg (c := [f c] = m'.state) (fun z => h1 (e1.mp z))]
  by_cases h2 : c ∈ r.bend ∧ m.state.all (· ∈ r.soft) = true
  · rw [if_pos h2, if_pos (e2.mpr h2)]
    exact ⟨h.st, h.ok, rfl, h.wd, h.pl, h.op, h.bg⟩
  · rw [if_neg h2, if_neg (c := f c ∈ (r.ren f).bend ∧ m'.state.all (· ∈ (r.ren f).soft) = true) (fun z => h2 (e2.mp z))]
    exact h.add c
theorem RSim.up {f : Nat → Nat} {m m' : MS} (h : RSim f m m') : RSim f { m with place := m.place + 1 } { m' with place := m'.place + 1 } :=
  ⟨h.st, h.ok, h.be, h.wd, by show m'.place + 1 = m.place + 1; rw [h.pl], h.op, h.bg⟩
theorem RSim.step {f : Nat → Nat} (F : Ren f) {r : RS} {m m' : MS} (h : RSim f m m') (c : Nat) : RSim f (m.step r c).1 (m'.step (r.ren f) (f c)).1 ∧ (m'.step (r.ren f) (f c)).2 = (m.step r c).2.map (ren3 f) := by
  obtain ⟨n, n', e1, e2, s⟩ : ∃ n n', n = (if m.state = NT ∧ c = LE then { m with state := [] } else m) ∧ n' = (if m'.state = NT ∧ f c = LE then { m' with state := [] } else m') ∧ RSim f n n' := by
    refine ⟨_, _, rfl, rfl, ?_⟩
    by_cases h1 : m.state = NT ∧ c = LE
    · rw [if_pos h1, if_pos (c := m'.state = NT ∧ f c = LE) ⟨h.nt.mpr h1.1, F.eqLE.mpr h1.2⟩]
      exact ⟨rfl, .inl rfl, h.be, h.wd, h.pl, h.op, h.bg⟩
    · rw [if_neg h1, if_neg (c := m'.state = NT ∧ f c = LE) (fun z => h1 ⟨h.nt.mp z.1, F.eqLE.mp z.2⟩)]
      exact h
  unfold MS.step
  dsimp only
  rw [← e1, ← e2]
  by_cases hb : n.bent = true
  · rw [if_pos hb, if_pos (s.be.trans hb)]
    exact ⟨(RSim.add (m := { n with bent := false }) (m' := { n' with bent := false }) ⟨s.st, s.ok, rfl, s.wd, s.pl, s.op, s.bg⟩ c).up, rfl⟩
  · rw [if_neg hb, if_neg (c := n'.bent = true) (by rw [s.be]; exact hb)]
    by_cases h1 : n.state = []
    · rw [if_pos h1, if_pos (s.nil.mpr h1)]
      have p := s.plain F (r := r) h1 c
      exact ⟨p.1.up, p.2⟩
    · rw [if_neg h1, if_neg (c := n'.state = []) (fun z => h1 (s.nil.mp z))]
      by_cases h2 : n.state = NT
      · rw [if_pos h2, if_pos (s.nt.mpr h2)]
        exact ⟨s.up, rfl⟩
      · rw [if_neg h2, if_neg (c := n'.state = NT) (fun z => h2 (s.nt.mp z))]
        obtain ⟨q, hq⟩ : ∃ q, n.state = [q] := by
          rcases s.ok with e | e | e
          · exact absurd e h1
          · exact absurd e h2
          · exact e
        exact ⟨(s.quoted F hq c).up, rfl⟩
theorem RSim.run {f : Nat → Nat} (F : Ren f) {r : RS} : ∀ (t : Tx) {m m' : MS}, RSim f m m' → RSim f (m.run r t).1 (m'.run (r.ren f) (t.map f)).1 ∧ (m'.run (r.ren f) (t.map f)).2 = (m.run r t).2.map (ren3 f)
  | [], _, _, h => ⟨h, rfl⟩
  | c :: t, m, m', h => by
    have a := h.step F (r := r) c
    have b := RSim.run F (r := r) t a.1
    refine ⟨b.1, ?_⟩
    show (m'.step (r.ren f) (f c)).2 ++ _ = ((m.step r c).2 ++ _).map (ren3 f)
    rw [a.2, b.2, List.map_append]
/-- other signs: the words so, the places the same -/
theorem read_ren {f : Nat → Nat} (F : Ren f) (r : RS) (t : Tx) (rp rp' : Addr) : readAll (r.ren f) (t.map f) rp' = match readAll r t rp with
    | .error n => .error n
    | .ok ds => .ok (ds.map (ren3 f)) := by
  have z : RSim f (MS.zero rp) (MS.zero rp') := ⟨by simp [MS.zero, NT], .inl rfl, rfl, rfl, rfl, rfl, rfl⟩
  have q := z.run F (r := r) t
  have ef : ((MS.zero rp').run (r.ren f) (t.map f)).1.fault = ((MS.zero rp).run r t).1.fault := by
    unfold MS.fault
    rw [q.1.op]
    have e : (((MS.zero rp').run (r.ren f) (t.map f)).1.bent = true ∨ (((MS.zero rp').run (r.ren f) (t.map f)).1.state ≠ [] ∧ ((MS.zero rp').run (r.ren f) (t.map f)).1.state ≠ NT)) = (((MS.zero rp).run r t).1.bent = true ∨ (((MS.zero rp).run r t).1.state ≠ [] ∧ ((MS.zero rp).run r t).1.state ≠ NT)) := by
      rw [q.1.be]
      simp only [ne_eq, q.1.nil, q.1.nt]
    by_cases h : (((MS.zero rp).run r t).1.bent = true ∨ (((MS.zero rp).run r t).1.state ≠ [] ∧ ((MS.zero rp).run r t).1.state ≠ NT))
    · rw [if_pos h, if_pos (e.mpr h)]
    · rw [if_neg h, if_neg (fun z => h (e.mp z))]
  unfold readAll
  rw [ef]
  cases ((MS.zero rp).run r t).1.fault with
  | some n => rfl
  | none =>
    dsimp only
    rw [q.2, q.1.out, List.map_append]
theorem cost_ren {f : Nat → Nat} (F : Ren f) (r : RS) (s : So) (c : Nat) : costT (r.ren f) (s.map f) (f c) = costT r s c := by
  have eb : ((r.ren f).bend ≠ []) = (r.bend ≠ []) := by simp [RS.ren]
  have fc : ∀ {a b : Nat}, (f a ≠ f b) = (a ≠ b) := fun {a b} => propext ⟨fun z y => z (by rw [y]), fun z y => z (F.inj _ _ y)⟩
  cases s with
  | none =>
    have e : (f c ∈ (r.ren f).spec) = (c ∈ r.spec) := by
      have : (r.ren f).spec = r.spec.map f := by simp only [RS.spec, ren_quotes]; simp [RS.ren]
      rw [this]; exact propext F.mem
    simp only [Option.map, costT, e, eb]
  | some q =>
    have e1 : (f q ∈ (r.ren f).hard) = (q ∈ r.hard) := propext F.mem
    have e2 : (f c ∉ (r.ren f).bend) = (c ∉ r.bend) := by rw [show (f c ∈ (r.ren f).bend) = (c ∈ r.bend) from propext F.mem]
    simp only [Option.map, costT, e1, e2, eb, fc]
theorem sts_ren (f : Nat → Nat) (r : RS) : (r.ren f).sts = r.sts.map (Option.map f) := by
  simp only [RS.sts, ren_quotes, List.map_cons, List.map_map]
  rfl
theorem next_ren {f : Nat → Nat} (F : Ren f) (r : RS) (row : List Nat) (c : Nat) : nextT (r.ren f) row (f c) = nextT r row c := by
  rw [nextT, nextT, sts_ren]
  generalize r.sts = ss
  induction row generalizing ss with
  | nil => simp
  | cons x row ih =>
    cases ss with
    | nil => simp
    | cons s ss =>
      simp only [List.map_cons, List.zipWith_cons_cons, ih, cost_ren F]
theorem cur_ren {f : Nat → Nat} (F : Ren f) (r : RS) (u : Tx) : curT (r.ren f) (u.map f) = curT r u := by
  have e : row0 (r.ren f) = row0 r := by rw [row0, row0, ren_quotes, List.length_map]
  unfold curT
  rw [e]
  generalize row0 r = row
  induction u generalizing row with
  | nil => rfl
  | cons c u ih =>
    simp only [List.map_cons, List.foldl_cons]
    rw [stepT, next_ren F]
    exact ih _
theorem least_ren {f : Nat → Nat} (F : Ren f) (r : RS) (w : Tx) : leastT (r.ren f) (w.map f) = leastT r w := by
  unfold leastT
  rw [cur_ren F]
  simp only [List.map_eq_nil_iff]
theorem cannot_ren {f : Nat → Nat} (F : Ren f) (r : RS) (w : Tx) : cannotT (r.ren f) (w.map f) = cannotT r w := by
  unfold cannotT
  rw [ren_quotes, sts_ren]
  simp only [List.map_eq_nil_iff, List.any_map, List.all_map]
  congr 1
  congr 1
  funext c
  show (r.sts.all fun s => (costT (r.ren f) (s.map f) (f c)).isNone) = _
  simp only [cost_ren F]
/-- all can be written: a bend, or two quotes -/
theorem all_can {r : RS} (ok : r.Ok) (h : r.bend ≠ [] ∨ 1 < r.quotes.length) (hq : r.quotes ≠ []) (w : Tx) : cannotT r w = false := by
  refine cannot_of (fun c _ => ?_) fun _ => hq
  rcases h with h | h
  · refine ⟨none, none_sts r, ?_⟩
    simp only [costT, if_pos h]
    split <;> rfl
  · have nd : r.quotes.Nodup := by
      have := ok.nd
      simp only [RS.every] at this
      rw [← List.append_assoc r.hard] at this
      exact (List.nodup_append.mp (List.nodup_append.mp this).2.1).1
    match hr : r.quotes, h, nd with
    | a :: b :: l, _, nd =>
      have ab : a ≠ b := fun z => by subst z; simp at nd
      have one : ∀ q ∈ r.quotes, c ≠ q → canT r c := fun q hq hc => by
        refine ⟨some q, some_sts hq, ?_⟩
        by_cases hh : q ∈ r.hard
        · simp [costT, hh, hc]
        · by_cases hb : c ∈ r.bend
          · have hb' : r.bend ≠ [] := fun z => by rw [z] at hb; cases hb
            simp [costT, hh, hb, hb']
          · simp [costT, hh, hc, hb]
      by_cases hc : c = a
      · exact one b (by rw [hr]; simp) (by rw [hc]; exact ab)
      · exact one a (by rw [hr]; simp) hc
theorem ren_ok {f : Nat → Nat} (F : Ren f) {r : RS} (ok : r.Ok) (hs : ∀ c ∈ r.every, sgn (f c) = true) : (r.ren f).Ok := by
  have ev : (r.ren f).every = r.every.map f := by simp [RS.every, RS.ren]
  refine ⟨by simp [RS.ren, ok.l1], by simp [RS.ren, ok.l2], by simp [RS.ren, ok.l3], by simp [RS.ren, ok.l4], by simp [RS.ren, ok.l5], by simp [RS.ren, ok.ne], ?_, ?_⟩
  · rw [ev, List.all_map, List.all_eq_true]
    exact hs
  · rw [ev]
    exact List.Pairwise.map f (fun a b z y => z (F.inj _ _ y)) ok.nd
/-! ### words are apart -/
def spanT (ds : List W3) : Nat := (ds.map fun d => d.2.2 - d.2.1 + 1).sum
theorem spanT_app (a b : List W3) : spanT (a ++ b) = spanT a + spanT b := by simp [spanT]
structure SInv (m : MS) (ds : List W3) : Prop where
  non : m.word = none → spanT ds ≤ m.place
  som : m.word ≠ none → spanT ds ≤ m.begun ∧ m.begun ≤ m.place
theorem SInv.out {m : MS} {ds : List W3} (h : SInv m ds) : spanT (ds ++ m.out) ≤ m.place + 1 := by
  unfold MS.out
  cases e : m.word with
  | none => rw [List.append_nil]; have := h.non e; omega
  | some w =>
    have := h.som (by rw [e]; simp)
    rw [spanT_app]
    show spanT ds + (m.place - m.begun + 1 + 0) ≤ _
    omega
theorem SInv.begin {m : MS} {ds : List W3} (h : SInv m ds) : SInv m.begin ds := by
  unfold MS.begin
  cases e : m.word with
  | none => exact ⟨fun z => (by cases z), fun _ => ⟨h.non e, Nat.le_refl _⟩⟩
  | some w => exact h
theorem SInv.put {m m' : MS} {ds : List W3} (h : SInv m ds) (hw : m'.word = none ↔ m.word = none) (hb : m'.begun = m.begun) (hp : m.place ≤ m'.place) : SInv m' ds := by
  refine ⟨fun z => Nat.le_trans (h.non (hw.mp z)) hp, fun z => ?_⟩
  have := h.som fun y => z (hw.mpr y)
  omega
theorem SInv.step {r : RS} {m : MS} {ds : List W3} (h : SInv m ds) (c : Nat) : SInv (m.step r c).1 (ds ++ (m.step r c).2) := by
  have addw : ∀ (m : MS), (m.add c).word = none ↔ m.word = none := fun m => by unfold MS.add; cases m.word <;> simp
  refine MS.step_cases r m c (fun x => SInv x.1 (ds ++ x.2)) (fun m1 e _ => ?_) (fun m1 e _ _ => ?_) (fun _ _ _ => ?_) fun _ _ _ => ?_
  · rw [List.append_nil]
    have h1 : SInv m1 ds := by rcases e with e | e <;> subst e <;> first | exact h | exact ⟨h.non, h.som⟩
    exact h1.put (addw _) rfl (Nat.le_succ _)
  · have h1 : SInv m1 ds := by rcases e with e | e <;> subst e <;> first | exact h | exact ⟨h.non, h.som⟩
    have hb := h1.begin
    have pb := MS.place_begin m1
    unfold MS.plain
    split
    · exact ⟨fun _ => h1.out, fun z => absurd rfl z⟩
    split
    · exact ⟨fun _ => h1.out, fun z => absurd rfl z⟩
    split
    · rw [List.append_nil]; exact hb.put Iff.rfl rfl (Nat.le_succ _)
    split
    · rw [List.append_nil]; exact hb.put Iff.rfl rfl (Nat.le_succ _)
    · rw [List.append_nil]; exact hb.put (addw _) rfl (Nat.le_succ _)
  · rw [List.append_nil]; exact h.put Iff.rfl rfl (Nat.le_succ _)
  · rw [List.append_nil]
    refine h.put ?_ ?_ ?_
    · show (m.quoted r c).word = none ↔ _
      unfold MS.quoted
      split
      · exact Iff.rfl
      split
      · exact Iff.rfl
      · exact addw _
    · show (m.quoted r c).begun = _
      unfold MS.quoted
      split
      · rfl
      split <;> rfl
    · show m.place ≤ (m.quoted r c).place + 1
      rw [MS.place_quoted]; omega
theorem SInv.run {r : RS} : ∀ (t : Tx) {m : MS} {ds : List W3}, SInv m ds → SInv (m.run r t).1 (ds ++ (m.run r t).2)
  | [], m, ds, h => by rw [show (m.run r []).2 = [] from rfl, List.append_nil]; exact h
  | c :: t, m, ds, h => by
    have ih := SInv.run (r := r) t (h.step (r := r) c)
    rw [List.append_assoc] at ih
    exact ih
theorem read_span {r : RS} {t : Tx} {rp : Addr} {ds : List W3} (h : readAll r t rp = .ok ds) : spanT ds ≤ t.length + 1 := by
  have i := SInv.run (r := r) t (m := MS.zero rp) (ds := []) ⟨fun _ => Nat.le_refl _, fun z => absurd rfl z⟩
  rw [List.nil_append] at i
  have pl := MS.place_run r t (MS.zero rp)
  unfold readAll at h
  split at h
  · cases h
  · cases h
    have o := i.out
    rw [pl] at o
    simp only [MS.zero] at o ⊢
    omega
theorem joinT_len (c : Nat) : ∀ ls : List Tx, (joinT c ls).length ≤ (ls.map fun x => x.length + 1).sum - 1
  | [] => Nat.zero_le _
  | [x] => by simp [joinT]
  | x :: y :: l => by
    have ih := joinT_len c (y :: l)
    show (x ++ c :: joinT c (y :: l)).length ≤ _
    rw [List.length_append, List.length_cons, List.map_cons, List.sum_cons]
    have : 1 ≤ ((y :: l).map fun x => x.length + 1).sum := by rw [List.map_cons, List.sum_cons]; omega
    omega
theorem joinT_len' (c : Nat) : ∀ ls : List Tx, ls ≠ [] → (joinT c ls).length + 1 = (ls.map fun x => x.length + 1).sum
  | [], h => absurd rfl h
  | [x], _ => by simp [joinT]
  | x :: y :: l, _ => by
    have ih := joinT_len' c (y :: l) (by simp)
    show (x ++ c :: joinT c (y :: l)).length + 1 = _
    rw [List.length_append, List.length_cons, List.map_cons, List.sum_cons, ← ih]
    omega
/-! ### more breaks between -/
def joinS (sep : Tx) : List Tx → Tx
  | [] => []
  | [x] => x
  | x :: y :: l => x ++ (sep ++ joinS sep (y :: l))
theorem run_breaks {r : RS} : ∀ (sep : Tx), (∀ b ∈ sep, b ∈ r.breaks) → ∀ m : MS, Pl m → Pl (m.run r sep).1 ∧ (sep ≠ [] → (m.run r sep).1.word = none) ∧ (m.word = none → (m.run r sep).1.word = none) ∧ ((m.run r sep).2 ++ (m.run r sep).1.out) = m.out
  | [], _, m, p => ⟨p, fun z => absurd rfl z, fun z => z, rfl⟩
  | b :: sep, h, m, p => by
    have e : m.run r (b :: sep) = ((({ m.drop with place := m.place + 1 } : MS).run r sep).1, m.out ++ (({ m.drop with place := m.place + 1 } : MS).run r sep).2) := by
      show ((((m.step r b).1).run r sep).1, (m.step r b).2 ++ _) = _
      rw [run_break (h b List.mem_cons_self) p]
    obtain ⟨i1, i2, i3, i4⟩ := run_breaks sep (fun x hx => h x (List.mem_cons_of_mem _ hx)) { m.drop with place := m.place + 1 } ⟨p.st, p.be⟩
    rw [e]
    refine ⟨i1, fun _ => i3 rfl, fun _ => i3 rfl, ?_⟩
    dsimp only
    rw [List.append_assoc, i4]
    show m.out ++ [] = m.out
    rw [List.append_nil]
theorem out_none {m : MS} (h : m.word = none) : m.out = [] := by unfold MS.out; rw [h]
theorem run_joinedS {r : RS} {sep : Tx} (hs : ∀ b ∈ sep, b ∈ r.breaks) (ne : sep ≠ []) : ∀ (l : List (Tx × Tx)), (∀ x ∈ l, IsWrd r x.1 x.2) → ∀ m : MS, Pl m → m.word = none →
    Pl (m.run r (joinS sep (l.map (·.1)))).1 ∧ ((m.run r (joinS sep (l.map (·.1)))).2 ++ (m.run r (joinS sep (l.map (·.1)))).1.out).map (·.1) = l.map (·.2)
  | [], _, m, p, e => ⟨p, by show (([] : List W3) ++ m.out).map (fun d => d.1) = []; rw [out_none e]; rfl⟩
  | [(t, w)], h, m, p, e => by
    have q := h (t, w) List.mem_cons_self m p e
    show Pl (m.run r t).1 ∧ ((m.run r t).2 ++ (m.run r t).1.out).map (·.1) = _
    refine ⟨q.pl, ?_⟩
    rw [q.out]
    unfold MS.out
    rw [q.wd]
    rfl
  | (t, w) :: y :: l, h, m, p, e => by
    have q := h (t, w) List.mem_cons_self m p e
    obtain ⟨b1, b2, _, b4⟩ := run_breaks sep hs (m.run r t).1 q.pl
    have b2 := b2 ne
    rw [out_none b2, List.append_nil] at b4
    have ih := run_joinedS hs ne (y :: l) (fun x hx => h x (List.mem_cons_of_mem _ hx)) ((m.run r t).1.run r sep).1 b1 b2
    have er : m.run r (joinS sep (((t, w) :: y :: l).map (·.1))) = ((((m.run r t).1.run r sep).1.run r (joinS sep ((y :: l).map (·.1)))).1, (m.run r t).1.out ++ ((((m.run r t).1.run r sep).1.run r (joinS sep ((y :: l).map (·.1)))).2)) := by
      show m.run r (t ++ (sep ++ joinS sep ((y :: l).map (·.1)))) = _
      rw [MS.run_app, q.out, List.nil_append, MS.run_app, b4]
    rw [er]
    refine ⟨ih.1, ?_⟩
    rw [List.append_assoc, List.map_append, ih.2]
    unfold MS.out
    rw [q.wd]
    rfl
/-- breaks ahead and behind, too -/
theorem read_wide {r : RS} {sep : Tx} (hs : ∀ b ∈ sep, b ∈ r.breaks) (ne : sep ≠ []) {b : Nat} (hb : b ∈ r.breaks) (l : List (Tx × Tx)) (h : ∀ x ∈ l, IsWrd r x.1 x.2) (rp : Addr) :
    ∃ ds, readAll r ([b] ++ joinS sep (l.map (·.1)) ++ [b]) rp = .ok ds ∧ ds.map (·.1) = l.map (·.2) := by
  have hb1 : ∀ c ∈ [b], c ∈ r.breaks := fun c hc => by rw [List.mem_singleton.mp hc]; exact hb
  obtain ⟨a1, _, a3, a4⟩ := run_breaks [b] hb1 (MS.zero rp) ⟨rfl, rfl⟩
  have a3 := a3 rfl
  rw [out_none a3, List.append_nil, out_none (m := MS.zero rp) rfl] at a4
  have j := run_joinedS hs ne l h ((MS.zero rp).run r [b]).1 a1 a3
  obtain ⟨c1, c2, _, c4⟩ := run_breaks [b] hb1 (((MS.zero rp).run r [b]).1.run r (joinS sep (l.map (·.1)))).1 j.1
  have e : (MS.zero rp).run r ([b] ++ joinS sep (l.map (·.1)) ++ [b]) = (((((MS.zero rp).run r [b]).1.run r (joinS sep (l.map (·.1)))).1.run r [b]).1, (((MS.zero rp).run r [b]).1.run r (joinS sep (l.map (·.1)))).2 ++ (((((MS.zero rp).run r [b]).1.run r (joinS sep (l.map (·.1)))).1.run r [b]).2)) := by
    rw [MS.run_app, MS.run_app, a4]
    simp
  refine ⟨_, readAll_of (by rw [e]; exact c1), ?_⟩
  rw [e]
  dsimp only
  rw [List.append_assoc, c4]
  exact j.2
theorem joinS_len (sep : Tx) : ∀ ls : List Tx, (joinS sep ls).length ≤ (ls.map fun x => x.length + sep.length).sum
  | [] => Nat.zero_le _
  | [x] => by simp [joinS]
  | x :: y :: l => by
    have ih := joinS_len sep (y :: l)
    show (x ++ (sep ++ joinS sep (y :: l))).length ≤ _
    rw [List.length_append, List.length_append, List.map_cons, List.sum_cons]
    omega
theorem cutLen {t : Tx} {b e : Nat} (h2 : e ≤ t.length) : (cutT t b e).length = e - b := by
  rw [cutT, List.length_drop, List.length_take, Nat.min_eq_left h2]
theorem stSum {t : Tx} : ∀ {ds : List W3}, (∀ d ∈ ds, d.2.2 ≤ t.length) → ((ds.map fun d => cutT t d.2.1 d.2.2).map fun x => x.length + 1).sum = spanT ds
  | [], _ => rfl
  | d :: ds, h => by
    have ih := stSum (ds := ds) fun x hx => h x (List.mem_cons_of_mem _ hx)
    rw [List.map_cons, List.map_cons, List.sum_cons, ih, cutLen (h d List.mem_cons_self)]
    rfl
theorem sumMore (k : Nat) : ∀ ls : List Tx, (ls.map fun x => x.length + (k + 1)).sum = (ls.map fun x => x.length + 1).sum + k * ls.length
  | [] => rfl
  | x :: ls => by
    have ih := sumMore k ls
    simp only [List.map_cons, List.sum_cons, ih, List.length_cons, Nat.mul_add]
    omega
end Qw

set_option Elab.async false
set_option linter.all false
set_option maxRecDepth 100000
set_option maxHeartbeats 4000000
namespace Qw
open PySem L2
local macro_rules | `(tactic| walk_at "rd") => `(tactic| simp only [iEnum, iRng3, tRevL, rSlS, rSlL, gSub, rSetL, wipe, List.map_cons, List.map_nil, rAll, rAny, rIsi, tM1, tM0, iZipLT, iZip, iRng2, tLenSetS, rListStr, rMulS, rRep, rCntB, tRevS, rNeD, rEqD, tSeq, tNext, tAsg, tRet, tRetN, tDrop, tIfS, sFld, sFldAug, tVar, tC, tOp, tUn, tTest, tB, tAnd, tOr, tNot, tAndV, tOrV, tNotV, tIf, tTup, tLst, tCons, tNil, tCB, tCall, tMeth, tMake, tFld, rI, rI0, rU, rEq, rNe, rCat, gName, gTup, gCons, gNil, tPar, tPar3, tBM, tBM0, rAppend, rExtend, rPopAt, rIxL, rIxT, rIxS, tSl, rSlS, rSlL, tPart, tNoPart, iStr, iTup, iList, iRng1, tAug, ipI, L2.rAdd, L2.rSub, L2.rAddS, tChain, rIsB, rNotB, scal_ss, scal_ii, scal_bb, scal_nn, scal_in, scal_ni, tYes,
  cx_K, cx_N, List.getElem?_cons_zero, List.getElem?_cons_succ, List.set_cons_zero, List.set_cons_succ, List.nil_append, List.cons_append, List.append_nil, List.length_cons, List.length_nil, Nat.zero_add,
  Option.some.injEq, V.ref.injEq, V.int.injEq, V.str.injEq, V.bl.injEq, HO.ins.injEq, HO.lst.injEq, HO.tup.injEq, List.cons.injEq, exists_eq_left, exists_eq_left', exists_eq_right, exists_eq_right', and_true, true_and, exists_and_left, exists_and_right, and_assoc, decide_eq_true_eq, Bool.not_eq_true', decide_eq_false_iff_not, reduceCtorEq, exists_const, forall_const, if_true, if_false, false_and, and_false, ite_true, ite_false, Bool.true_eq_false, Bool.false_eq_true, Nat.reduceLeDiff, Nat.reduceAdd, small_line, small_lt, upd_ne, ne_eq, not_false_eq_true, Nat.zero_le, Prod.mk.injEq, upd_same, upd_upd, S_tl, S_len, S_app, S_one, S_inj,
  lk_breaks, lk_hard, lk_soft, lk_bend, lk_note, lk_rules, lk_state, lk_bent, lk_word, lk_begun, lk_opened, lk_place, pt_state, pt_bent, pt_word, pt_wordS, pt_wordN, pt_begun, pt_opened, pt_place, pt_place1, len_mf, litv_empty, litv_note, litv_nl, mf_inj, rf_inj, lkn_begin, lkn_ended, lkn_plain, lkn_quoted, lkn_step, lkn_fault, lkn_key, lkn_told, lkn_quotes, lkn_special, pt_open1, not_true_eq_false, not_false_eq_true])
local macro_rules | `(tactic| walk_at "rdh") => `(tactic| simp only [iEnum, iRng3, tRevL, rSlS, rSlL, gSub, rSetL, wipe, List.map_cons, List.map_nil, rAll, rAny, rIsi, tM1, tM0, iZipLT, iZip, iRng2, tLenSetS, rListStr, rMulS, rRep, rCntB, tRevS, rNeD, rEqD, tSeq, tNext, tAsg, tRet, tRetN, tDrop, tIfS, sFld, sFldAug, tVar, tC, tOp, tUn, tTest, tB, tAnd, tOr, tNot, tAndV, tOrV, tNotV, tIf, tTup, tLst, tCons, tNil, tCB, tCall, tMeth, tMake, tFld, rI, rI0, rU, rEq, rNe, rCat, gName, gTup, gCons, gNil, tPar, tPar3, tBM, tBM0, rAppend, rExtend, rPopAt, rIxL, rIxT, rIxS, tSl, rSlS, rSlL, tPart, tNoPart, iStr, iTup, iList, iRng1, tAug, ipI, L2.rAdd, L2.rSub, L2.rAddS, tChain, rIsB, rNotB, scal_ss, scal_ii, scal_bb, scal_nn, scal_in, scal_ni, tYes,
  cx_K, cx_N, List.getElem?_cons_zero, List.getElem?_cons_succ, List.set_cons_zero, List.set_cons_succ, List.nil_append, List.cons_append, List.append_nil, List.length_cons, List.length_nil, Nat.zero_add,
  Option.some.injEq, V.ref.injEq, V.int.injEq, V.str.injEq, V.bl.injEq, HO.ins.injEq, HO.lst.injEq, HO.tup.injEq, List.cons.injEq, exists_eq_left, exists_eq_left', exists_eq_right, exists_eq_right', and_true, true_and, exists_and_left, exists_and_right, and_assoc, decide_eq_true_eq, Bool.not_eq_true', decide_eq_false_iff_not, reduceCtorEq, exists_const, forall_const, if_true, if_false, false_and, and_false, ite_true, ite_false, Bool.true_eq_false, Bool.false_eq_true, Nat.reduceLeDiff, Nat.reduceAdd, small_line, small_lt, upd_ne, ne_eq, not_false_eq_true, Nat.zero_le, Prod.mk.injEq, upd_same, upd_upd, S_tl, S_len, S_app, S_one, S_inj,
  lk_breaks, lk_hard, lk_soft, lk_bend, lk_note, lk_rules, lk_state, lk_bent, lk_word, lk_begun, lk_opened, lk_place, pt_state, pt_bent, pt_word, pt_wordS, pt_wordN, pt_begun, pt_opened, pt_place, pt_place1, len_mf, litv_empty, litv_note, litv_nl, mf_inj, rf_inj, lkn_begin, lkn_ended, lkn_plain, lkn_quoted, lkn_step, lkn_fault, lkn_key, lkn_told, lkn_quotes, lkn_special, pt_open1, not_true_eq_false, not_false_eq_true, *])
local macro_rules | `(tactic| walk_at "pl") => `(tactic| (first | decide | (refine Nat.lt_of_le_of_lt (length_putF _ _ _) ?_; repeat (first | decide | refine pl2 ?_))))
local macro_rules | `(tactic| walk_at "al") => `(tactic| (intro p hp; generalize hH : upd _ p _ = H1; obtain ⟨S, e⟩ := gen_new hH hp; clear hH))
theorem join_txt0 (c : Nat) : ∀ ls : List Tx, Str.join (S [c]) (ls.map S) = S (joinT c ls)
  | [] => rfl
  | [x] => rfl
  | x :: y :: r => by
    show S x ++ S [c] ++ Str.join (S [c]) ((y :: r).map S) = _
    rw [join_txt0 c (y :: r), S_app, S_app]
    simp [joinT]
theorem join_txt (c : Nat) (ls : List Tx) : Txt.join (S [c]) (ls.map S) = S (joinT c ls) := by
  rw [show Txt.join (S [c]) (ls.map S) = Str.join (S [c]) (ls.map S) from StrLaws.glued_eq_join _ _]
  exact join_txt0 c ls
/-- a word's heights -/
def hgtT (r : RS) (w : Tx) : List (List Nat) := if w = [] then [] else rowsT r w
/-- a word's writing -/
def WrT (r : RS) (t w : Tx) : Prop := t.length = leastT r w ∧ t ≠ [] ∧ IsWrd r t w ∧ (w.all sgn = true → t.all sgn = true)
theorem go_signs {r : RS} {w : Tx} {rows : List (List Nat)} {P : Nat → Prop} (hw : ∀ c ∈ w, P c) (hr : ∀ c ∈ r.every, P c) : ∀ (n : Nat) (found : Tx) (at_ st : Nat) (t : Tx), wrGo r w rows n found at_ st = some t → (∀ c ∈ found, P c) → at_ ≤ w.length → ∀ c ∈ t, P c := by
  have hq : ∀ k, ∀ c ∈ sT (r.sts.getD k none), P c := fun k c hc => by
    by_cases hk : k < r.sts.length
    · have := at_sts hk
      generalize r.sts.getD k none = s at *
      cases s with
      | none => cases hc
      | some q =>
        rw [List.mem_singleton.mp hc]
        have hq : q ∈ r.quotes := by simpa [RS.sts] using this
        refine hr q ?_
        rcases List.mem_append.mp hq with z | z <;> simp [RS.every, z]
    · rw [List.getD_eq_getElem?_getD, List.getElem?_eq_none (by omega)] at hc
      cases hc
  intro n
  induction n with
  | zero => intro found at_ st t h; rw [wrGo] at h; cases h
  | succ n ih =>
    intro found at_ st t h hf ha
    rw [wrGo] at h
    split at h
    · cases h; exact hf
    · split at h
      · rename_i c hh
        have a0 : at_ ≠ 0 := fun z => by unfold wrHit at hh; rw [if_pos z] at hh; cases hh
        have hc : P (w.getD (at_ - 1) 0) := by
          refine hw _ ?_
          rw [List.getD_eq_getElem?_getD, List.getElem?_eq_getElem (by omega)]
          exact List.getElem_mem _
        refine ih _ _ _ _ h (fun x hx => ?_) (by omega)
        rcases List.mem_append.mp hx with hx | hx
        · split at hx
          · rw [List.mem_singleton.mp hx]; exact hc
          · rcases List.mem_append.mp hx with hx | hx
            · exact hr x (by simp [RS.every, hx])
            · rw [List.mem_singleton.mp hx]; exact hc
        · exact hf x hx
      · split at h
        · exact ih _ _ _ _ h (fun x hx => (List.mem_append.mp hx).elim (hq st x) (hf x)) ha
        · split at h
          · cases h
          · rename_i k _ _
            exact ih _ _ _ _ h (fun x hx => (List.mem_append.mp hx).elim (hq k x) (hf x)) ha
theorem one_signs {r : RS} (ok : r.Ok) {w t : Tx} {hs : List (List Nat)} (h : oneT r w = some (t, hs)) (hw : w.all sgn = true) : t.all sgn = true := by
  have hr : ∀ c ∈ r.every, sgn c = true := List.all_eq_true.mp ok.sg
  refine List.all_eq_true.mpr ?_
  unfold oneT at h
  split at h
  · split at h
    · cases h
    · rename_i q more e
      cases h
      have : q ∈ r.quotes := by rw [e]; exact List.mem_cons_self
      have : sgn q = true := hr q (by rcases List.mem_append.mp this with z | z <;> simp [RS.every, z])
      simpa using this
  · obtain ⟨t', h1, h2⟩ := Option.map_eq_some_iff.mp h
    cases h2
    exact go_signs (List.all_eq_true.mp hw) hr _ _ _ _ _ h1 (fun _ z => (nomatch z)) (Nat.le_refl _)
theorem least_le {r : RS} {w : Tx} (h : cannotT r w = false) : leastT r w ≤ 4 * w.length + 2 := by
  unfold leastT
  split
  · omega
  · rename_i ne
    have := cur_low (r := r) _ w rfl (can_of h ne)
    omega
/-- all words' writings -/
theorem ones_ok {r : RS} (ok : r.Ok) : ∀ (ws : List Tx), (∀ w ∈ ws, w.all sgn = true ∧ w.length ≤ 12 ∧ cannotT r w = false) → ∃ ds : List (Tx × List (List Nat)), ws.map (oneT r) = ds.map some ∧ ds.map (·.2) = ws.map (hgtT r) ∧ Paired (WrT r) (ds.map (·.1)) ws ∧ ∀ d ∈ ds, d.1.length ≤ 50
  | [], _ => ⟨[], rfl, rfl, .nil, fun _ z => (nomatch z)⟩
  | w :: ws, h => by
    obtain ⟨ds, h1, h2, h3, h4⟩ := ones_ok ok ws fun x hx => h x (List.mem_cons_of_mem _ hx)
    obtain ⟨a1, a2, a3⟩ := h w List.mem_cons_self
    obtain ⟨t, g1, g2, g3, g4⟩ := one_ok ok a3 a2
    have le := least_le a3
    refine ⟨(t, hgtT r w) :: ds, by rw [List.map_cons, g1, h1]; rfl, by rw [List.map_cons, h2]; rfl, .cons ⟨g2, g3, g4.isWrd g3, one_signs ok g1⟩ h3, fun d hd => ?_⟩
    rcases List.mem_cons.mp hd with rfl | hd
    · show t.length ≤ 50
      omega
    · exact h4 d hd
/-- an answer of one_written, none of it at D -/
def OneD (D : Addr) (H : Hp) (v : V) (d : Tx × List (List Nat)) : Prop := ∃ q l xs, v = .ref q ∧ q ≠ D ∧ l ≠ D ∧ H q = some (.tup [.str (S d.1), .ref l]) ∧ H l = some (.lst xs) ∧ Paired (RowD D H) xs d.2
theorem OneD.mono {D : Addr} {H H' : Hp} {v : V} {d : Tx × List (List Nat)} (k : Kp D H H') (h : OneD D H v d) : OneD D H' v d := by
  obtain ⟨q, l, xs, h1, h2, h3, h4, h5, h6⟩ := h
  exact ⟨q, l, xs, h1, h2, h3, k _ _ h4 h2, k _ _ h5 h3, Paired.mapP h6 fun _ _ ⟨b, g1, g2, g3⟩ => ⟨b, g1, g2, k _ _ g3 g2⟩⟩
/-- the heights of such answers -/
theorem ones_hts {D : Addr} {H : Hp} : ∀ {xs : List V} {ds : List (Tx × List (List Nat))}, Paired (OneD D H) xs ds → ∃ us : List V, Paired (HeightsV H) us (ds.map (·.2)) ∧
    ∀ (i : Nat) (x u : V), xs[i]? = some x → us[i]? = some u → ∃ b w, x = .ref b ∧ H b = some (.tup [w, u])
  | _, _, .nil => ⟨[], .nil, fun i x u h _ => by simp at h⟩
  | _, _, .cons r t => by
    obtain ⟨us, h2, h3⟩ := ones_hts t
    obtain ⟨b, u, zs, rfl, n1, n2, g1, g2, g3⟩ := r
    refine ⟨.ref u :: us, .cons ⟨u, zs, rfl, g2, Paired.mapP g3 fun _ _ ⟨c, e1, _, e2⟩ => ⟨c, e1, e2⟩⟩ h2, fun i x v e1 e2 => ?_⟩
    match i, e1, e2 with
    | 0, e1, e2 => cases e1; cases e2; exact ⟨b, _, rfl, g1⟩
    | i + 1, e1, e2 => exact h3 i x v (by simpa using e1) (by simpa using e2)
theorem sum_le (n : Nat) : ∀ (ds : List (Tx × List (List Nat))), (∀ d ∈ ds, d.1.length ≤ n) → (List.map (fun x : Str => x.length) ((ds.map (·.1)).map S)).sum ≤ n * ds.length
  | [], _ => by simp
  | d :: ds, h => by
    have h1 := h d List.mem_cons_self
    have h2 := sum_le n ds fun x hx => h x (List.mem_cons_of_mem _ hx)
    simp only [List.map_cons, List.sum_cons, S_len, List.length_cons] at h2 ⊢
    rw [Nat.mul_add]
    omega
section
variable {P : Program} {w : World} {K : PySem.W.Frag} {mg : Str → Option Value} {base : Heap} {a : Ad}
def sp_shortest (a : Ad) : Sp := fun vs H Q _ => ∃ (p dr : Addr) (r : RS) (l : Addr) (ws : List Tx), vs = [.ref p, .ref l] ∧ H p = some (.ins a.c_Rules dr (RS.f r)) ∧ r.Ok ∧ H l = some (.lst (ws.map fun w => .str (S w))) ∧ ws.length ≤ 8 ∧ (∀ w ∈ ws, w.all sgn = true ∧ w.length ≤ 12 ∧ cannotT r w = false) ∧
  ∀ ts q H' dx l' xs', Paired (WrT r) ts ws → H q = none → H l' = none → Same H H' → H' q = some (.ins a.c_Shortest dx [("text", .str (S (joinT (r.breaks.headD 0) ts))), ("heights", .ref l')]) → H' l' = some (.lst xs') → Paired (HeightsV H') xs' (ws.map (hgtT r)) → Q (.ref q) H'
theorem ok_shortest (T : Txt K mg a) : FnOk P w K mg base CX0 6 a.f_shortest a.d_shortest P_shortest (sp_shortest a) := by
  refine T.F_shortest.ok sc_shortest (fun vs H Q E h => ?_) (fun cdv A outer s H vs Q E hr h => ?_)
  · obtain ⟨p, dr, r, l, ws, rfl, _⟩ := h
    rfl
  · obtain ⟨p, dr, r, l, ws, rfl, hR, ok, hl, hn, hw, k⟩ := h
    obtain ⟨ds, hds, hd2, hd1, hd50⟩ := ones_ok ok ws hw
    have G_are_signs := ok_are_signs (P := P) (w := w) (base := base) T
    have B_are_signs := bi_are_signs T
    have G_cannot := ok_cannot (P := P) (w := w) (base := base) T
    have B_cannot := bi_cannot T
    have G_one_written := ok_one_written (P := P) (w := w) (base := base) T
    have B_one_written := bi_one_written T
    have G_Shortest_init := ok_Shortest_init (P := P) (w := w) (base := base) T
    have B_Shortest_init := bi_Shortest_init T
    refine ⟨_,
(pss_cons (ps_if (PW.pt (pw_or (pt_not (pt_val (pe_callB (call_isi) (by rfl) T.b_isinstance (by decide +kernel) (pa_cons (pv 1) (pa_cons (pe_bltn (v := .ty "list") (u := .type "list") rfl T.b_list (by decide +kernel) rfl) pa_nil))))) (pw_or1 (pt_cmpR op_gt (pe_callB call_len_seq (by rfl) T.b_len PySem.boot_len (pa_cons (pv 1) pa_nil)) (pe_glob (v := .int 8) rfl T.g_MOST_WORDS ⟨_, rfl⟩) (nomark _))))) (pss_one ps_never) pss_nil)
    (pss_cons (ps_if (pt_not (pt_val (pe_callB (cr_all rfl) (by rfl) T.b_all (by decide +kernel) (pa_cons (pe_lc (own := [("word", 2)]) (g := gName 2) (tt := tYes) rfl sc_shortest.nd (pi_list (pv 1)) (blkOk_by (own := [("word", 2)]) (N := N_shortest) (sc := defScope st_shortest) (by decide +kernel)) (fun _ _ _ _ _ => (pg_name (i := 2) sc_shortest.nd rfl (by first | exact Or.inl rfl | exact Or.inr rfl))) (fun _ _ _ _ _ => pts_nil) (fun _ _ _ _ _ => (pe_and (pe_call G_are_signs (hr.mono (by decide)) rfl T.f_are_signs.g T.f_are_signs.k B_are_signs .nil pass0 (pa_cons (pv 2) pa_nil)) (pe_one (pe_cmpR op_le (pe_callB call_len_str (by rfl) T.b_len PySem.boot_len (pa_cons (pv 2) pa_nil)) (pe_glob (v := .int 12) rfl T.g_LONGEST_WORD ⟨_, rfl⟩) (nomark _)))))) pa_nil)))) (pss_one ps_never) pss_nil)
    (pss_cons (ps_for PassesOwn.never rfl (pi_enum (by rfl) T.b_enumerate (pa_cons (pv 1) pa_nil)) (pg_tup rfl (pgs_cons (pg_name (i := 3) sc_shortest.nd rfl (by first | exact Or.inl rfl | exact Or.inr rfl)) (pgs_cons (pg_name (i := 2) sc_shortest.nd rfl (by first | exact Or.inl rfl | exact Or.inr rfl)) pgs_nil)))
    (pss_one (ps_if (pt_val (pe_call G_cannot (hr.mono (by decide)) rfl T.f_cannot.g T.f_cannot.k B_cannot .nil pass0 (pa_cons (pv 0) (pa_cons (pv 2) pa_nil)))) (pss_one ps_never) pss_nil)))
    (pss_cons (ps_setLc (i := 4) (own := [("word", 2)]) (g := gName 2) (tt := tYes) rfl sc_shortest.nd rfl rfl (sw_true rfl rfl rfl (by decide +kernel)) (pi_list (pv 1)) (blkOk_by (own := [("word", 2)]) (N := N_shortest) (sc := defScope st_shortest) (by decide +kernel)) (fun _ _ _ _ _ => (pg_name (i := 2) sc_shortest.nd rfl (by first | exact Or.inl rfl | exact Or.inr rfl))) (fun _ _ _ _ _ => pts_nil) (fun _ _ _ _ _ => (pe_call G_one_written (hr.mono (by decide)) rfl T.f_one_written.g T.f_one_written.k B_one_written .nil pass0 (pa_cons (pv 0) (pa_cons (pv 2) pa_nil)))))
    (pss_one (ps_ret (pe_make T.c_Shortest.mc G_Shortest_init (hr.mono (by decide)) rfl T.c_Shortest.g B_Shortest_init .nil pass0 (pa_cons (pe_join (pe_ix ix_str (pe_fld (pv 0) rfl) pe_int (fun _ _ => rfl)) (pe_lc (own := [("pair", 5)]) (g := gName 5) (tt := tYes) rfl sc_shortest.nd (pi_list (pv 4)) (blkOk_by (own := [("pair", 5)]) (N := N_shortest) (sc := defScope st_shortest) (by decide +kernel)) (fun _ _ _ _ _ => (pg_name (i := 5) sc_shortest.nd rfl (by first | exact Or.inl rfl | exact Or.inr rfl))) (fun _ _ _ _ _ => pts_nil) (fun _ _ _ _ _ => (pe_ix (ix_tupK (K := K) rfl) (pv 5) pe_int (fun _ _ => rfl))))) (pa_cons (pe_lc (own := [("pair", 5)]) (g := gName 5) (tt := tYes) rfl sc_shortest.nd (pi_list (pv 4)) (blkOk_by (own := [("pair", 5)]) (N := N_shortest) (sc := defScope st_shortest) (by decide +kernel)) (fun _ _ _ _ _ => (pg_name (i := 5) sc_shortest.nd rfl (by first | exact Or.inl rfl | exact Or.inr rfl))) (fun _ _ _ _ _ => pts_nil) (fun _ _ _ _ _ => (pe_ix (ix_tupK (K := K) rfl) (pv 5) pe_int (fun _ _ => rfl)))) pa_nil)))))))))
      , ?_⟩
    rw [show start N_shortest [V.ref p, V.ref l] = [some (.ref p), some (.ref l), none, none, none, none] from rfl]
    have hlen : (ws.map fun w => V.str (S w)).length = ws.length := List.length_map _
    -- the two refusals don't come
    refine tseq_split (fun σ' H' => σ' = [some (.ref p), some (.ref l), none, none, none, none] ∧ H' = H) (fun N hN => ?_) ?_
    · walk_at "rd"
      refine ⟨_, _, .ty _, .base (.lst hl), _, kit_ty (b := "list") (r := true) (by decide +kernel), ?_⟩
      refine ite2 (fun c => by cases c) (fun _ => ?_)
      refine ⟨_, .inl (.inl (.inl hl)), ?_⟩
      refine ite2 (fun c => absurd c (by rw [hlen]; omega)) (fun _ => ?_)
      exact hN _ _ ⟨rfl, rfl⟩
    rintro σ' H0 ⟨rfl, rfl⟩
    refine tseq_split (fun σ' H' => (∃ v2, σ' = [some (.ref p), some (.ref l), v2, none, none, none]) ∧ Same H0 H') (fun N hN => ?_) ?_
    · walk_at "rd"
      refine tlc_map ws (fun _ => .bl true) (J := Itl K l) (H1 := H0) (G := fun H => SqL K H l (ws.map fun w => .str (S w))) (fun R hR => ?_) (hlen ▸ walk_list) (by omega) (fun H s => .inl (.inl (s _ _ hl))) ?_ ?_
      · walk_at "rd"
        exact ⟨⟨_, .inl (.inl hl)⟩, hR⟩
      · rintro R R' j u x H2 H2' hj s2 ⟨rfl, hx⟩ hk
        rw [List.getElem?_map, hj] at hx
        cases hx
        obtain ⟨g1, g2, g3⟩ := hw u (List.mem_of_getElem? hj)
        walk_at "rdh"
        refine ⟨u, rfl, by omega, fun H4 s4 => ?_⟩
        have hk := hk H4 s4
        rw [g1]
        walk_at "rd"
        rw [decide_eq_true (show ((u.length : Nat) : Int) ≤ 12 by omega)]
        exact ⟨line_le (by omega), hk⟩
      · intro D H2 hD s2 e2
        walk_at "rd"
        refine ⟨ws.map fun _ => true, .inl (.inl (by rw [List.map_map]; exact e2)), ?_⟩
        refine ite2 (fun c => ?_) (fun _ => hN _ _ ⟨⟨_, rfl⟩, s2⟩)
        exfalso
        rw [List.all_map, Bool.eq_false_iff] at c
        exact c (List.all_eq_true.mpr fun _ _ => rfl)
    rintro σ' H1 ⟨⟨v2, rfl⟩, S1⟩
    refine tseq_split (fun σ' H' => (∃ v2 v3, σ' = [some (.ref p), some (.ref l), v2, v3, none, none]) ∧ Same H0 H') (fun N hN => ?_) ?_
    · refine tfor_it (J := Ite K l) (H1 := H1) (n := ws.length) (G := fun H => SqL K H l (ws.map fun w => .str (S w))) (fun R hR => ?_) (hlen ▸ walk_enum) (fun i σ H' => (∃ v2 v3, σ = [some (.ref p), some (.ref l), v2, v3, none, none]) ∧ Same H0 H') ⟨⟨_, _, rfl⟩, S1⟩ (fun _ _ _ _ h => .inl (.inl (h.2 _ _ hl))) ?_ ?_
      · walk_at "rd"
        exact ⟨⟨_, .inl (.inl (S1 _ _ hl))⟩, hR⟩
      · rintro i x σ H2 H2' hi ⟨⟨v2, v3, rfl⟩, S2⟩ ⟨T0, x1, x2, rfl, hT0, rfl, hx1, hx2⟩
        dsimp only at hx2
        rw [List.getElem?_map] at hx2
        obtain ⟨u, hu, rfl⟩ := Option.map_eq_some_iff.mp hx2
        cases hx1
        obtain ⟨g1, g2, g3⟩ := hw u (List.mem_of_getElem? hu)
        walk_at "rdh"
        refine ⟨_, .inl (.inl upd_same), rfl, _, _, rfl, _, _, rfl, rfl, p, dr, r, u, rfl, (S2.trans (same_new hT0)) _ _ hR, ok, by omega, fun H4 s4 => ⟨_, rfl, ?_⟩⟩
        rw [g3]
        exact ite2 (fun c => by cases c) (fun _ => ⟨⟨_, rfl⟩, (S2.trans (same_new hT0)).trans s4⟩)
      · rintro σ H2 h
        exact hN _ _ h
    rintro σ' H2 ⟨⟨v2, v3, rfl⟩, S2⟩
    walk_at "rd"
    have lds : ds.length = ws.length := by
      have := congrArg List.length hds
      simpa using this.symm
    have hl2 := S2 _ _ hl
    have hR2 := S2 _ _ hR
    refine tlc_all (ι := Unit) (C := fun _ => True) (J := fun _ => Itl K l) (H1 := fun _ => H2) (fun R hR => ?_) fun _ _ D hD => ?_
    · walk_at "rd"
      exact ⟨⟨_, .inl (.inl hl2)⟩, hR () trivial⟩
    refine lc_relD ds (OneD D) OneD.mono (G := fun H => SqL K H l (ws.map fun w => .str (S w))) ((hlen.trans lds.symm) ▸ walk_list) (by omega) hD (fun H s => .inl (.inl (s _ _ hl2))) ?_ ?_
    · rintro R R' i d x H3 H3' hi s3 ⟨dl, hdl⟩ ⟨rfl, hx⟩ hk
      rw [List.getElem?_map] at hx
      obtain ⟨u, hu, rfl⟩ := Option.map_eq_some_iff.mp hx
      obtain ⟨g1, g2, g3⟩ := hw u (List.mem_of_getElem? hu)
      have ho : oneT r u = some d := by
        have e := congrArg (fun l => l[i]?) hds
        simp only [List.getElem?_map, hu, hi, Option.map] at e
        exact Option.some.inj e
      walk_at "rdh"
      refine ⟨p, dr, r, u, d, rfl, s3 _ _ hR2, ok, by omega, ho, fun v H4 s4 hv => hk v H4 s4 ?_⟩
      obtain ⟨q, l1, xs, rfl, o1, o2, o3, o4⟩ := hv
      have nD := ne_of_none hdl o2
      refine ⟨q, l1, xs, rfl, ?_, Ne.symm (ne_of_none hdl o2), o1, o3, Paired.mapP o4 fun _ _ ⟨b, g1, g2, g3⟩ => ⟨b, g1, Ne.symm (ne_of_none hdl g2), g3⟩⟩
      rintro rfl
      rw [s4 _ _ hdl] at o1
      cases o1
    intro H3 xs s3 e3 prs
    have hR3 := s3 _ _ hR2
    have n1 := T.n_Rules_breaks
    have hc := T.c_Rules.cl
    obtain ⟨b0, bs, hb0⟩ : ∃ b0 bs, r.breaks = b0 :: bs := by
      cases e : r.breaks with
      | nil => exact absurd e ok.ne
      | cons x y => exact ⟨x, y, rfl⟩
    refine ⟨_, _, _, hR3, hc, n1, _, lk_breaks r, S r.breaks, rfl, line_le (by rw [S_len]; have := ok.l1; omega), b0, ?_, ⟨_, rfl⟩, ?_⟩
    · rw [hb0]
      exact atI_nat (j := 0) rfl
    refine tlc_map ds (fun d => .str (S d.1)) (J := Itl K D) (H1 := H3) (G := fun H => SqL K H D xs) (fun R hR => ?_) (prs.length ▸ walk_list) (by omega) (fun H s => .inl (.inl (s _ _ e3))) ?_ ?_
    · walk_at "rd"
      exact ⟨⟨_, .inl (.inl e3)⟩, hR⟩
    · rintro R R' i d x H4 H4' hi s4 ⟨rfl, hx⟩ hk
      obtain ⟨q, l1, zs, rfl, o1, o2, o3, o4, o5⟩ := Paired.at' prs hi hx
      walk_at "rdh"
      refine ⟨_, .inl (.inl (s4 _ _ o3)), _, atI_nat (j := 0) rfl, hk _ (Same.refl _)⟩
    intro D2 H4 hD2 s4 e4
    refine ⟨D2, rfl, (ds.map (·.1)).map S, .inl (.inl (.inl (by rw [e4, List.map_map, List.map_map]; rfl))), ?_, ?_⟩
    · have h1 := sum_le 50 ds hd50
      rw [List.length_map, List.length_map]
      omega
    obtain ⟨us, hus, hus2⟩ := ones_hts (Paired.mapP prs fun _ _ z => z.mono (s4.kp D))
    have lus := hus.length
    rw [List.length_map] at lus
    rw [join_txt]
    refine tlc_map us id (J := Itl K D) (H1 := H4) (G := fun H => SqL K H D xs) (fun R hR => ?_) ((prs.length.trans lus.symm) ▸ walk_list) (by omega) (fun H s => .inl (.inl (s _ _ (s4 _ _ e3)))) ?_ ?_
    · walk_at "rd"
      exact ⟨⟨_, .inl (.inl (s4 _ _ e3))⟩, hR⟩
    · rintro R R' i u x H5 H5' hi s5 ⟨rfl, hx⟩ hk
      obtain ⟨b, w, rfl, o3⟩ := hus2 i x u hx hi
      walk_at "rdh"
      refine ⟨_, .inl (.inl (s5 _ _ o3)), _, atI_nat (j := 1) rfl, hk _ (Same.refl _)⟩
    intro D3 H5 hD3 s5 e5
    rw [List.map_id] at e5
    intro q dx hq hdx ne
    have S25 := ((S2.trans s3).trans s4).trans s5
    have sq : Same H5 (upd (upd H5 dx (HO.own q)) q (HO.ins a.c_Shortest dx [])) := (same_new hdx).trans (same_new (by rw [upd_ne (Ne.symm ne)]; exact hq))
    refine ⟨q, dx, joinT b0 (ds.map (·.1)), D3, us, ws.map (hgtT r), rfl, upd_same, sq _ _ e5, ?_, by rw [List.length_map]; omega, fun rows hrows => ?_, fun H6 l' xs' hl' g1 g2 g3 k6 => ?_⟩
    · rw [← hd2]
      exact Paired.mapP hus fun _ _ ⟨c, zs, g1, g2, g3⟩ => ⟨c, zs, g1, sq _ _ (s5 _ _ g2), g3.same (s5.trans sq)⟩
    · obtain ⟨u, hu, rfl⟩ := List.mem_map.mp hrows
      have hql := r.quotes_len ok
      have := (hw u hu).2.1
      unfold hgtT
      split
      · exact ⟨by simp, fun _ z => (nomatch z)⟩
      · refine ⟨by simp [rowsT]; omega, fun row hrow => ?_⟩
        obtain ⟨j, _, rfl⟩ := List.mem_map.mp hrow
        rw [cur_len]
        omega
    · have fr : ∀ {b}, upd (upd H5 dx (HO.own q)) q (HO.ins a.c_Shortest dx []) b = none → H0 b = none := fun h => S25.free (none_upd (none_upd h))
      have S56 : Same H5 H6 := fun b o hb => k6 b o (sq _ _ hb) (ne_of_none hb hq)
      exact ⟨rfl, k (ds.map (·.1)) q H6 dx l' xs' hd1 (S25.free hq) (fr hl') (S25.trans S56) (by rw [g1, hb0]; rfl) g2 g3⟩
end
end Qw

set_option Elab.async false
set_option linter.all false
set_option maxRecDepth 100000
set_option maxHeartbeats 4000000
namespace Qw
open PySem L2
/-! answers, for the laws but k01 -/
theorem pe_fldK {X : Cx} {K : PySem.W.Frag} {e : Expr} {f : Str} {ta : TE} {pos : Pos} (h : X.K = K) (he : PE X e ta) (hb : attributeBase e f X.env (eval e X.env) = eval e X.env) : PE X (.Attribute e f pos) (tFld K ta f) := by
  subst h
  exact pe_fld he hb
theorem SqT.same {K : PySem.W.Frag} {H H' : Hp} {p : Addr} {xs : List V} (s : Same H H') (h : SqT K H p xs) : SqT K H' p xs := by
  rcases h with (h | ⟨o, h⟩) | h
  · exact .inl (.inl (s _ _ h))
  · exact .inl (.inr ⟨o, s _ _ h⟩)
  · exact .inr h
mutual
theorem Dp.same {K : PySem.W.Frag} {H H' : Hp} (s : Same H H') : ∀ (d : PyData) (v : V), Dp K H v d → Dp K H' v d
  | .none, _, h => by cases h; exact .non
  | .bool _, _, h => by cases h; exact .bl _
  | .int _, _, h => by cases h; exact .int _
  | .str _, _, h => by cases h; exact .str _
  | .list ds, _, h => by
    cases h with
    | lst hs ha => exact .lst (s.seq hs) (DpAll.same s ds _ ha)
  | .tuple ds, _, h => by
    cases h with
    | tup hs ha => exact .tup (SqT.same s hs) (DpAll.same s ds _ ha)
  | .dict _, _, h => by cases h
theorem DpAll.same {K : PySem.W.Frag} {H H' : Hp} (s : Same H H') : ∀ (ds : List PyData) (vs : List V), DpAll K H vs ds → DpAll K H' vs ds
  | [], _, h => by cases h; exact .nil
  | d :: ds, _, h => by
    cases h with
    | cons h1 h2 => exact .cons (Dp.same s d _ h1) (DpAll.same s ds _ h2)
end
section
variable {P : Program} {w : World} {K : PySem.W.Frag} {mg : Str → Option Value} {base : Heap} {a : Ad}
/-- an answer at p -/
def Ans (a : Ad) (H : Hp) (p : Addr) (x : Told) : Prop := match x with
  | .error n => ∃ dx, H p = some (.ins a.c_Fault dx [("place", .int n)])
  | .ok (ws, ps) => ∃ dx l1 l2 ys, H p = some (.ins a.c_Words dx (WF l1 l2)) ∧ H l1 = some (.lst (ws.map fun w => .str (S w))) ∧ H l2 = some (.lst ys) ∧ Paired (Pls H) ys ps
theorem Ansd.ans {H H' : Hp} {p : Addr} {x : Told} (h : Ansd a H H' p x) : Ans a H' p x := by
  cases x with
  | error n => exact h
  | ok z =>
    obtain ⟨ws, ps⟩ := z
    obtain ⟨dx, l1, l2, ys, h1, h2, h3, h4, _⟩ := h
    exact ⟨dx, l1, l2, ys, h1, h2, h3, h4⟩
theorem Ans.same {H H' : Hp} {p : Addr} {x : Told} (h : Ans a H p x) (s : Same H H') : Ans a H' p x := by
  cases x with
  | error n =>
    obtain ⟨dx, h⟩ := h
    exact ⟨dx, s _ _ h⟩
  | ok z =>
    obtain ⟨ws, ps⟩ := z
    obtain ⟨dx, l1, l2, ys, h1, h2, h3, h4⟩ := h
    exact ⟨dx, l1, l2, ys, s _ _ h1, s _ _ h2, s _ _ h3, Paired.mapP h4 fun _ _ z => z.mono fun b xs => s b _⟩
def isOk : Told → Bool
  | .error _ => false
  | .ok _ => true
def clsOf (a : Ad) : Told → Addr
  | .error _ => a.c_Fault
  | .ok _ => a.c_Words
theorem clsOf_cl (T : Txt K mg a) (x : Told) : Cls K (clsOf a x) := by
  cases x
  · exact T.c_Fault.cl
  · exact T.c_Words.cl
theorem clsOf_k (T : Txt K mg a) (x : Told) : PySem.W.kitOne K (.ref (clsOf a x)) (.ref a.c_Words) = some (isOk x) := by
  cases x
  · exact T.k_FW
  · exact T.k_WW
theorem Ans.ty (T : Txt K mg a) {H : Hp} {p : Addr} {x : Told} (h : Ans a H p x) : TyX K H (.ref p) (.ref (clsOf a x)) := by
  cases x with
  | error n =>
    obtain ⟨dx, h⟩ := h
    exact ty_Fault T h
  | ok z =>
    obtain ⟨dx, l1, l2, ys, h1, _⟩ := h
    exact ty_Words T h1
theorem few_quotes {r : RS} (ok : r.Ok) : r.hard.length + r.soft.length ≤ 100 := by have h1 := ok.l2; have h2 := ok.l3; omega
theorem shown_bool (b : Bool) : (PyData.list [.bool b]).showable = true ∧ (PyData.list [.bool b]).hasDict = false ∧ (PyData.list [.bool b]).depth ≤ 32 ∧ (PyData.list [.bool b]).shown.length ≤ sizeLine := by
  cases b <;> exact ⟨by decide, by decide, by decide, by decide +kernel⟩
end
end Qw

set_option Elab.async false
set_option linter.all false
set_option maxRecDepth 100000
set_option maxHeartbeats 4000000
namespace Qw
open PySem L2
local macro_rules | `(tactic| walk_at "rd") => `(tactic| simp only [iEnum, iRng3, tRevL, rSlS, rSlL, gSub, rSetL, wipe, List.map_cons, List.map_nil, rAll, rAny, rIsi, tM1, tM0, iZipLT, iZip, iRng2, tLenSetS, rListStr, rMulS, rRep, rCntB, tRevS, rNeD, rEqD, tSeq, tNext, tAsg, tRet, tRetN, tDrop, tIfS, sFld, sFldAug, tVar, tC, tOp, tUn, tTest, tB, tAnd, tOr, tNot, tAndV, tOrV, tNotV, tIf, tTup, tLst, tCons, tNil, tCB, tCall, tMeth, tMake, tFld, rI, rI0, rU, rEq, rNe, rCat, gName, gTup, gCons, gNil, tPar, tPar3, tBM, tBM0, rAppend, rExtend, rPopAt, rIxL, rIxT, rIxS, tSl, rSlS, rSlL, tPart, tNoPart, iStr, iTup, iList, iRng1, tAug, ipI, L2.rAdd, L2.rSub, L2.rAddS, tChain, rIsB, rNotB, scal_ss, scal_ii, scal_bb, scal_nn, scal_in, scal_ni, tYes,
  cx_K, cx_N, List.getElem?_cons_zero, List.getElem?_cons_succ, List.set_cons_zero, List.set_cons_succ, List.nil_append, List.cons_append, List.append_nil, List.length_cons, List.length_nil, Nat.zero_add,
  Option.some.injEq, V.ref.injEq, V.int.injEq, V.str.injEq, V.bl.injEq, HO.ins.injEq, HO.lst.injEq, HO.tup.injEq, List.cons.injEq, exists_eq_left, exists_eq_left', exists_eq_right, exists_eq_right', and_true, true_and, exists_and_left, exists_and_right, and_assoc, decide_eq_true_eq, Bool.not_eq_true', decide_eq_false_iff_not, reduceCtorEq, exists_const, forall_const, if_true, if_false, false_and, and_false, ite_true, ite_false, Bool.true_eq_false, Bool.false_eq_true, Nat.reduceLeDiff, Nat.reduceAdd, small_line, small_lt, upd_ne, ne_eq, not_false_eq_true, Nat.zero_le, Prod.mk.injEq, upd_same, upd_upd, S_tl, S_len, S_app, S_one, S_inj,
  lk_breaks, lk_hard, lk_soft, lk_bend, lk_note, lk_rules, lk_state, lk_bent, lk_word, lk_begun, lk_opened, lk_place, pt_state, pt_bent, pt_word, pt_wordS, pt_wordN, pt_begun, pt_opened, pt_place, pt_place1, len_mf, litv_empty, litv_note, litv_nl, mf_inj, rf_inj, lkn_begin, lkn_ended, lkn_plain, lkn_quoted, lkn_step, lkn_fault, lkn_key, lkn_told, lkn_quotes, lkn_special, pt_open1, not_true_eq_false, not_false_eq_true])
local macro_rules | `(tactic| walk_at "rdh") => `(tactic| simp only [iEnum, iRng3, tRevL, rSlS, rSlL, gSub, rSetL, wipe, List.map_cons, List.map_nil, rAll, rAny, rIsi, tM1, tM0, iZipLT, iZip, iRng2, tLenSetS, rListStr, rMulS, rRep, rCntB, tRevS, rNeD, rEqD, tSeq, tNext, tAsg, tRet, tRetN, tDrop, tIfS, sFld, sFldAug, tVar, tC, tOp, tUn, tTest, tB, tAnd, tOr, tNot, tAndV, tOrV, tNotV, tIf, tTup, tLst, tCons, tNil, tCB, tCall, tMeth, tMake, tFld, rI, rI0, rU, rEq, rNe, rCat, gName, gTup, gCons, gNil, tPar, tPar3, tBM, tBM0, rAppend, rExtend, rPopAt, rIxL, rIxT, rIxS, tSl, rSlS, rSlL, tPart, tNoPart, iStr, iTup, iList, iRng1, tAug, ipI, L2.rAdd, L2.rSub, L2.rAddS, tChain, rIsB, rNotB, scal_ss, scal_ii, scal_bb, scal_nn, scal_in, scal_ni, tYes,
  cx_K, cx_N, List.getElem?_cons_zero, List.getElem?_cons_succ, List.set_cons_zero, List.set_cons_succ, List.nil_append, List.cons_append, List.append_nil, List.length_cons, List.length_nil, Nat.zero_add,
  Option.some.injEq, V.ref.injEq, V.int.injEq, V.str.injEq, V.bl.injEq, HO.ins.injEq, HO.lst.injEq, HO.tup.injEq, List.cons.injEq, exists_eq_left, exists_eq_left', exists_eq_right, exists_eq_right', and_true, true_and, exists_and_left, exists_and_right, and_assoc, decide_eq_true_eq, Bool.not_eq_true', decide_eq_false_iff_not, reduceCtorEq, exists_const, forall_const, if_true, if_false, false_and, and_false, ite_true, ite_false, Bool.true_eq_false, Bool.false_eq_true, Nat.reduceLeDiff, Nat.reduceAdd, small_line, small_lt, upd_ne, ne_eq, not_false_eq_true, Nat.zero_le, Prod.mk.injEq, upd_same, upd_upd, S_tl, S_len, S_app, S_one, S_inj,
  lk_breaks, lk_hard, lk_soft, lk_bend, lk_note, lk_rules, lk_state, lk_bent, lk_word, lk_begun, lk_opened, lk_place, pt_state, pt_bent, pt_word, pt_wordS, pt_wordN, pt_begun, pt_opened, pt_place, pt_place1, len_mf, litv_empty, litv_note, litv_nl, mf_inj, rf_inj, lkn_begin, lkn_ended, lkn_plain, lkn_quoted, lkn_step, lkn_fault, lkn_key, lkn_told, lkn_quotes, lkn_special, pt_open1, not_true_eq_false, not_false_eq_true, *])
local macro_rules | `(tactic| walk_at "pl") => `(tactic| (first | decide | (refine Nat.lt_of_le_of_lt (length_putF _ _ _) ?_; repeat (first | decide | refine pl2 ?_))))
local macro_rules | `(tactic| walk_at "al") => `(tactic| (intro p hp; generalize hH : upd _ p _ = H1; obtain ⟨S, e⟩ := gen_new hH hp; clear hH))
/-! ### heights that show -/
def RowI (H : Hp) (v : V) (row : List Int) : Prop := ∃ l, v = .ref l ∧ H l = some (.lst (row.map .int))
abbrev RowsI (H : Hp) (xs : List V) (rows : List (List Int)) : Prop := Paired (RowI H) xs rows
def HtI (H : Hp) (v : V) (rows : List (List Int)) : Prop := ∃ l xs, v = .ref l ∧ H l = some (.lst xs) ∧ RowsI H xs rows
theorem RowsI.same {H H' : Hp} {xs : List V} {rows : List (List Int)} (h : RowsI H xs rows) (s : Same H H') : RowsI H' xs rows := Paired.mapP h fun _ _ ⟨l, e, h⟩ => ⟨l, e, s _ _ h⟩
theorem HtI.same {H H' : Hp} {v : V} {rows : List (List Int)} (h : HtI H v rows) (s : Same H H') : HtI H' v rows := by
  obtain ⟨l, xs, e, h1, h2⟩ := h
  exact ⟨l, xs, e, s _ _ h1, h2.same s⟩
abbrev gi (l : List Int) (k : Nat) : Int := l.getD k 0
def rowA (rows : List (List Int)) (i : Nat) : List Int := rows.getD i []
/-- quotes begun and ended -/
def rowOk (row : List Int) : Bool := !((row.drop 1).any fun n => decide (gi row 0 > n + 1) || decide (n > gi row 0 + 1))
/-- signs taken -/
def stOk (r : RS) (row0 row : List Int) (c k : Nat) : Bool := match costT r (r.sts.getD k none) c with
  | none => true
  | some n => decide (gi row k ≤ gi row0 k + (n : Nat))
def stepOk (r : RS) (row0 row : List Int) (c : Nat) : Bool := (List.range r.sts.length).all (stOk r row0 row c)
def rowRightT (r : RS) (w : Tx) (rows : List (List Int)) (at_ : Nat) : Bool := rowOk (rowA rows at_) && (decide (at_ = 0) || stepOk r (rowA rows (at_ - 1)) (rowA rows at_) (w.getD (at_ - 1) 0))
structure Shp (r : RS) (w : Tx) (rows : List (List Int)) : Prop where
  n : rows.length = w.length + 1
  l : ∀ row ∈ rows, row.length = r.sts.length
theorem gi_mem {l : List Int} {k : Nat} (h : k < l.length) : l[k]? = some (gi l k) := by
  rw [gi, List.getD_eq_getElem?_getD, List.getElem?_eq_getElem h]
  rfl
section
variable {P : Program} {w : World} {K : PySem.W.Frag} {mg : Str → Option Value} {base : Heap} {a : Ad}
def sp_row_right (a : Ad) : Sp := fun vs H Q _ => ∃ p dr r wd lr xs rows at_, vs = [.ref p, .str (S wd), .ref lr, .int (at_ : Nat)] ∧ H p = some (.ins a.c_Rules dr (RS.f r)) ∧ r.Ok ∧ H lr = some (.lst xs) ∧ RowsI H xs rows ∧ Shp r wd rows ∧ at_ ≤ wd.length ∧ wd.length ≤ 100 ∧
  ∀ H', Same H H' → Q (.bl (rowRightT r wd rows at_)) H'
theorem ok_row_right (T : Txt K mg a) : FnOk P w K mg base CX0 4 a.f_row_right a.d_row_right P_row_right (sp_row_right a) := by
  refine T.F_row_right.ok sc_row_right (fun vs H Q E h => ?_) (fun cdv A outer s H vs Q E hr h => ?_)
  · obtain ⟨p, dr, r, wd, lr, xs, rows, at_, rfl, _⟩ := h
    rfl
  · obtain ⟨p, dr, r, wd, lr, xs, rows, at_, rfl, hR, ok, hl, hrows, hs, hat, hw, k⟩ := h
    have G_states_of := ok_states_of (P := P) (w := w) (base := base) T
    have B_states_of := bi_states_of T
    have G_cost_of := ok_cost_of (P := P) (w := w) (base := base) T
    have B_cost_of := bi_cost_of T
    refine ⟨_,
(pss_cons (ps_asg (pe_tup (pa_cons (pe_ix ix_list (pv 2) (pv 3) (fun _ _ => rfl)) (pa_cons (pe_call G_states_of (hr.mono (by decide)) rfl T.f_states_of.g T.f_states_of.k B_states_of .nil pass0 (pa_cons (pv 0) pa_nil)) pa_nil))) (pg_tup rfl (pgs_cons (pg_name (i := 4) sc_row_right.nd rfl (by first | exact Or.inl rfl | exact Or.inr rfl)) (pgs_cons (pg_name (i := 5) sc_row_right.nd rfl (by first | exact Or.inl rfl | exact Or.inr rfl)) pgs_nil))))
    (pss_cons (ps_if (pt_val (pe_callB (cr_any rfl) (by rfl) T.b_any (by decide +kernel) (pa_cons (pe_lc (own := [("number", 9)]) (g := gName 9) (tt := tYes) rfl sc_row_right.nd (pi_list (pe_slice sl_list (pv 4) (po_some pe_int) po_none)) (blkOk_by (own := [("number", 9)]) (N := N_row_right) (sc := defScope st_row_right) (by decide +kernel)) (fun _ _ _ _ _ => (pg_name (i := 9) sc_row_right.nd rfl (by first | exact Or.inl rfl | exact Or.inr rfl))) (fun _ _ _ _ _ => pts_nil) (fun _ _ _ _ _ => (pe_or (pe_cmpR op_gt (pe_ix (ix_listK (K := K) rfl) (pv 4) pe_int (fun _ _ => rfl)) (pe_op op_add (pv 9) pe_int) (nomark _)) (pe_one (pe_cmpR op_gt (pv 9) (pe_op op_add (pe_ix (ix_listK (K := K) rfl) (pv 4) pe_int (fun _ _ => rfl)) pe_int) (nomark _)))))) pa_nil))) (pss_one (ps_ret pe_bl)) pss_nil)
    (pss_cons (ps_for PassesOwn.never rfl (pi_enum (by rfl) T.b_enumerate (pa_cons (pv 5) pa_nil)) (pg_tup rfl (pgs_cons (pg_name (i := 6) sc_row_right.nd rfl (by first | exact Or.inl rfl | exact Or.inr rfl)) (pgs_cons (pg_name (i := 7) sc_row_right.nd rfl (by first | exact Or.inl rfl | exact Or.inr rfl)) pgs_nil)))
    (pss_cons (ps_set (i := 8) sc_row_right.nd rfl (by first | exact Or.inl rfl | exact Or.inr rfl) (pe_ifExp (pt_cmpR op_gt (pv 3) pe_int (nomark _)) (pe_call G_cost_of (hr.mono (by decide)) rfl T.f_cost_of.g T.f_cost_of.k B_cost_of .nil pass0 (pa_cons (pv 0) (pa_cons (pv 7) (pa_cons (pe_ix ix_str (pv 1) (pe_op op_sub (pv 3) pe_int) (fun _ _ => rfl)) pa_nil)))) pe_non))
    (pss_one (ps_if (PW.pt (pw_and (pt_cmpR op_notN (pv 8) pe_non (nomark _)) (pw_and1 (pt_cmpR op_gt (pe_ix ix_list (pv 4) (pv 6) (fun _ _ => rfl)) (pe_op op_add (pe_ix ix_list (pe_ix ix_list (pv 2) (pe_op op_sub (pv 3) pe_int) (fun _ _ => rfl)) (pv 6) (fun _ _ => rfl)) (pv 8)) (nomark _))))) (pss_one (ps_ret pe_bl)) pss_nil))))
    (pss_one (ps_ret pe_bl)))))
      , ?_⟩
    rw [show start N_row_right [V.ref p, V.str (S wd), V.ref lr, V.int (at_ : Nat)] = [some (.ref p), some (.str (S wd)), some (.ref lr), some (.int (at_ : Nat)), none, none, none, none, none, none] from rfl]
    walk_at "rd"
    have hql := r.quotes_len ok
    have hsl : r.sts.length = r.quotes.length + 1 := by simp [RS.sts]
    have gr : ∀ i, i ≤ wd.length → ∃ l, atI xs (i : Nat) = some (.ref l) ∧ H l = some (.lst ((rowA rows i).map .int)) ∧ (rowA rows i).length = r.sts.length := fun i hi => by
      have hn := hs.n
      have e : rows[i]? = some (rowA rows i) := by
        rw [rowA, List.getD_eq_getElem?_getD, List.getElem?_eq_getElem (by omega)]
        rfl
      obtain ⟨x, h1, l, rfl, h2⟩ := Paired.right hrows e
      exact ⟨l, atI_nat h1, h2, hs.l _ (List.mem_of_getElem? e)⟩
    have gn : ∀ (row : List Int) k, row.length = r.sts.length → k < r.sts.length → atI (row.map V.int) (k : Nat) = some (.int (gi row k)) := fun row k h1 h2 => by
      refine atI_nat ?_
      rw [List.getElem?_map, gi_mem (by omega)]
      rfl
    obtain ⟨rl, r1, r2, r3⟩ := gr at_ hat
    refine ⟨_, .inl (.inl hl), _, r1, p, dr, r, rfl, hR, ok, fun ls H1 hls s1 e1 => ?_⟩
    walk_at "al"
    rename_i p1 hp1 H2 S2 e2
    refine ⟨_, .inl (.inl e2), rfl, _, _, rfl, _, _, rfl, rfl, ?_⟩
    have s12 := s1.trans S2
    generalize hrow : rowA rows at_ = row at *
    have hr2 := s12 _ _ r2
    obtain ⟨x0, rest, rfl⟩ : ∃ x rest, row = x :: rest := by
      cases row with
      | nil => rw [hsl] at r3; cases r3
      | cons x y => exact ⟨x, y, rfl⟩
    have lrest : rest.length ≤ 4 := by simp only [List.length_cons] at r3; omega
    refine tlc_all (ι := Addr × Hp) (C := fun z => z.2 z.1 = some (.lst (rest.map V.int)) ∧ Same H2 z.2) (J := fun z => Itl K z.1) (H1 := fun z => z.2) (fun R hR => ?_) fun z hz D hD => ?_
    · walk_at "rdh"
      refine ⟨_, .inl (.inl hr2), ?_⟩
      have cutr : cutV ((x0 :: rest).map V.int) (some 1) none = rest.map V.int := (cut_from _ 1).trans rfl
      rw [cutr]
      walk_at "al"
      rename_i p2 hp2 H3 S3 e3'
      exact ⟨⟨_, .inl (.inl e3')⟩, hR (p2, H3) ⟨e3', S3⟩⟩
    obtain ⟨p2, H3⟩ := z
    obtain ⟨z1, z2⟩ := hz
    dsimp only at z1 z2 hD
    have s13 := s12.trans z2
    refine lc_map rest (fun n => .bl (decide (x0 > n + 1) || decide (n > x0 + 1))) (G := fun H => SqL K H p2 (rest.map V.int)) (List.length_map (as := rest) V.int ▸ walk_list) (by omega) hD (fun H s => .inl (.inl (s _ _ z1))) ?_ ?_
    · rintro R R' i n x H4 H4' hi s4 ⟨rfl, hx⟩ hk
      rw [List.getElem?_map, hi] at hx
      cases hx
      have hr4 := (s13.trans s4) _ _ r2
      walk_at "rdh"
      have hk := hk H4' (Same.refl _)
      refine ⟨_, .inl (.inl hr4), .int x0, atI_nat (j := 0) rfl, x0, rfl, ite2 (fun z => ?_) (fun z => ⟨_, .inl (.inl hr4), .int x0, atI_nat (j := 0) rfl, x0, rfl, ?_⟩)⟩
      · rw [decide_eq_true (show x0 > n + 1 from z)] at hk
        exact hk
      · rw [decide_eq_false (show ¬ x0 > n + 1 from z)] at hk
        exact hk
    intro H4 s4 e4
    have s14 := s13.trans s4
    refine ⟨D, rfl, rest.map fun n => decide (x0 > n + 1) || decide (n > x0 + 1), .inl (.inl (by rw [e4, List.map_map]; rfl)), ?_⟩
    have eok : rowOk (x0 :: rest) = !((rest.map fun n => decide (x0 > n + 1) || decide (n > x0 + 1)).any id) := by
      rw [List.any_map]; rfl
    refine ite2 (fun z => ?_) (fun z => ?_)
    · have k := k H4 s14
      rw [rowRightT, hrow, eok, z] at k
      exact k
    have hok : rowOk (x0 :: rest) = true := by
      rw [eok]
      cases h : (rest.map fun n => decide (x0 > n + 1) || decide (n > x0 + 1)).any id with
      | true => exact absurd h z
      | false => rfl
    have es4 := s4 _ _ (z2 _ _ (S2 _ _ e1))
    refine tfor_it (J := Ite K ls) (H1 := H4) (n := (r.sts.map fun s => V.str (S (sT s))).length) (G := fun H => SqL K H ls (r.sts.map fun s => .str (S (sT s)))) (fun R hR => ?_) walk_enum (fun i σ H' => (∃ v6 v7 v8, σ = [some (.ref p), some (.str (S wd)), some (.ref lr), some (.int (at_ : Nat)), some (.ref rl), some (.ref ls), v6, v7, v8, none]) ∧ Same H4 H' ∧ (at_ ≠ 0 → ∀ j < i, stOk r (rowA rows (at_ - 1)) (x0 :: rest) (wd.getD (at_ - 1) 0) j = true)) ⟨⟨_, _, _, rfl⟩, Same.refl _, fun _ j hj => absurd hj (Nat.not_lt_zero j)⟩ (fun _ _ _ _ h => .inl (.inl (h.2.1 _ _ es4))) ?_ ?_
    · walk_at "rd"
      exact ⟨⟨_, .inl (.inl es4)⟩, hR⟩
    · rintro i x σ H5 H5' hi ⟨⟨v6, v7, v8, rfl⟩, s5, hj⟩ ⟨T0, x1, x2, rfl, hT0, rfl, hx1, hx2⟩
      dsimp only at hx1 hx2
      rw [List.length_map] at hi
      rw [List.getElem?_map, List.getElem?_eq_getElem hi] at hx2
      cases hx1
      cases hx2
      have s5' := s5.trans (same_new (o := HO.tup [V.int (i : Nat), V.str (S (sT r.sts[i]))]) hT0)
      have e0 : upd H5 T0 (HO.tup [V.int (i : Nat), V.str (S (sT r.sts[i]))]) T0 = some (HO.tup [V.int (i : Nat), V.str (S (sT r.sts[i]))]) := upd_same
      walk_at "rd"
      generalize upd H5 T0 (HO.tup [V.int (i : Nat), V.str (S (sT r.sts[i]))]) = H6 at *
      refine ⟨_, .inl (.inl e0), rfl, _, _, rfl, _, _, rfl, rfl, ?_⟩
      have lk : ∀ j, j < i + 1 → j < i ∨ j = i := fun j h => by omega
      by_cases h0 : at_ = 0
      · refine ite2 (fun z => absurd z (by omega)) (fun _ => ?_)
        exact ⟨⟨_, rfl⟩, s5', fun z => absurd h0 z⟩
      · refine ite2 (fun _ => ?_) (fun z => absurd (show (0 : Int) < at_ by omega) z)
        have ew : atI wd ((at_ : Int) - 1) = some (wd.getD (at_ - 1) 0) := by
          rw [show (at_ : Int) - 1 = ((at_ - 1 : Nat) : Int) by omega]
          refine atI_nat ?_
          rw [List.getD_eq_getElem?_getD, List.getElem?_eq_getElem (by omega)]
          rfl
        obtain ⟨rm, m1, m2, m3⟩ := gr (at_ - 1) (by omega)
        have ea : (at_ : Int) - 1 = ((at_ - 1 : Nat) : Int) := by omega
        have S06 := s14.trans s5'
        have est : r.sts.getD i none = r.sts[i] := by rw [List.getD_eq_getElem?_getD, List.getElem?_eq_getElem hi]; rfl
        refine ⟨line_le (by omega), _, ew, p, dr, r, _, _, rfl, S06 _ _ hR, ok, fun H7 s7 => ?_⟩
        have S07 := S06.trans s7
        have so : stOk r (rowA rows (at_ - 1)) (x0 :: rest) (wd.getD (at_ - 1) 0) i = (match costT r r.sts[i] (wd.getD (at_ - 1) 0) with | none => true | some n => decide (gi (x0 :: rest) i ≤ gi (rowA rows (at_ - 1)) i + (n : Nat))) := by rw [stOk, est]
        have go : stOk r (rowA rows (at_ - 1)) (x0 :: rest) (wd.getD (at_ - 1) 0) i = true → (∃ v6 v7 v8, [some (V.ref p), some (V.str (S wd)), some (V.ref lr), some (V.int (at_ : Nat)), some (V.ref rl), some (V.ref ls), some (V.int (i : Nat)), some (V.str (S (sT r.sts[i]))), some (oI (costT r r.sts[i] (wd.getD (at_ - 1) 0))), none] = [some (.ref p), some (.str (S wd)), some (.ref lr), some (.int (at_ : Nat)), some (.ref rl), some (.ref ls), v6, v7, v8, none]) ∧ Same H4 H7 ∧ (at_ ≠ 0 → ∀ j < i + 1, stOk r (rowA rows (at_ - 1)) (x0 :: rest) (wd.getD (at_ - 1) 0) j = true) := fun h => by
          refine ⟨⟨_, _, _, rfl⟩, s5'.trans s7, fun z j hj2 => ?_⟩
          rcases lk j hj2 with y | y
          · exact hj z j y
          · rw [y]; exact h
        cases hc : costT r r.sts[i] (wd.getD (at_ - 1) 0) with
        | none =>
          rw [hc] at so go
          dsimp only [oI] at so go ⊢
          exact ite2 (fun z => absurd rfl z) (fun _ => ⟨⟨_, rfl⟩, (go so).2⟩)
        | some n =>
          rw [hc] at so go
          dsimp only [oI] at so go ⊢
          have row7 := S07 _ _ r2
          have rm7 := S07 _ _ m2
          have lr7 := S07 _ _ hl
          rw [ea]
          refine ite2 (fun _ => ⟨_, i, rfl, .inl (.inl row7), _, gn _ i r3 hi, _, .inl (.inl lr7), _, m1, rm, rfl, _, i, rfl, .inl (.inl rm7), _, gn _ i m3 hi, _, rfl, n, rfl, _, rfl, ?_⟩) (fun z => absurd (fun y => by cases y) z)
          refine ite2 (fun z => ?_) (fun z => ?_)
          · rw [decide_eq_false (by omega)] at so
            have k := k H7 S07
            have e : rowRightT r wd rows at_ = false := by
              rw [rowRightT, hrow, hok, Bool.true_and, decide_eq_false h0, Bool.false_or, stepOk]
              refine Bool.eq_false_iff.mpr fun y => ?_
              have := List.all_eq_true.mp y i (List.mem_range.mpr hi)
              rw [so] at this
              cases this
            rw [e] at k
            exact k
          · rw [decide_eq_true (by omega)] at so
            exact ⟨⟨_, rfl⟩, (go so).2⟩
    · rintro σ H5 ⟨⟨v6, v7, v8, rfl⟩, s5, hj⟩
      walk_at "rd"
      have k := k H5 (s14.trans s5)
      have e : rowRightT r wd rows at_ = true := by
        rw [rowRightT, hrow, hok, Bool.true_and, Bool.or_eq_true]
        by_cases h0 : at_ = 0
        · exact .inl (decide_eq_true h0)
        · refine .inr (List.all_eq_true.mpr fun j hj2 => hj h0 j ?_)
          rw [List.length_map]
          exact List.mem_range.mp hj2
      rw [e] at k
      exact k
end
end Qw

set_option Elab.async false
set_option linter.all false
set_option maxRecDepth 100000
set_option maxHeartbeats 4000000
namespace Qw
open PySem L2
local macro_rules | `(tactic| walk_at "rd") => `(tactic| simp only [iEnum, iRng3, tRevL, rSlS, rSlL, gSub, rSetL, wipe, List.map_cons, List.map_nil, rAll, rAny, rIsi, tM1, tM0, iZipLT, iZip, iRng2, tLenSetS, rListStr, rMulS, rRep, rCntB, tRevS, rNeD, rEqD, tSeq, tNext, tAsg, tRet, tRetN, tDrop, tIfS, sFld, sFldAug, tVar, tC, tOp, tUn, tTest, tB, tAnd, tOr, tNot, tAndV, tOrV, tNotV, tIf, tTup, tLst, tCons, tNil, tCB, tCall, tMeth, tMake, tFld, rI, rI0, rU, rEq, rNe, rCat, gName, gTup, gCons, gNil, tPar, tPar3, tBM, tBM0, rAppend, rExtend, rPopAt, rIxL, rIxT, rIxS, tSl, rSlS, rSlL, tPart, tNoPart, iStr, iTup, iList, iRng1, tAug, ipI, L2.rAdd, L2.rSub, L2.rAddS, tChain, rIsB, rNotB, scal_ss, scal_ii, scal_bb, scal_nn, scal_in, scal_ni, tYes,
  cx_K, cx_N, List.getElem?_cons_zero, List.getElem?_cons_succ, List.set_cons_zero, List.set_cons_succ, List.nil_append, List.cons_append, List.append_nil, List.length_cons, List.length_nil, Nat.zero_add,
  Option.some.injEq, V.ref.injEq, V.int.injEq, V.str.injEq, V.bl.injEq, HO.ins.injEq, HO.lst.injEq, HO.tup.injEq, List.cons.injEq, exists_eq_left, exists_eq_left', exists_eq_right, exists_eq_right', and_true, true_and, exists_and_left, exists_and_right, and_assoc, decide_eq_true_eq, Bool.not_eq_true', decide_eq_false_iff_not, reduceCtorEq, exists_const, forall_const, if_true, if_false, false_and, and_false, ite_true, ite_false, Bool.true_eq_false, Bool.false_eq_true, Nat.reduceLeDiff, Nat.reduceAdd, small_line, small_lt, upd_ne, ne_eq, not_false_eq_true, Nat.zero_le, Prod.mk.injEq, upd_same, upd_upd, S_tl, S_len, S_app, S_one, S_inj,
  lk_breaks, lk_hard, lk_soft, lk_bend, lk_note, lk_rules, lk_state, lk_bent, lk_word, lk_begun, lk_opened, lk_place, pt_state, pt_bent, pt_word, pt_wordS, pt_wordN, pt_begun, pt_opened, pt_place, pt_place1, len_mf, litv_empty, litv_note, litv_nl, mf_inj, rf_inj, lkn_begin, lkn_ended, lkn_plain, lkn_quoted, lkn_step, lkn_fault, lkn_key, lkn_told, lkn_quotes, lkn_special, pt_open1, not_true_eq_false, not_false_eq_true])
local macro_rules | `(tactic| walk_at "rdh") => `(tactic| simp only [iEnum, iRng3, tRevL, rSlS, rSlL, gSub, rSetL, wipe, List.map_cons, List.map_nil, rAll, rAny, rIsi, tM1, tM0, iZipLT, iZip, iRng2, tLenSetS, rListStr, rMulS, rRep, rCntB, tRevS, rNeD, rEqD, tSeq, tNext, tAsg, tRet, tRetN, tDrop, tIfS, sFld, sFldAug, tVar, tC, tOp, tUn, tTest, tB, tAnd, tOr, tNot, tAndV, tOrV, tNotV, tIf, tTup, tLst, tCons, tNil, tCB, tCall, tMeth, tMake, tFld, rI, rI0, rU, rEq, rNe, rCat, gName, gTup, gCons, gNil, tPar, tPar3, tBM, tBM0, rAppend, rExtend, rPopAt, rIxL, rIxT, rIxS, tSl, rSlS, rSlL, tPart, tNoPart, iStr, iTup, iList, iRng1, tAug, ipI, L2.rAdd, L2.rSub, L2.rAddS, tChain, rIsB, rNotB, scal_ss, scal_ii, scal_bb, scal_nn, scal_in, scal_ni, tYes,
  cx_K, cx_N, List.getElem?_cons_zero, List.getElem?_cons_succ, List.set_cons_zero, List.set_cons_succ, List.nil_append, List.cons_append, List.append_nil, List.length_cons, List.length_nil, Nat.zero_add,
  Option.some.injEq, V.ref.injEq, V.int.injEq, V.str.injEq, V.bl.injEq, HO.ins.injEq, HO.lst.injEq, HO.tup.injEq, List.cons.injEq, exists_eq_left, exists_eq_left', exists_eq_right, exists_eq_right', and_true, true_and, exists_and_left, exists_and_right, and_assoc, decide_eq_true_eq, Bool.not_eq_true', decide_eq_false_iff_not, reduceCtorEq, exists_const, forall_const, if_true, if_false, false_and, and_false, ite_true, ite_false, Bool.true_eq_false, Bool.false_eq_true, Nat.reduceLeDiff, Nat.reduceAdd, small_line, small_lt, upd_ne, ne_eq, not_false_eq_true, Nat.zero_le, Prod.mk.injEq, upd_same, upd_upd, S_tl, S_len, S_app, S_one, S_inj,
  lk_breaks, lk_hard, lk_soft, lk_bend, lk_note, lk_rules, lk_state, lk_bent, lk_word, lk_begun, lk_opened, lk_place, pt_state, pt_bent, pt_word, pt_wordS, pt_wordN, pt_begun, pt_opened, pt_place, pt_place1, len_mf, litv_empty, litv_note, litv_nl, mf_inj, rf_inj, lkn_begin, lkn_ended, lkn_plain, lkn_quoted, lkn_step, lkn_fault, lkn_key, lkn_told, lkn_quotes, lkn_special, pt_open1, not_true_eq_false, not_false_eq_true, *])
local macro_rules | `(tactic| walk_at "pl") => `(tactic| (first | decide | (refine Nat.lt_of_le_of_lt (length_putF _ _ _) ?_; repeat (first | decide | refine pl2 ?_))))
local macro_rules | `(tactic| walk_at "al") => `(tactic| (intro p hp; generalize hH : upd _ p _ = H1; obtain ⟨S, e⟩ := gen_new hH hp; clear hH))
theorem call_len_seqK {X : Cx} {K : PySem.W.Frag} (h : X.K = K) : CallR X (.builtin "len") (fun xs H Q => ∃ p ys, xs = [V.ref p] ∧ (SqL K H p ys ∨ SqT K H p ys) ∧ Q (V.int (ys.length : Nat)) H) := by
  subst h
  exact call_len_seq
local macro_rules | `(tactic| walk_at "gt") => `(tactic| simp only [gTup, gCons, gNil, gName, List.set_cons_zero, List.set_cons_succ, Option.some.injEq, V.ref.injEq, V.int.injEq, V.str.injEq, HO.tup.injEq, List.cons.injEq, exists_eq_left, exists_eq_left', exists_eq_right, exists_eq_right', and_true, true_and, exists_and_left, exists_and_right, and_assoc, reduceCtorEq, exists_const])
/-! ### whether a writing shows what it tells -/
def dueT (r : RS) (w : Tx) : List Nat := if w = [] then [] else List.replicate (w.length + 1) r.sts.length
def shapedT (r : RS) (hs : List (List (List Int))) (ws : List Tx) : Bool := decide (hs.length = ws.length) && (hs.zip ws).all fun z => decide (z.1.map List.length = dueT r z.2)
def wordOk (r : RS) (z : List (List Int) × Tx) : Bool := if z.2 = [] then true else decide (gi (rowA z.1 0) 0 = 0) && (List.range z.1.length).all (rowRightT r z.2 z.1)
def wordTot (z : List (List Int) × Tx) : Int := if z.2 = [] then 2 else gi (rowA z.1 z.2.length) 0
def totI (zs : List (List (List Int) × Tx)) : Int := (zs.map wordTot).sum
def showsT (r : RS) (t : Tx) (hs : List (List (List Int))) (ws : List Tx) (rp : Addr) : Bool := match readAll r t rp with
  | .error _ => false
  | .ok ds => decide (ds.map (·.1) = ws) && (shapedT r hs ws && ((hs.zip ws).all (wordOk r) && decide (((ws.length - 1 : Nat) : Int) + totI (hs.zip ws) = t.length)))
/-- a list of counts -/
def isD (l : List Nat) : PyData := .list (l.map fun n => .int (n : Nat))
theorem isD_inj {x y : List Nat} : isD x = isD y ↔ x = y := by
  simp only [isD, PyData.list.injEq]
  exact map_inj fun {a b} => by rw [PyData.int.injEq]; omega
theorem isD_tame {l : List Nat} (h : ∀ n ∈ l, n ≤ 100000) : tame (isD l) = true := by
  simp only [isD, tame, tameAll_iff, List.mem_map]
  rintro _ ⟨n, hn, rfl⟩
  have := h n hn
  simp only [tame, decide_eq_true_eq]
  omega
theorem isD_depth (l : List Nat) : (isD l).depth ≤ 32 := by
  simp only [isD, PyData.depth]
  refine Nat.le_trans (Nat.succ_le_succ (depthAll_le (n := 0) fun y hy => ?_)) (by decide)
  obtain ⟨z, _, rfl⟩ := List.mem_map.mp hy
  simp [PyData.depth]
theorem dp_is {K : PySem.W.Frag} {H : Hp} {p : Addr} {l : List Nat} (h : H p = some (.lst (l.map fun n => V.int (n : Nat)))) : Dp K H (.ref p) (isD l) := .lst (.inl (.inl h)) (dpAll_map l fun _ _ => .int _)
/-- the answer's object -/
def ShoF (t : Tx) (lh : Addr) : List (Str × V) := [("text", .str (S t)), ("heights", .ref lh)]
theorem lk_ShoT (t : Tx) (lh : Addr) : List.lookup ("text" : Str) (ShoF t lh) = some (.str (S t)) := by kernel_rfl
theorem lk_ShoH (t : Tx) (lh : Addr) : List.lookup ("heights" : Str) (ShoF t lh) = some (.ref lh) := by kernel_rfl
theorem lkn_ShoS (t : Tx) (lh : Addr) : List.lookup ("shaped" : Str) (ShoF t lh) = none := by kernel_rfl
theorem lkn_ShoW (t : Tx) (lh : Addr) : List.lookup ("shows" : Str) (ShoF t lh) = none := by kernel_rfl
structure Sho (a : Ad) (H : Hp) (q dx lh : Addr) (t : Tx) (xs : List V) (hs : List (List (List Int))) : Prop where
  h1 : H q = some (.ins a.c_Shortest dx (ShoF t lh))
  h2 : H lh = some (.lst xs)
  h3 : Paired (HtI H) xs hs
theorem Sho.same {a : Ad} {H H' : Hp} {q dx lh : Addr} {t : Tx} {xs : List V} {hs : List (List (List Int))} (h : Sho a H q dx lh t xs hs) (s : Same H H') : Sho a H' q dx lh t xs hs :=
  ⟨s _ _ h.h1, s _ _ h.h2, Paired.mapP h.h3 fun _ _ z => z.same s⟩
/-- bounds of heights -/
structure HsB (hs : List (List (List Int))) : Prop where
  n : hs.length ≤ 100
  m : ∀ rows ∈ hs, rows.length ≤ 100
  l : ∀ rows ∈ hs, ∀ row ∈ rows, row.length ≤ 100
structure WsB (ws : List Tx) : Prop where
  n : ws.length ≤ 100
  m : ∀ w ∈ ws, w.length ≤ 100
  o : ∀ w ∈ ws, ok8 w
theorem atI_neg1 {α : Type} {l : List α} {v : α} {n : Nat} (hl : l.length = n + 1) (h : l[n]? = some v) : atI l (-1) = some v := by
  have e : ixN l.length (-1) = some n := by
    unfold ixN
    rw [if_neg (by omega), hl, if_pos (by omega)]
    exact congrArg some (by omega)
  unfold atI
  rw [e]
  exact h
theorem first0 {r : RS} {w : Tx} {rows : List (List Int)} (h : Shp r w rows) (j : Nat) (hj : j ≤ w.length) : atI ((rowA rows j).map V.int) 0 = some (.int (gi (rowA rows j) 0)) := by
  have hn := h.n
  have e : rows[j]? = some (rowA rows j) := by
    rw [rowA, List.getD_eq_getElem?_getD, List.getElem?_eq_getElem (by omega)]
    rfl
  have l := h.l _ (List.mem_of_getElem? e)
  refine atI_nat (j := 0) ?_
  rw [List.getElem?_map, gi_mem (by rw [l]; simp [RS.sts])]
  rfl
theorem line_le3 {n : Nat} (h : n ≤ 100000) : n ≤ sizeLine := Nat.le_trans h (by decide)
section
variable {P : Program} {w : World} {K : PySem.W.Frag} {mg : Str → Option Value} {base : Heap} {a : Ad}
def sp_shaped (a : Ad) : Sp := fun vs H Q _ => ∃ q dx lh t xs hs rp dr r wl ws, vs = [.ref q, .ref rp, .ref wl] ∧ Sho a H q dx lh t xs hs ∧ HsB hs ∧ H rp = some (.ins a.c_Rules dr (RS.f r)) ∧ r.Ok ∧ H wl = some (.lst (ws.map fun w => .str (S w))) ∧ WsB ws ∧
  ∀ H', Same H H' → Q (.bl (shapedT r hs ws)) H'
theorem ok_Shortest_shaped (T : Txt K mg a) : FnOk P w K mg base CX0 3 a.f_Shortest_shaped a.d_Shortest_shaped P_Shortest_shaped (sp_shaped a) := by
  refine T.F_Shortest_shaped.ok sc_Shortest_shaped (fun vs H Q E h => ?_) (fun cdv A outer s H vs Q E hr h => ?_)
  · obtain ⟨q, dx, lh, t, xs, hs, rp, dr, r, wl, ws, rfl, _⟩ := h
    rfl
  · obtain ⟨q, dx, lh, t, xs, hs, rp, dr, r, wl, ws, rfl, sh, hb, hR, ok, hw, wb, k⟩ := h
    have G_states_of := ok_states_of (P := P) (w := w) (base := base) T
    have B_states_of := bi_states_of T
    refine ⟨_,
(pss_cons (ps_set (i := 3) sc_Shortest_shaped.nd rfl (by first | exact Or.inl rfl | exact Or.inr rfl) (pe_callB call_len_seq (by rfl) T.b_len PySem.boot_len (pa_cons (pe_call G_states_of (hr.mono (by decide)) rfl T.f_states_of.g T.f_states_of.k B_states_of .nil pass0 (pa_cons (pv 1) pa_nil)) pa_nil)))
    (pss_cons (ps_if (pt_cmpR op_ne (pe_callB call_len_seq (by rfl) T.b_len PySem.boot_len (pa_cons (pe_fld (pv 0) rfl) pa_nil)) (pe_callB call_len_seq (by rfl) T.b_len PySem.boot_len (pa_cons (pv 2) pa_nil)) (nomark _)) (pss_one (ps_ret pe_bl)) pss_nil)
    (pss_cons (ps_for PassesOwn.never rfl (pi_zip (by rfl) T.b_zip (pa_cons (pe_fld (pv 0) rfl) (pa_cons (pv 2) pa_nil))) (pg_tup rfl (pgs_cons (pg_name (i := 4) sc_Shortest_shaped.nd rfl (by first | exact Or.inl rfl | exact Or.inr rfl)) (pgs_cons (pg_name (i := 5) sc_Shortest_shaped.nd rfl (by first | exact Or.inl rfl | exact Or.inr rfl)) pgs_nil)))
    (pss_cons (ps_set (i := 6) sc_Shortest_shaped.nd rfl (by first | exact Or.inl rfl | exact Or.inr rfl) (pe_ifExp (pt_cmpR op_ne (pv 5) pe_str (nomark _)) (pe_op op_rep (pe_lst (pa_cons (pv 3) pa_nil)) (pe_op op_add (pe_callB call_len_str (by rfl) T.b_len PySem.boot_len (pa_cons (pv 5) pa_nil)) pe_int)) (pe_lst pa_nil)))
    (pss_one (ps_if (pt_cmpR (op_neD hr.units) (pe_lc (own := [("row", 7)]) (g := gName 7) (tt := tYes) rfl sc_Shortest_shaped.nd (pi_list (pv 4)) (blkOk_by (own := [("row", 7)]) (N := N_Shortest_shaped) (sc := defScope st_Shortest_shaped) (by decide +kernel)) (fun _ _ _ _ _ => (pg_name (i := 7) sc_Shortest_shaped.nd rfl (by first | exact Or.inl rfl | exact Or.inr rfl))) (fun _ _ _ _ _ => pts_nil) (fun _ _ _ _ _ => (pe_callB (call_len_seqK (K := K) rfl) (by rfl) T.b_len PySem.boot_len (pa_cons (pv 7) pa_nil)))) (pv 6) (nomark _)) (pss_one (ps_ret pe_bl)) pss_nil))))
    (pss_one (ps_ret pe_bl)))))
      , ?_⟩
    rw [show start N_Shortest_shaped [V.ref q, V.ref rp, V.ref wl] = [some (.ref q), some (.ref rp), some (.ref wl), none, none, none, none, none] from rfl]
    have cS := T.c_Shortest.cl
    have nH := T.n_Shortest_heights
    walk_at "rd"
    refine ⟨rp, dr, r, rfl, hR, ok, fun ls H1 hls s1 e1 => ?_⟩
    have sh1 := sh.same s1
    have h1 := sh1.h1
    walk_at "rdh"
    have lx := sh.h3.length
    have hw1 := s1 _ _ hw
    have hR1 := s1 _ _ hR
    have hbn := hb.n
    have wbn := wb.n
    have hql := r.quotes_len ok
    have hsl : r.sts.length = r.quotes.length + 1 := by simp [RS.sts]
    refine ⟨_, .inl (.inl (.inl e1)), _, lk_ShoH _ _, _, rfl, _, .inl (.inl (.inl sh1.h2)), _, .inl (.inl (.inl hw1)), ?_⟩
    rw [List.length_map, List.length_map]
    refine ite2 (fun z => ?_) (fun z => ?_)
    · have k := k H1 s1
      rw [shapedT, decide_eq_false (by omega)] at k
      exact k
    have lhw : hs.length = ws.length := by omega
    have lz : (hs.zip ws).length = ws.length := by rw [List.length_zip, lhw, Nat.min_self]
    refine tfor_it (J := Itz K lh wl) (H1 := H1) (n := ws.length) (G := fun H => SqL K H lh xs ∧ SqL K H wl (ws.map fun w => .str (S w))) (fun R hR => ?_) (walk_zip (by rw [List.length_map, lx, lhw, Nat.min_self])) (fun i σ H' => (∃ v4 v5 v6, σ = [some (.ref q), some (.ref rp), some (.ref wl), some (.int (r.sts.length : Nat)), v4, v5, v6, none]) ∧ Same H1 H' ∧ ((hs.zip ws).take i).all (fun z => decide (z.1.map List.length = dueT r z.2)) = true) ⟨⟨_, _, _, rfl⟩, Same.refl _, by rw [List.take_zero]; rfl⟩ (fun _ _ _ _ h => ⟨.inl (.inl (h.2.1 _ _ sh1.h2)), .inl (.inl (h.2.1 _ _ hw1))⟩) ?_ ?_
    · have h2 := sh1.h2
      walk_at "rdh"
      exact ⟨_, lk_ShoH _ _, _, rfl, ⟨_, .inl (.inl h2)⟩, ⟨_, .inl (.inl hw1)⟩, hR⟩
    · rintro i x σ H2 H2' hi ⟨⟨v4, v5, v6, rfl⟩, s2, hall⟩ ⟨T0, x1, x2, rfl, hT0, rfl, hx1, hx2⟩
      dsimp only at hx1 hx2
      have hhi : hs[i]? = some hs[i] := List.getElem?_eq_getElem (by omega)
      have hwi : ws[i]? = some ws[i] := List.getElem?_eq_getElem hi
      rw [List.getElem?_map, hwi] at hx2
      cases hx2
      obtain ⟨lr, zs, rfl, r1, r2⟩ := Paired.at' sh1.h3 hhi hx1
      have hzi : (hs.zip ws)[i]? = some (hs[i], ws[i]) := List.getElem?_zip_eq_some.mpr ⟨hhi, hwi⟩
      have hm := hb.m hs[i] (List.getElem_mem _)
      have hl := hb.l hs[i] (List.getElem_mem _)
      have wm := wb.m ws[i] (List.getElem_mem _)
      generalize hs[i] = rows at *
      generalize ws[i] = wd at *
      have s2' := s2.trans (same_new (o := HO.tup [V.ref lr, V.str (S wd)]) hT0)
      have e0 : upd H2 T0 (HO.tup [V.ref lr, V.str (S wd)]) T0 = some (HO.tup [V.ref lr, V.str (S wd)]) := upd_same
      walk_at "gt"
      generalize upd H2 T0 (HO.tup [V.ref lr, V.str (S wd)]) = H3 at *
      refine ⟨_, .inl (.inl e0), rfl, _, _, rfl, _, _, rfl, rfl, ?_⟩
      refine tseq_split (fun σ' H' => ∃ dl, σ' = [some (.ref q), some (.ref rp), some (.ref wl), some (.int (r.sts.length : Nat)), some (.ref lr), some (.str (S wd)), some (.ref dl), none] ∧ Same H3 H' ∧ H' dl = some (.lst ((dueT r wd).map fun n => .int (n : Nat)))) (fun N hN => ?_) ?_
      · walk_at "rd"
        refine ite2 (fun z => ?_) (fun z => ?_)
        · walk_at "al"
          rename_i p4 hp4 H4 S4 e4
          refine ⟨line_le (by omega), by omega, by omega, line_le (by omega), ?_⟩
          walk_at "al"
          rename_i p5 hp5 H5 S5 e5
          refine hN _ _ ⟨p5, rfl, S4.trans S5, ?_⟩
          rw [e5, show ((wd.length : Int) + 1).toNat = wd.length + 1 by omega, dueT, if_neg z]
          refine congrArg (fun l => some (HO.lst l)) ?_
          generalize wd.length + 1 = m
          induction m with
          | zero => rfl
          | succ m ih => rw [List.replicate_succ, List.flatten_cons, ih, List.replicate_succ]; rfl
        · have z : wd = [] := by simpa using z
          walk_at "al"
          rename_i p4 hp4 H4 S4 e4
          refine hN _ _ ⟨p4, rfl, S4, ?_⟩
          rw [e4, dueT, if_pos z]
          rfl
      rintro σ1 H4 ⟨dl, rfl, s4, d4⟩
      walk_at "rd"
      have s24 := s2'.trans s4
      have r1' := s24 _ _ r1
      have r2' := r2.same s24
      refine tlc_map rows (fun row => .int (row.length : Nat)) (J := Itl K lr) (H1 := H4) (G := fun H => SqL K H lr zs) (fun R hR => ?_) (r2'.length ▸ walk_list) (by omega) (fun H s => .inl (.inl (s _ _ r1'))) ?_ ?_
      · walk_at "rd"
        exact ⟨⟨_, .inl (.inl r1')⟩, hR⟩
      · rintro R R' j row x H5 H5' hj s5 ⟨rfl, hx⟩ hk
        obtain ⟨l, rfl, o1⟩ := Paired.at' r2' hj hx
        walk_at "rdh"
        refine ⟨_, .inl (.inl (.inl (s5 _ _ o1))), ?_⟩
        rw [List.length_map]
        exact hk _ (Same.refl _)
      intro D H5 hD s5 e5
      have tm1 : tame (isD (rows.map List.length)) = true := isD_tame fun n hn => by
        obtain ⟨row, hrow, rfl⟩ := List.mem_map.mp hn
        have := hl row hrow
        omega
      have tm2 : tame (isD (dueT r wd)) = true := isD_tame fun n hn => by
        unfold dueT at hn
        split at hn
        · cases hn
        · rw [(List.mem_replicate.mp hn).2]; omega
      refine ⟨_, dp_is (l := rows.map List.length) (by rw [e5, List.map_map]; rfl), _, dp_is (s5 _ _ d4), shaped_of tm1 (isD_depth _), shaped_of tm2 (isD_depth _), ?_⟩
      rw [eqv_dec tm1 tm2 isD_inj]
      have s15 := s24.trans s5
      refine ite2 (fun z => ?_) (fun z => ⟨⟨_, rfl⟩, s15, ?_⟩)
      · have k := k H5 (s1.trans s15)
        have e : shapedT r hs ws = false := by
          rw [shapedT, Bool.and_eq_false_iff]
          refine .inr (List.all_eq_false.mpr ⟨_, List.mem_of_getElem? hzi, ?_⟩)
          rw [z]; decide
        rw [e] at k
        exact k
      · rw [take_at hzi, List.all_append, hall]
        simp only [List.all_cons, List.all_nil, Bool.and_true, Bool.true_and]
        exact decide_eq_true (by simpa using z)
    · rintro σ H2 ⟨⟨v4, v5, v6, rfl⟩, s2, hall⟩
      walk_at "rd"
      have k := k H2 (s1.trans s2)
      rw [← lz, List.take_length] at hall
      rw [shapedT, hall, decide_eq_true lhw] at k
      exact k
def sp_Shortest_shows (a : Ad) : Sp := fun vs H Q _ => ∃ q dx lh t xs hs rp dr r wl ws, vs = [.ref q, .ref rp, .ref wl] ∧ Sho a H q dx lh t xs hs ∧ HsB hs ∧ t.length ≤ 50000 ∧ ok8 t ∧ H rp = some (.ins a.c_Rules dr (RS.f r)) ∧ r.Ok ∧ H wl = some (.lst (ws.map fun w => .str (S w))) ∧ WsB ws ∧
  ∀ H', Same H H' → Q (.bl (showsT r t hs ws rp)) H'
theorem ok_Shortest_shows (T : Txt K mg a) : FnOk P w K mg base CX0 5 a.f_Shortest_shows a.d_Shortest_shows P_Shortest_shows (sp_Shortest_shows a) := by
  refine T.F_Shortest_shows.ok sc_Shortest_shows (fun vs H Q E h => ?_) (fun cdv A outer s H vs Q E hr h => ?_)
  · obtain ⟨q, dx, lh, t, xs, hs, rp, dr, r, wl, ws, rfl, _⟩ := h
    rfl
  · obtain ⟨q, dx, lh, t, xs, hs, rp, dr, r, wl, ws, rfl, sh, hb, ht, h8, hR, ok, hw, wb, k⟩ := h
    have G_read_all := ok_read_all (P := P) (w := w) (base := base) T
    have B_read_all := bi_read_all T
    have G_Shortest_shaped := ok_Shortest_shaped (P := P) (w := w) (base := base) T
    have B_Shortest_shaped := bi_Shortest_shaped T
    have G_row_right := ok_row_right (P := P) (w := w) (base := base) T
    have B_row_right := bi_row_right T
    refine ⟨_,
(pss_cons (ps_set (i := 3) sc_Shortest_shows.nd rfl (by first | exact Or.inl rfl | exact Or.inr rfl) (pe_ix ix_tup (pe_call G_read_all (hr.mono (by decide)) rfl T.f_read_all.g T.f_read_all.k B_read_all .nil pass0 (pa_cons (pv 1) (pa_cons (pe_fld (pv 0) rfl) pa_nil))) pe_int (fun _ _ => rfl)))
    (pss_cons (ps_if (PW.pt (pw_or (pt_cmpR op_isN (pv 3) pe_non (nomark _)) (pw_or (pt_cmpR (op_neD hr.units) (pe_lc (own := [("pair", 7)]) (g := gName 7) (tt := tYes) rfl sc_Shortest_shows.nd (pi_list (pv 3)) (blkOk_by (own := [("pair", 7)]) (N := N_Shortest_shows) (sc := defScope st_Shortest_shows) (by decide +kernel)) (fun _ _ _ _ _ => (pg_name (i := 7) sc_Shortest_shows.nd rfl (by first | exact Or.inl rfl | exact Or.inr rfl))) (fun _ _ _ _ _ => pts_nil) (fun _ _ _ _ _ => (pe_ix (ix_tupK (K := K) rfl) (pv 7) pe_int (fun _ _ => rfl)))) (pv 2) (nomark _)) (pw_or1 (pt_not (pt_val (pe_meth (pv 0) T.c_Shortest.cl T.m_Shortest_shaped G_Shortest_shaped (hr.mono (by decide)) B_Shortest_shaped .nil pass0 (pa_cons (pv 1) (pa_cons (pv 2) pa_nil))))))))) (pss_one (ps_ret pe_bl)) pss_nil)
    (pss_cons (ps_set (i := 4) sc_Shortest_shows.nd rfl (by first | exact Or.inl rfl | exact Or.inr rfl) (pe_callB ((call_max2 rfl)) (by rfl) T.b_max (by decide +kernel) (pa_cons pe_int (pa_cons (pe_op op_sub (pe_callB call_len_seq (by rfl) T.b_len PySem.boot_len (pa_cons (pv 2) pa_nil)) pe_int) pa_nil))))
    (pss_cons (ps_for PassesOwn.never rfl (pi_zip (by rfl) T.b_zip (pa_cons (pe_fld (pv 0) rfl) (pa_cons (pv 2) pa_nil))) (pg_tup rfl (pgs_cons (pg_name (i := 5) sc_Shortest_shows.nd rfl (by first | exact Or.inl rfl | exact Or.inr rfl)) (pgs_cons (pg_name (i := 6) sc_Shortest_shows.nd rfl (by first | exact Or.inl rfl | exact Or.inr rfl)) pgs_nil)))
    (pss_cons (ps_if (PW.pt (pw_and (pt_cmpR op_ne (pv 6) pe_str (nomark _)) (pw_and1 (pt_cmpR op_ne (pe_ix ix_list (pe_ix ix_list (pv 5) pe_int (fun _ _ => rfl)) pe_int (fun _ _ => rfl)) pe_int (nomark _))))) (pss_one (ps_ret pe_bl)) pss_nil)
    (pss_cons (ps_if (pt_not (pt_val (pe_callB (cr_all rfl) (by rfl) T.b_all (by decide +kernel) (pa_cons (pe_lc (own := [("at", 8)]) (g := gName 8) (tt := tYes) rfl sc_Shortest_shows.nd (pi_range1 rfl T.b_range (pa_cons (pe_callB call_len_seq (by rfl) T.b_len PySem.boot_len (pa_cons (pv 5) pa_nil)) pa_nil)) (blkOk_by (own := [("at", 8)]) (N := N_Shortest_shows) (sc := defScope st_Shortest_shows) (by decide +kernel)) (fun _ _ _ _ _ => (pg_name (i := 8) sc_Shortest_shows.nd rfl (by first | exact Or.inl rfl | exact Or.inr rfl))) (fun _ _ _ _ _ => pts_nil) (fun _ _ _ _ _ => (pe_call G_row_right (hr.mono (by decide)) rfl T.f_row_right.g T.f_row_right.k B_row_right .nil pass0 (pa_cons (pv 1) (pa_cons (pv 6) (pa_cons (pv 5) (pa_cons (pv 8) pa_nil))))))) pa_nil)))) (pss_one (ps_ret pe_bl)) pss_nil)
    (pss_one (ps_aug (i := 4) sc_Shortest_shows.nd rfl (by first | exact Or.inl rfl | exact Or.inr rfl) (pe_ifExp (pt_cmpR op_ne (pv 6) pe_str (nomark _)) (pe_ix ix_list (pe_ix ix_list (pv 5) (pe_un un_neg pe_int) (fun _ _ => rfl)) pe_int (fun _ _ => rfl)) pe_int) ip_add)))))
    (pss_one (ps_ret (pe_cmpR op_eq (pv 4) (pe_callB call_len_str (by rfl) T.b_len PySem.boot_len (pa_cons (pe_fld (pv 0) rfl) pa_nil)) (nomark _))))))))
      , ?_⟩
    rw [show start N_Shortest_shows [V.ref q, V.ref rp, V.ref wl] = [some (.ref q), some (.ref rp), some (.ref wl), none, none, none, none, none, none] from rfl]
    have cS := T.c_Shortest.cl
    have nH := T.n_Shortest_heights
    have nT := T.n_Shortest_text
    have h1 := sh.h1
    walk_at "rdh"
    have lx := sh.h3.length
    have hbn := hb.n
    have wbn := wb.n
    refine ⟨_, lk_ShoT _ _, rp, dr, r, t, rfl, hR, few_quotes ok, ht, fun tp H1 htp s1 told => ?_⟩
    have bd := readAll_bd r t rp
    cases hd : readAll r t rp with
    | error n =>
      rw [hd] at told
      refine ⟨tp, rfl, _, .inl (.inl told), .non, rfl, ite2 (fun _ => ?_) (fun z => absurd rfl z)⟩
      have k := k H1 s1
      rw [showsT, hd] at k
      exact k
    | ok ds =>
    rw [hd] at told bd
    obtain ⟨l, zs, hl, t1, t2, t3⟩ := told
    have dl : ds.length ≤ 50001 := by have := bd.1; omega
    have ek : showsT r t hs ws rp = (decide (ds.map (·.1) = ws) && (shapedT r hs ws && ((hs.zip ws).all (wordOk r) && decide (((ws.length - 1 : Nat) : Int) + totI (hs.zip ws) = t.length)))) := by rw [showsT, hd]
    rw [ek] at k
    refine ⟨tp, rfl, _, .inl (.inl t1), .ref l, rfl, ite2 (fun z => by cases z) (fun _ => ?_)⟩
    refine tlc_map ds (fun d => .str (S d.1)) (J := Itl K l) (H1 := H1) (G := fun H => SqL K H l zs) (fun R hR => ?_) (t3.length ▸ walk_list) (by omega) (fun H s => .inl (.inl (s _ _ t2))) ?_ ?_
    · walk_at "rd"
      exact ⟨⟨_, .inl (.inl t2)⟩, hR⟩
    · rintro R R' i d x H2 H2' hi s2 ⟨rfl, hx⟩ hk
      obtain ⟨b, u, rfl, g1, g2⟩ := Paired.at' t3 hi hx
      walk_at "rd"
      exact ⟨_, .inl (.inl (s2 _ _ g1)), _, rfl, hk _ (Same.refl _)⟩
    intro D H2 hD s2 e2
    have s02 := s1.trans s2
    have tm1 : tame (wsD (ds.map (·.1))) = true := wsD_tame fun u hu => by
      obtain ⟨d, hd2, rfl⟩ := List.mem_map.mp hu
      exact fun c hc => h8 c ((bd.2 d hd2).1 c hc)
    have tm2 : tame (wsD ws) = true := wsD_tame wb.o
    refine ⟨_, dp_ws (ws := ds.map (·.1)) (.inl (.inl (by rw [e2, List.map_map]; rfl))), _, dp_ws (.inl (.inl (s02 _ _ hw))), shaped_of tm1 (Nat.le_trans (wsD_depth _) (by decide)), shaped_of tm2 (Nat.le_trans (wsD_depth _) (by decide)), ?_⟩
    rw [eqv_dec tm1 tm2 wsD_inj]
    refine ite2 (fun z => ?_) (fun z => ?_)
    · have k := k H2 s02
      rw [z] at k
      exact k
    have z : decide (ds.map (·.1) = ws) = true := by simpa using z
    rw [z, Bool.true_and] at k
    refine ⟨_, _, s02 _ _ sh.h1, lkn_ShoS _ _, q, dx, lh, t, xs, hs, rp, dr, r, wl, ws, rfl, sh.same s02, hb, s02 _ _ hR, ok, s02 _ _ hw, wb, fun H3 s3 => ⟨_, rfl, ?_⟩⟩
    have s03 := s02.trans s3
    refine ite2 (fun z2 => ?_) (fun z2 => ?_)
    · have k := k H3 s03
      rw [z2] at k
      exact k
    have z2 : shapedT r hs ws = true := by simpa using z2
    rw [z2, Bool.true_and] at k
    rw [shapedT, Bool.and_eq_true, decide_eq_true_eq, List.all_eq_true] at z2
    obtain ⟨lhw, shp⟩ := z2
    have lz : (hs.zip ws).length = ws.length := by rw [List.length_zip, lhw, Nat.min_self]
    have sh3 := sh.same s03
    have hw3 := s03 _ _ hw
    have hR3 := s03 _ _ hR
    refine ⟨_, .inl (.inl (.inl hw3)), ?_⟩
    have et : (if ((ws.map fun w => V.str (S w)).length : Int) - 1 > 0 then ((ws.map fun w => V.str (S w)).length : Int) - 1 else 0) = ((ws.length - 1 : Nat) : Int) := by
      rw [List.length_map]; split <;> omega
    rw [et]
    refine tfor_it (J := Itz K lh wl) (H1 := H3) (n := ws.length) (G := fun H => SqL K H lh xs ∧ SqL K H wl (ws.map fun w => .str (S w))) (fun R hR => ?_) (walk_zip (by rw [List.length_map, lx, lhw, Nat.min_self])) (fun i σ H' => (∃ v5 v6, σ = [some (.ref q), some (.ref rp), some (.ref wl), some (.ref l), some (.int (((ws.length - 1 : Nat) : Int) + totI ((hs.zip ws).take i))), v5, v6, none, none]) ∧ Same H3 H' ∧ ((hs.zip ws).take i).all (wordOk r) = true) ⟨⟨_, _, by rw [List.take_zero]; rfl⟩, Same.refl _, by rw [List.take_zero]; rfl⟩ (fun _ _ _ _ h => ⟨.inl (.inl (h.2.1 _ _ sh3.h2)), .inl (.inl (h.2.1 _ _ hw3))⟩) ?_ ?_
    · have h1 := sh3.h1
      have h2 := sh3.h2
      walk_at "rdh"
      exact ⟨_, lk_ShoH _ _, _, rfl, ⟨_, .inl (.inl h2)⟩, ⟨_, .inl (.inl hw3)⟩, hR⟩
    · rintro i x σ H4 H4' hi ⟨⟨v5, v6, rfl⟩, s4, hall⟩ ⟨T0, x1, x2, rfl, hT0, rfl, hx1, hx2⟩
      dsimp only at hx1 hx2
      have hhi : hs[i]? = some hs[i] := List.getElem?_eq_getElem (by omega)
      have hwi : ws[i]? = some ws[i] := List.getElem?_eq_getElem hi
      rw [List.getElem?_map, hwi] at hx2
      cases hx2
      obtain ⟨lr, ys, rfl, r1, r2⟩ := Paired.at' sh3.h3 hhi hx1
      have hzi : (hs.zip ws)[i]? = some (hs[i], ws[i]) := List.getElem?_zip_eq_some.mpr ⟨hhi, hwi⟩
      have hm := hb.m hs[i] (List.getElem_mem _)
      have wm := wb.m ws[i] (List.getElem_mem _)
      have sp := of_decide_eq_true (shp _ (List.mem_of_getElem? hzi))
      dsimp only at sp
      generalize hs[i] = rows at *
      generalize ws[i] = wd at *
      have s4' := s4.trans (same_new (o := HO.tup [V.ref lr, V.str (S wd)]) hT0)
      have e0 : upd H4 T0 (HO.tup [V.ref lr, V.str (S wd)]) T0 = some (HO.tup [V.ref lr, V.str (S wd)]) := upd_same
      walk_at "gt"
      generalize upd H4 T0 (HO.tup [V.ref lr, V.str (S wd)]) = H5 at *
      refine ⟨_, .inl (.inl e0), rfl, _, _, rfl, _, _, rfl, rfl, ?_⟩
      have shpw : wd ≠ [] → Shp r wd rows := fun ne => by
        rw [dueT, if_neg ne] at sp
        have l1 := congrArg List.length sp
        rw [List.length_map, List.length_replicate] at l1
        refine ⟨l1, fun row hrow => ?_⟩
        have := List.mem_map_of_mem (f := List.length) hrow
        rw [sp] at this
        exact (List.mem_replicate.mp this).2
      have empt : wd = [] → rows = [] := fun e => by
        rw [dueT, if_pos e] at sp
        simpa using sp
      have r1' := s4' _ _ r1
      have r2' := r2.same s4'
      have rA : ∀ j, j < rows.length → ∃ b, ys[j]? = some (.ref b) ∧ H5 b = some (.lst ((rowA rows j).map .int)) := fun j hj => by
        have e : rows[j]? = some (rowA rows j) := by
          rw [rowA, List.getD_eq_getElem?_getD, List.getElem?_eq_getElem hj]
          rfl
        obtain ⟨x, h1, b, rfl, h2⟩ := Paired.right r2' e
        exact ⟨b, h1, h2⟩
      refine tseq_split (fun σ' H' => σ' = [some (.ref q), some (.ref rp), some (.ref wl), some (.ref l), some (.int (((ws.length - 1 : Nat) : Int) + totI ((hs.zip ws).take i))), some (.ref lr), some (.str (S wd)), none, none] ∧ H' = H5 ∧ (wd ≠ [] → gi (rowA rows 0) 0 = 0)) (fun N hN => ?_) ?_
      · walk_at "rd"
        refine ite2 (fun z => ?_) (fun z => hN _ _ ⟨rfl, rfl, fun y => absurd y z⟩)
        have sw := shpw z
        obtain ⟨b, b1, b2⟩ := rA 0 (by rw [sw.n]; omega)
        refine ⟨_, .inl (.inl r1'), _, atI_nat (j := 0) b1, b, rfl, _, .inl (.inl b2), .int (gi (rowA rows 0) 0), first0 sw 0 (by omega), rfl, ?_⟩
        refine ite2 (fun y => ?_) (fun y => hN _ _ ⟨rfl, rfl, fun _ => ?_⟩)
        · have k := k H5 (s03.trans s4')
          have e : (hs.zip ws).all (wordOk r) = false := by
            refine List.all_eq_false.mpr ⟨_, List.mem_of_getElem? hzi, ?_⟩
            have y : ¬ gi (rowA rows 0) 0 = 0 := fun q => y (congrArg V.int q)
            simp only [wordOk, if_neg z, decide_eq_false y, Bool.false_and, Bool.false_eq_true, not_false_eq_true]
          rw [e] at k
          exact k
        · exact V.int.inj (Classical.not_not.mp y)
      rintro σ1 H5 ⟨rfl, rfl, g0⟩
      refine tseq_split (fun σ' H' => σ' = [some (.ref q), some (.ref rp), some (.ref wl), some (.ref l), some (.int (((ws.length - 1 : Nat) : Int) + totI ((hs.zip ws).take i))), some (.ref lr), some (.str (S wd)), none, none] ∧ Same H5 H' ∧ (List.range rows.length).all (rowRightT r wd rows) = true) (fun N hN => ?_) ?_
      · walk_at "rd"
        refine tlc_map (List.range rows.length) (fun j => .bl (rowRightT r wd rows j)) (J := Itr 0 rows.length) (H1 := H5) (G := fun _ => True) (Y := YFn fun i => .int (0 + i)) (fun R hR => ?_) (by rw [List.length_range]; exact walk_range) (by rw [List.length_range]; omega) (fun _ _ => trivial) ?_ ?_
        · walk_at "rd"
          refine ⟨_, .inl (.inl (.inl r1')), ?_⟩
          rw [r2'.length]
          exact ⟨by omega, by omega, hR⟩
        · rintro R R' j jj x H6 H6' hj s6 ⟨rfl, rfl⟩ hk
          obtain ⟨hjl, hje⟩ := List.getElem?_eq_some_iff.mp hj
          rw [List.length_range] at hjl
          rw [List.getElem_range] at hje
          subst hje
          have ne : wd ≠ [] := fun e => by rw [empt e] at hjl; cases hjl
          have sw := shpw ne
          have hn := sw.n
          walk_at "rd"
          rw [show (0 : Int) + (j : Nat) = (j : Nat) by omega]
          exact ⟨rp, dr, r, wd, lr, ys, rows, j, rfl, s6 _ _ (s4' _ _ hR3), ok, s6 _ _ r1', r2'.same s6, sw, by omega, by omega, fun H7 s7 => hk H7 s7⟩
        · intro D6 H6 hD6 s6 e6
          refine ⟨D6, rfl, (List.range rows.length).map (rowRightT r wd rows), .inl (.inl (by rw [e6, List.map_map]; rfl)), ?_⟩
          rw [List.all_map]
          refine ite2 (fun y => ?_) (fun y => hN _ _ ⟨rfl, s6, ?_⟩)
          · have k := k H6 ((s03.trans s4').trans s6)
            have y : (List.range rows.length).all (rowRightT r wd rows) = false := y
            have ne : wd ≠ [] := fun e => by rw [empt e] at y; cases y
            have e : (hs.zip ws).all (wordOk r) = false := by
              refine List.all_eq_false.mpr ⟨_, List.mem_of_getElem? hzi, ?_⟩
              simp only [wordOk, if_neg ne, y, Bool.and_false, Bool.false_eq_true, not_false_eq_true]
            rw [e] at k
            exact k
          · have y : ¬ (List.range rows.length).all (rowRightT r wd rows) = false := y
            simpa using y
      rintro σ1 H6 ⟨rfl, s6, g1⟩
      walk_at "rd"
      have r1'' := s6 _ _ r1'
      have tot : totI ((hs.zip ws).take (i + 1)) = totI ((hs.zip ws).take i) + wordTot (rows, wd) := by
        rw [totI, totI, take_at hzi, List.map_append, List.sum_append]
        simp
      have alw : wordOk r (rows, wd) = true → ((hs.zip ws).take (i + 1)).all (wordOk r) = true := fun h => by
        rw [take_at hzi, List.all_append, hall]
        simp [h]
      refine ite2 (fun z => ?_) (fun z => ?_)
      · have sw := shpw z
        have hn := sw.n
        obtain ⟨b, b1, b2⟩ := rA wd.length (by omega)
        have b2' := s6 _ _ b2
        refine ⟨_, .inl (.inl r1''), .ref b, ?_, b, rfl, _, .inl (.inl b2'), .int (gi (rowA rows wd.length) 0), first0 sw wd.length (by omega), _, rfl, ?_, s4'.trans s6, alw ?_⟩
        · exact atI_neg1 (r2'.length.trans hn) b1
        · rw [tot, show wordTot (rows, wd) = gi (rowA rows wd.length) 0 from if_neg z]; omega
        · simp only [wordOk, if_neg z, g0 z, g1, decide_true, Bool.and_self]
      · have z : wd = [] := by simpa using z
        refine ⟨?_, s4'.trans s6, alw ?_⟩
        · rw [tot, show wordTot (rows, wd) = 2 from if_pos z]; omega
        · simp only [wordOk, if_pos z]
    · rintro σ H4 ⟨⟨v5, v6, rfl⟩, s4, hall⟩
      walk_at "rd"
      have k := k H4 (s03.trans s4)
      have sh4 := sh3.same s4
      refine ⟨_, _, _, sh4.h1, cS, nT, _, lk_ShoT _ _, S t, rfl, line_le3 (by rw [S_len]; omega), ?_⟩
      rw [← lz, List.take_length] at hall ⊢
      rw [hall, Bool.true_and] at k
      rw [S_len, lz]
      exact k
end
end Qw

set_option Elab.async false
set_option linter.all false
set_option maxRecDepth 100000
set_option maxHeartbeats 4000000
namespace Qw
open PySem L2
/-! ### own heights show -/
theorem Paired.mapR2 {α β γ : Type} {F : α → γ → Prop} (f : β → γ) : ∀ {l : List α} {m : List β}, Paired (fun x y => F x (f y)) l m → Paired F l (m.map f)
  | _, _, .nil => .nil
  | _, _, .cons r t => .cons r (Paired.mapR2 f t)
def toI (rows : List (List Nat)) : List (List Int) := rows.map fun row => row.map fun n : Nat => (n : Int)
theorem gi_to (l : List Nat) (k : Nat) : gi (l.map fun n : Nat => (n : Int)) k = (gt l k : Nat) := by
  simp only [gi, gt, List.getD_eq_getElem?_getD, List.getElem?_map]
  cases l[k]? <;> rfl
theorem rowA_to {r : RS} {w : Tx} {i : Nat} (h : i ≤ w.length) : rowA (toI (rowsT r w)) i = (curT r (w.take i)).map fun n : Nat => (n : Int) := by
  rw [rowA, toI, rowsT, List.getD_eq_getElem?_getD, List.getElem?_map, List.getElem?_map, List.getElem?_range (by omega)]
  rfl
theorem ht_to {H : Hp} {v : V} {rows : List (List Nat)} (h : HeightsV H v rows) : HtI H v (toI rows) := by
  obtain ⟨l, xs, e, h1, h2⟩ := h
  refine ⟨l, xs, e, h1, Paired.mapR2 _ (Paired.mapP h2 fun _ _ ⟨b, e, h⟩ => ⟨b, e, ?_⟩)⟩
  rw [h, List.map_map]
  rfl
theorem rowOk_own (r : RS) (u : Tx) : rowOk ((curT r u).map fun n : Nat => (n : Int)) = true := by
  rw [rowOk, Bool.not_eq_true', List.any_eq_false]
  intro n hn
  have hl := cur_len' r u
  have hn2 := List.mem_of_mem_drop hn
  obtain ⟨m, hm, rfl⟩ := List.mem_map.mp hn2
  obtain ⟨k, hk, rfl⟩ := mem_gt hm
  have := cur_one r u (k := k) (by omega)
  rw [gi_to, Bool.not_eq_true, Bool.or_eq_false_iff, decide_eq_false_iff_not, decide_eq_false_iff_not]
  exact ⟨by omega, by omega⟩
theorem stepOk_own (r : RS) (u : Tx) (c : Nat) : stepOk r ((curT r u).map fun n : Nat => (n : Int)) ((curT r (u ++ [c])).map fun n : Nat => (n : Int)) c = true := by
  rw [stepOk, List.all_eq_true]
  intro k hk
  have hk := List.mem_range.mp hk
  rw [stOk]
  cases hc : costT r (r.sts.getD k none) c with
  | none => rfl
  | some n =>
    have := (cur_nxt r u c).le hk hc
    dsimp only
    rw [gi_to, gi_to, decide_eq_true_eq]
    omega
theorem right_own (r : RS) (w : Tx) {i : Nat} (h : i ≤ w.length) : rowRightT r w (toI (rowsT r w)) i = true := by
  rw [rowRightT, rowA_to h, rowOk_own, Bool.true_and, Bool.or_eq_true]
  by_cases i0 : i = 0
  · exact .inl (decide_eq_true i0)
  · refine .inr ?_
    obtain ⟨n, rfl⟩ : ∃ n, i = n + 1 := ⟨i - 1, by omega⟩
    rw [Nat.add_sub_cancel, rowA_to (by omega), take_pred h]
    exact stepOk_own r _ _
theorem zip_self {α : Type} (f : Tx → α) (g : α × Tx → Bool) (h : ∀ w, g (f w, w) = true) : ∀ ws : List Tx, ((ws.map f).zip ws).all g = true
  | [] => rfl
  | w :: ws => by
    rw [List.map_cons, List.zip_cons_cons, List.all_cons, h w, zip_self f g h ws]
    rfl
theorem wordOk_own (r : RS) (w : Tx) : wordOk r (toI (hgtT r w), w) = true := by
  unfold wordOk
  by_cases e : w = []
  · rw [if_pos e]
  · rw [if_neg e, hgtT, if_neg e, rowA_to (Nat.zero_le _), gi_to, Bool.and_eq_true, decide_eq_true_eq, List.all_eq_true]
    have z : gt (curT r (w.take 0)) 0 = 0 := row0_gt (sts_pos r)
    refine ⟨by rw [z]; rfl, fun i hi => right_own r w ?_⟩
    have := List.mem_range.mp hi
    simp only [toI, rowsT, List.length_map, List.length_range] at this
    omega
theorem shaped_own (r : RS) (ws : List Tx) : shapedT r (ws.map fun w => toI (hgtT r w)) ws = true := by
  rw [shapedT, List.length_map, decide_eq_true rfl, Bool.true_and]
  refine zip_self _ _ (fun w => decide_eq_true ?_) ws
  by_cases e : w = []
  · rw [dueT, hgtT, if_pos e, if_pos e]; rfl
  · rw [dueT, hgtT, if_neg e, if_neg e]
    simp only [toI, rowsT, List.map_map]
    rw [List.eq_replicate_iff]
    refine ⟨by simp, fun n hn => ?_⟩
    obtain ⟨i, _, rfl⟩ := List.mem_map.mp hn
    simp only [Function.comp, List.length_map]
    exact cur_len' r _
theorem tot_own (r : RS) : ∀ ws : List Tx, totI ((ws.map fun w => toI (hgtT r w)).zip ws) = ((ws.map (leastT r)).sum : Nat)
  | [] => rfl
  | w :: ws => by
    have ih := tot_own r ws
    rw [totI] at ih ⊢
    rw [List.map_cons, List.zip_cons_cons, List.map_cons, List.sum_cons, ih, List.map_cons, List.sum_cons]
    have : wordTot (toI (hgtT r w), w) = (leastT r w : Nat) := by
      unfold wordTot leastT
      by_cases e : w = []
      · rw [if_pos e, if_pos e]; rfl
      · rw [if_neg e, if_neg e, hgtT, if_neg e, rowA_to (Nat.le_refl _), gi_to, List.take_length]
    omega
theorem sum_succ (f : Tx → Nat) : ∀ ws : List Tx, (ws.map fun w => f w + 1).sum = (ws.map f).sum + ws.length
  | [] => rfl
  | w :: ws => by
    have ih := sum_succ f ws
    simp only [List.map_cons, List.sum_cons, List.length_cons, ih]
    omega
theorem wr_len0 {r : RS} (c : Nat) {ts ws : List Tx} (h : Paired (WrT r) ts ws) : (joinT c ts).length = (ws.map fun w => leastT r w + 1).sum - 1 := by
  have e : ∀ {ts ws : List Tx}, Paired (WrT r) ts ws → (ts.map fun x => x.length + 1).sum = (ws.map fun w => leastT r w + 1).sum := fun {ts ws} h => by
    induction h with
    | nil => rfl
    | cons h _ ih => rw [List.map_cons, List.map_cons, List.sum_cons, List.sum_cons, ih, h.1]
  rw [← e h]
  by_cases z : ts = []
  · subst z; rfl
  · have := joinT_len' c ts z
    omega
theorem read_wr {r : RS} {b : Nat} (hb : b ∈ r.breaks) {ts ws : List Tx} (h : Paired (WrT r) ts ws) (rp : Addr) : readAll r (joinT b ts) rp = .ok (wordsAt 0 (ts.zip ws)) ∧ (wordsAt 0 (ts.zip ws)).map (·.1) = ws := by
  have l := h.length
  have e1 : (ts.zip ws).map (·.1) = ts := List.map_fst_zip (by omega)
  have e2 : (ts.zip ws).map (·.2) = ws := List.map_snd_zip (by omega)
  have q := read_joined hb (ts.zip ws) (fun x hx => by
    obtain ⟨i, hi, rfl⟩ := List.getElem_of_mem hx
    rw [List.getElem_zip]
    rw [List.length_zip] at hi
    exact (Paired.at' h (List.getElem?_eq_getElem (by omega)) (List.getElem?_eq_getElem (by omega))).2.2.1) rp
  rw [e1] at q
  exact ⟨q, by rw [wordsAt_map, e2]⟩
theorem wr_signs {r : RS} {b : Nat} (hb : sgn b = true) : ∀ {ts ws : List Tx}, Paired (WrT r) ts ws → (∀ w ∈ ws, w.all sgn = true) → (joinT b ts).all sgn = true
  | _, _, .nil, _ => rfl
  | [t], _, .cons h .nil, hw => h.2.2.2 (hw _ List.mem_cons_self)
  | t :: u :: l, w :: ws, .cons h k, hw => by
    show (t ++ b :: joinT b (u :: l)).all sgn = true
    rw [List.all_append, List.all_cons, hb, h.2.2.2 (hw _ List.mem_cons_self), wr_signs hb k fun x hx => hw x (List.mem_cons_of_mem _ hx)]
    rfl
theorem shows_own {r : RS} {b : Nat} (hb : b ∈ r.breaks) {ts ws : List Tx} (h : Paired (WrT r) ts ws) (rp : Addr) : showsT r (joinT b ts) (ws.map fun w => toI (hgtT r w)) ws rp = true := by
  obtain ⟨q1, q2⟩ := read_wr hb h rp
  rw [showsT, q1]
  dsimp only
  rw [q2, decide_eq_true rfl, shaped_own, zip_self _ _ (fun w => wordOk_own r w), tot_own, Bool.true_and, Bool.true_and, Bool.true_and, decide_eq_true_eq, wr_len0 b h, sum_succ]
  by_cases e : ws.length = 0
  · rw [List.eq_nil_of_length_eq_zero e]; rfl
  · omega
end Qw

set_option Elab.async false
set_option linter.all false
set_option maxRecDepth 100000
set_option maxHeartbeats 4000000
namespace Qw
open PySem L2
local macro_rules | `(tactic| walk_at "rd") => `(tactic| simp only [iEnum, iRng3, tRevL, rSlS, rSlL, gSub, rSetL, wipe, List.map_cons, List.map_nil, rAll, rAny, rIsi, tM1, tM0, iZipLT, iZip, iRng2, tLenSetS, rListStr, rMulS, rRep, rCntB, tRevS, rNeD, rEqD, tSeq, tNext, tAsg, tRet, tRetN, tDrop, tIfS, sFld, sFldAug, tVar, tC, tOp, tUn, tTest, tB, tAnd, tOr, tNot, tAndV, tOrV, tNotV, tIf, tTup, tLst, tCons, tNil, tCB, tCall, tMeth, tMake, tFld, rI, rI0, rU, rEq, rNe, rCat, gName, gTup, gCons, gNil, tPar, tPar3, tBM, tBM0, rAppend, rExtend, rPopAt, rIxL, rIxT, rIxS, tSl, rSlS, rSlL, tPart, tNoPart, iStr, iTup, iList, iRng1, tAug, ipI, L2.rAdd, L2.rSub, L2.rAddS, tChain, rIsB, rNotB, scal_ss, scal_ii, scal_bb, scal_nn, scal_in, scal_ni, tYes,
  cx_K, cx_N, List.getElem?_cons_zero, List.getElem?_cons_succ, List.set_cons_zero, List.set_cons_succ, List.nil_append, List.cons_append, List.append_nil, List.length_cons, List.length_nil, Nat.zero_add,
  Option.some.injEq, V.ref.injEq, V.int.injEq, V.str.injEq, V.bl.injEq, HO.ins.injEq, HO.lst.injEq, HO.tup.injEq, List.cons.injEq, exists_eq_left, exists_eq_left', exists_eq_right, exists_eq_right', and_true, true_and, exists_and_left, exists_and_right, and_assoc, decide_eq_true_eq, Bool.not_eq_true', decide_eq_false_iff_not, reduceCtorEq, exists_const, forall_const, if_true, if_false, false_and, and_false, ite_true, ite_false, Bool.true_eq_false, Bool.false_eq_true, Nat.reduceLeDiff, Nat.reduceAdd, small_line, small_lt, upd_ne, ne_eq, not_false_eq_true, Nat.zero_le, Prod.mk.injEq, upd_same, upd_upd, S_tl, S_len, S_app, S_one, S_inj,
  lk_breaks, lk_hard, lk_soft, lk_bend, lk_note, lk_rules, lk_state, lk_bent, lk_word, lk_begun, lk_opened, lk_place, pt_state, pt_bent, pt_word, pt_wordS, pt_wordN, pt_begun, pt_opened, pt_place, pt_place1, len_mf, litv_empty, litv_note, litv_nl, mf_inj, rf_inj, lkn_begin, lkn_ended, lkn_plain, lkn_quoted, lkn_step, lkn_fault, lkn_key, lkn_told, lkn_quotes, lkn_special, pt_open1, not_true_eq_false, not_false_eq_true])
local macro_rules | `(tactic| walk_at "rdh") => `(tactic| simp only [iEnum, iRng3, tRevL, rSlS, rSlL, gSub, rSetL, wipe, List.map_cons, List.map_nil, rAll, rAny, rIsi, tM1, tM0, iZipLT, iZip, iRng2, tLenSetS, rListStr, rMulS, rRep, rCntB, tRevS, rNeD, rEqD, tSeq, tNext, tAsg, tRet, tRetN, tDrop, tIfS, sFld, sFldAug, tVar, tC, tOp, tUn, tTest, tB, tAnd, tOr, tNot, tAndV, tOrV, tNotV, tIf, tTup, tLst, tCons, tNil, tCB, tCall, tMeth, tMake, tFld, rI, rI0, rU, rEq, rNe, rCat, gName, gTup, gCons, gNil, tPar, tPar3, tBM, tBM0, rAppend, rExtend, rPopAt, rIxL, rIxT, rIxS, tSl, rSlS, rSlL, tPart, tNoPart, iStr, iTup, iList, iRng1, tAug, ipI, L2.rAdd, L2.rSub, L2.rAddS, tChain, rIsB, rNotB, scal_ss, scal_ii, scal_bb, scal_nn, scal_in, scal_ni, tYes,
  cx_K, cx_N, List.getElem?_cons_zero, List.getElem?_cons_succ, List.set_cons_zero, List.set_cons_succ, List.nil_append, List.cons_append, List.append_nil, List.length_cons, List.length_nil, Nat.zero_add,
  Option.some.injEq, V.ref.injEq, V.int.injEq, V.str.injEq, V.bl.injEq, HO.ins.injEq, HO.lst.injEq, HO.tup.injEq, List.cons.injEq, exists_eq_left, exists_eq_left', exists_eq_right, exists_eq_right', and_true, true_and, exists_and_left, exists_and_right, and_assoc, decide_eq_true_eq, Bool.not_eq_true', decide_eq_false_iff_not, reduceCtorEq, exists_const, forall_const, if_true, if_false, false_and, and_false, ite_true, ite_false, Bool.true_eq_false, Bool.false_eq_true, Nat.reduceLeDiff, Nat.reduceAdd, small_line, small_lt, upd_ne, ne_eq, not_false_eq_true, Nat.zero_le, Prod.mk.injEq, upd_same, upd_upd, S_tl, S_len, S_app, S_one, S_inj,
  lk_breaks, lk_hard, lk_soft, lk_bend, lk_note, lk_rules, lk_state, lk_bent, lk_word, lk_begun, lk_opened, lk_place, pt_state, pt_bent, pt_word, pt_wordS, pt_wordN, pt_begun, pt_opened, pt_place, pt_place1, len_mf, litv_empty, litv_note, litv_nl, mf_inj, rf_inj, lkn_begin, lkn_ended, lkn_plain, lkn_quoted, lkn_step, lkn_fault, lkn_key, lkn_told, lkn_quotes, lkn_special, pt_open1, not_true_eq_false, not_false_eq_true, *])
local macro_rules | `(tactic| walk_at "pl") => `(tactic| (first | decide | (refine Nat.lt_of_le_of_lt (length_putF _ _ _) ?_; repeat (first | decide | refine pl2 ?_))))
local macro_rules | `(tactic| walk_at "al") => `(tactic| (intro p hp; generalize hH : upd _ p _ = H1; obtain ⟨S, e⟩ := gen_new hH hp; clear hH))
local macro_rules | `(tactic| walk_at "gt") => `(tactic| simp only [gTup, gCons, gNil, gName, List.set_cons_zero, List.set_cons_succ, Option.some.injEq, V.ref.injEq, V.int.injEq, V.str.injEq, HO.tup.injEq, List.cons.injEq, exists_eq_left, exists_eq_left', exists_eq_right, exists_eq_right', and_true, true_and, exists_and_left, exists_and_right, and_assoc, reduceCtorEq, exists_const])
/-! ### the law's own look at heights -/
def selfC (r : RS) : So → Nat → List Nat
  | none, c => if c ∉ r.every then [1] else []
  | some q, c => if c ≠ q ∧ (q ∈ r.hard ∨ c ∉ r.bend) then [1] else []
theorem selfC_len (r : RS) : ∀ (s : So) (c : Nat), (selfC r s c).length ≤ 1
  | none, c => by
    show (if c ∉ r.every then [1] else ([] : List Nat)).length ≤ 1
    split <;> simp
  | some q, c => by
    show (if c ≠ q ∧ (q ∈ r.hard ∨ c ∉ r.bend) then [1] else ([] : List Nat)).length ≤ 1
    split <;> simp
def bentC (r : RS) (s : So) : List Nat := if r.bend ≠ [] ∧ (s = none ∨ ∃ q ∈ r.soft, s = some q) then [2] else []
def costsT (r : RS) (s : So) (c : Nat) : List Nat := selfC r s c ++ bentC r s
def RS.told5 (r : RS) : List Tx := [r.breaks, r.hard, r.soft, r.bend, r.note]
section
variable {P : Program} {w : World} {K : PySem.W.Frag} {mg : Str → Option Value} {base : Heap} {a : Ad}
def sp_law_states : Sp := fun vs H Q _ => ∃ (tp : Addr) (r : RS), vs = [.ref tp] ∧ H tp = some (.tup (RS.tup r)) ∧ r.Ok ∧ ∀ l H', H l = none → Same H H' → H' l = some (.lst (r.sts.map fun s => .str (S (sT s)))) → Q (.ref l) H'
theorem ok__law_states (T : Txt K mg a) : FnOk P w K mg base CX0 1 a.f__law_states a.d__law_states P__law_states sp_law_states := by
  refine T.F__law_states.ok sc__law_states (fun vs H Q E h => ?_) (fun cdv A outer s H vs Q E hr h => ?_)
  · obtain ⟨tp, r, rfl, _⟩ := h
    rfl
  · obtain ⟨tp, r, rfl, ht, ok, k⟩ := h
    refine ⟨_,
(pss_one (ps_ret (pe_op op_cat (pe_lst (pa_cons pe_str pa_nil)) (pe_callTy (call_list_str rfl) (by rfl) T.b_list (by decide +kernel) (pa_cons (pe_op op_add_str (pe_ix ix_tup (pv 0) pe_int (fun _ _ => rfl)) (pe_ix ix_tup (pv 0) pe_int (fun _ _ => rfl))) pa_nil)))))
      , ?_⟩
    rw [show start N__law_states [V.ref tp] = [some (.ref tp)] from rfl]
    walk_at "rd"
    have hql := r.quotes_len ok
    have h2 := ok.l2
    have h3 := ok.l3
    walk_at "al"
    rename_i p1 hp1 H1 S1 e1
    have ht1 := S1 _ _ ht
    refine ⟨_, .inl (.inl ht1), _, rfl, _, .inl (.inl ht1), _, rfl, S r.hard, rfl, S r.soft, rfl, line_le (by rw [S_len, S_len]; omega), r.quotes, S_app _ _, by omega, ?_⟩
    walk_at "al"
    rename_i p2 hp2 H2 S2 e2
    refine ⟨_, S2 _ _ e1, line_le (by rw [List.length_map]; simp only [List.length_cons, List.length_nil]; omega), ?_⟩
    walk_at "al"
    rename_i p3 hp3 H3 S3 e3
    refine k p3 H3 ((S1.trans S2).free hp3) ((S1.trans S2).trans S3) ?_
    rw [e3]
    simp [RS.sts, sT]
def sp_law_costs : Sp := fun vs H Q _ => ∃ (tp : Addr) (r : RS) (s : So) (c : Nat), vs = [.ref tp, .str (S (sT s)), .str (S [c])] ∧ H tp = some (.tup (RS.tup r)) ∧ r.Ok ∧ ∀ l H', H l = none → Same H H' → H' l = some (.lst ((costsT r s c).map fun n => .int (n : Nat))) → Q (.ref l) H'
theorem ok__law_costs (T : Txt K mg a) : FnOk P w K mg base CX0 1 a.f__law_costs a.d__law_costs P__law_costs sp_law_costs := by
  refine T.F__law_costs.ok sc__law_costs (fun vs H Q E h => ?_) (fun cdv A outer s H vs Q E hr h => ?_)
  · obtain ⟨tp, r, s, c, rfl, _⟩ := h
    rfl
  · obtain ⟨tp, r, st, c, rfl, ht, ok, k⟩ := h
    refine ⟨_,
(pss_cons (ps_set (i := 3) sc__law_costs.nd rfl (by first | exact Or.inl rfl | exact Or.inr rfl) (pe_lst pa_nil))
    (pss_cons (ps_if (pt_cmpR op_eq (pv 1) pe_str (nomark _)) (pss_one (ps_set (i := 3) sc__law_costs.nd rfl (by first | exact Or.inl rfl | exact Or.inr rfl) (pe_ifExp (pt_cmpR op_notIn_sign (pv 2) (pe_join pe_str (pv 0)) rfl) (pe_lst (pa_cons pe_int pa_nil)) (pe_lst pa_nil)))) (pss_one (ps_if (PW.pt (pw_and (pt_cmpR op_ne (pv 2) (pv 1) (nomark _)) (pw_and1 (PW.pt (pw_or (pt_cmpR op_in_sign (pv 1) (pe_ix ix_tup (pv 0) pe_int (fun _ _ => rfl)) rfl) (pw_or1 (pt_cmpR op_notIn_sign (pv 2) (pe_ix ix_tup (pv 0) pe_int (fun _ _ => rfl)) rfl))))))) (pss_one (ps_set (i := 3) sc__law_costs.nd rfl (by first | exact Or.inl rfl | exact Or.inr rfl) (pe_lst (pa_cons pe_int pa_nil)))) pss_nil)))
    (pss_one (ps_ret (pe_op op_cat (pv 3) (pe_ifExp (PW.pt (pw_and (pt_cmpR op_ne (pe_ix ix_tup (pv 0) pe_int (fun _ _ => rfl)) pe_str (nomark _)) (pw_and1 (PW.pt (pw_or (pt_cmpR op_eq (pv 1) pe_str (nomark _)) (pw_or1 (pt_cmpR op_in_sign (pv 1) (pe_ix ix_tup (pv 0) pe_int (fun _ _ => rfl)) rfl))))))) (pe_lst (pa_cons pe_int pa_nil)) (pe_lst pa_nil)))))))
      , ?_⟩
    rw [show start N__law_costs [V.ref tp, V.str (S (sT st)), V.str (S [c])] = [some (.ref tp), some (.str (S (sT st))), some (.str (S [c])), none] from rfl]
    have hj : Txt.join (S []) (r.told5.map S) = S r.every := by
      rw [join_flat]
      simp [RS.told5, RS.every]
    have h1 := ok.l1
    have h2 := ok.l2
    have h3 := ok.l3
    have h4 := ok.l4
    have h5 := ok.l5
    refine tseq_split (fun σ' H' => ∃ l0, σ' = [some (.ref tp), some (.str (S (sT st))), some (.str (S [c])), some (.ref l0)] ∧ Same H H' ∧ H' l0 = some (.lst [])) (fun N hN => ?_) ?_
    · walk_at "rd"
      intro l0 hl0
      exact hN _ _ ⟨l0, rfl, same_new hl0, upd_same⟩
    rintro σ1 H1 ⟨l0, rfl, s1, e0⟩
    have ht1 := s1 _ _ ht
    refine tseq_split (fun σ' H' => ∃ l1, σ' = [some (.ref tp), some (.str (S (sT st))), some (.str (S [c])), some (.ref l1)] ∧ Same H1 H' ∧ H' l1 = some (.lst ((selfC r st c).map fun n => .int (n : Nat)))) (fun N hN => ?_) ?_
    · walk_at "rd"
      cases st with
      | none =>
        refine ite2 (fun _ => ?_) (fun z => absurd rfl z)
        refine ⟨⟨_, rfl⟩, r.told5.map S, .inr (.inl (.inl ht1)), ?_, ?_⟩
        · simp only [RS.told5, List.map_cons, List.map_nil, List.sum_cons, List.sum_nil, S_len, List.length_cons, List.length_nil]
          omega
        rw [hj]
        refine ite2 (fun z => ?_) (fun z => ?_)
        · intro p hp
          refine hN _ _ ⟨p, rfl, same_new hp, ?_⟩
          rw [upd_same, show selfC r none c = [1] from if_pos z]
          rfl
        · intro p hp
          refine hN _ _ ⟨p, rfl, same_new hp, ?_⟩
          rw [upd_same, show selfC r none c = [] from if_neg z]
          rfl
      | some q =>
        refine ite2 (fun z => by cases z) (fun _ => ?_)
        have cq : ¬ ([c] = sT (some q)) ↔ c ≠ q := by
          rw [show sT (some q) = [q] from rfl]
          constructor
          · intro h z; exact h (by rw [z])
          · intro h z; injection z with z; exact h z
        refine ite2 (fun z => ?_) (fun z => ?_)
        · have z := cq.mp z
          refine ⟨_, .inl (.inl ht1), _, rfl, q, rfl, S r.hard, rfl, ite2 (fun y => ?_) (fun y => ?_)⟩
          · intro p hp
            refine hN _ _ ⟨p, rfl, same_new hp, ?_⟩
            rw [upd_same, show selfC r (some q) c = [1] from if_pos ⟨z, .inl y⟩]
            rfl
          · refine ⟨_, .inl (.inl ht1), _, rfl, S r.bend, rfl, ite2 (fun x => ?_) (fun x => ?_)⟩
            · intro p hp
              refine hN _ _ ⟨p, rfl, same_new hp, ?_⟩
              rw [upd_same, show selfC r (some q) c = [1] from if_pos ⟨z, .inr x⟩]
              rfl
            · refine hN _ _ ⟨l0, rfl, Same.refl _, ?_⟩
              rw [e0, show selfC r (some q) c = [] from if_neg (fun h => h.2.elim y x)]
              rfl
        · refine hN _ _ ⟨l0, rfl, Same.refl _, ?_⟩
          rw [e0, show selfC r (some q) c = [] from if_neg (fun h => z (cq.mpr h.1))]
          rfl
    rintro σ1 H2 ⟨l1, rfl, s2, e2⟩
    have ht2 := s2 _ _ ht1
    walk_at "rd"
    have S02 := s1.trans s2
    have fin : ∀ (n : List Nat), bentC r st = n → ∀ p, H2 p = none → ∃ x, upd H2 p (HO.lst (n.map fun n => V.int (n : Nat))) l1 = some (HO.lst x) ∧ x.length + n.length ≤ sizeLine ∧ ∀ p_1, upd H2 p (HO.lst (n.map fun n => V.int (n : Nat))) p_1 = none → Q (V.ref p_1) (upd (upd H2 p (HO.lst (n.map fun n => V.int (n : Nat)))) p_1 (HO.lst (x ++ n.map fun n => V.int (n : Nat)))) := fun n hn p hp => by
      refine ⟨_, (same_new hp) _ _ e2, ?_, fun p1 hp1 => ?_⟩
      · rw [← hn]
        refine line_le ?_
        rw [List.length_map]
        have h1 := selfC_len r st c
        have h2 : (bentC r st).length ≤ 1 := by unfold bentC; split <;> simp
        omega
      · have s3 := (same_new (o := HO.lst (n.map fun n => V.int (n : Nat))) hp)
        refine k p1 _ ((S02.trans s3).free hp1) ((S02.trans s3).trans (same_new hp1)) ?_
        rw [upd_same, ← List.map_append, costsT, hn]
    refine ⟨_, .inl (.inl ht2), _, rfl, rfl, ite2 (fun z => ?_) (fun z => ?_)⟩
    · have zb : r.bend ≠ [] := fun y => z (by rw [y])
      cases st with
      | none =>
        refine ite2 (fun _ => ?_) (fun y => absurd rfl y)
        exact fin [2] (if_pos ⟨zb, .inl rfl⟩)
      | some q =>
        refine ite2 (fun y => by cases y) (fun _ => ?_)
        refine ⟨_, .inl (.inl ht2), _, rfl, q, rfl, S r.soft, rfl, ite2 (fun y => ?_) (fun y => ?_)⟩
        · exact fin [2] (if_pos ⟨zb, .inr ⟨q, y, rfl⟩⟩)
        · have := fin [] (if_neg fun h => h.2.elim (fun e => by cases e) fun ⟨q', h1, h2⟩ => y (by cases h2; exact h1))
          simpa using this
    · have zb : r.bend = [] := S_inj.mp (V.str.inj (Classical.not_not.mp z))
      have := fin [] (if_neg fun h => h.1 zb)
      simpa using this
/-- the least of the costs -/
theorem every_spec {r : RS} {c : Nat} : c ∈ r.every ↔ c ∈ r.spec := by
  simp only [RS.every, RS.spec, RS.quotes, List.mem_append]
  constructor
  · rintro (h | h | h | h | h) <;> simp [h]
  · rintro (h | (h | h) | h | h) <;> simp [h]
theorem costs_le {r : RS} (ok : r.Ok) {s : So} (hs : s ∈ r.sts) (c : Nat) (x y : Int) : (∀ m ∈ costsT r s c, x ≤ y + (m : Nat)) ↔ (match costT r s c with | none => True | some n => x ≤ y + (n : Nat)) := by
  cases s with
  | none =>
    have e : bentC r none = if r.bend ≠ [] then [2] else [] := by simp [bentC]
    rw [costsT, e]
    simp only [selfC, costT, every_spec]
    by_cases h1 : c ∈ r.spec
    · by_cases h2 : r.bend = []
      · simp [h1, h2]
      · simp [h1, h2]
    · by_cases h2 : r.bend = []
      · simp [h1, h2]
      · simp [h1, h2]; omega
  | some q =>
    have hq : q ∈ r.quotes := by simpa [RS.sts] using hs
    by_cases hh : q ∈ r.hard
    · have hn : q ∉ r.soft := ok.dis.hs q hh
      have e : bentC r (some q) = [] := by simp [bentC, hn]
      rw [costsT, e, List.append_nil]
      simp only [selfC, costT, if_pos hh]
      by_cases h1 : c = q
      · simp [h1]
      · simp [h1, hh]
    · have hsf : q ∈ r.soft := (List.mem_append.mp hq).elim (fun z => absurd z hh) id
      have e : bentC r (some q) = if r.bend ≠ [] then [2] else [] := by simp [bentC, hsf]
      rw [costsT, e]
      simp only [selfC, costT, if_neg hh]
      by_cases h1 : c = q
      · by_cases h2 : r.bend = []
        · simp [h1, h2, hh]
        · simp [h1, h2, hh]
      · by_cases h3 : c ∈ r.bend
        · have h2 : r.bend ≠ [] := fun z => by rw [z] at h3; cases h3
          simp [h1, h2, h3, hh]
        · by_cases h2 : r.bend = []
          · simp [h1, h2, hh]
          · simp [h1, h2, h3, hh]; omega
/-- a word's rows by the law's own look -/
def ownRows (r : RS) (w : Tx) (rows : List (List Int)) : Bool := decide (rows.map List.length = List.replicate (w.length + 1) r.sts.length) && (decide (gi (rowA rows 0) 0 = 0) && (List.range rows.length).all (rowRightT r w rows))
def sp_law_rows_right : Sp := fun vs H Q _ => ∃ (tp : Addr) (r : RS) (wd : Tx) (lr : Addr) (xs : List V) (rows : List (List Int)), vs = [.ref tp, .str (S wd), .ref lr] ∧ H tp = some (.tup (RS.tup r)) ∧ r.Ok ∧ H lr = some (.lst xs) ∧ RowsI H xs rows ∧ rows.length ≤ 100 ∧ (∀ row ∈ rows, row.length ≤ 100) ∧ wd ≠ [] ∧ wd.length ≤ 100 ∧
  ∀ H', Same H H' → Q (.bl (ownRows r wd rows)) H'
theorem ok__law_rows_right (T : Txt K mg a) : FnOk P w K mg base CX0 2 a.f__law_rows_right a.d__law_rows_right P__law_rows_right sp_law_rows_right := by
  refine T.F__law_rows_right.ok sc__law_rows_right (fun vs H Q E h => ?_) (fun cdv A outer s H vs Q E hr h => ?_)
  · obtain ⟨tp, r, wd, lr, xs, rows, rfl, _⟩ := h
    rfl
  · obtain ⟨tp, r, wd, lr, xs, rows, rfl, ht, ok, hl, hrows, hn, hl2, wne, wn, k⟩ := h
    have G__law_states := ok__law_states (P := P) (w := w) (base := base) T
    have B__law_states := bi__law_states T
    have G__law_costs := ok__law_costs (P := P) (w := w) (base := base) T
    have B__law_costs := bi__law_costs T
    refine ⟨_,
(pss_cons (ps_set (i := 3) sc__law_rows_right.nd rfl (by first | exact Or.inl rfl | exact Or.inr rfl) (pe_call G__law_states (hr.mono (by decide)) rfl T.f__law_states.g T.f__law_states.k B__law_states .nil pass0 (pa_cons (pv 0) pa_nil)))
    (pss_cons (ps_if (PW.pt (pw_or (pt_cmpR (op_neD hr.units) (pe_lc (own := [("_law_row", 4)]) (g := gName 4) (tt := tYes) rfl sc__law_rows_right.nd (pi_list (pv 2)) (blkOk_by (own := [("_law_row", 4)]) (N := N__law_rows_right) (sc := defScope st__law_rows_right) (by decide +kernel)) (fun _ _ _ _ _ => (pg_name (i := 4) sc__law_rows_right.nd rfl (by first | exact Or.inl rfl | exact Or.inr rfl))) (fun _ _ _ _ _ => pts_nil) (fun _ _ _ _ _ => (pe_callB (call_len_seqK (K := K) rfl) (by rfl) T.b_len PySem.boot_len (pa_cons (pv 4) pa_nil)))) (pe_op op_rep (pe_lst (pa_cons (pe_callB call_len_seq (by rfl) T.b_len PySem.boot_len (pa_cons (pv 3) pa_nil)) pa_nil)) (pe_op op_add (pe_callB call_len_str (by rfl) T.b_len PySem.boot_len (pa_cons (pv 1) pa_nil)) pe_int)) (nomark _)) (pw_or1 (pt_cmpR op_ne (pe_ix ix_list (pe_ix ix_list (pv 2) pe_int (fun _ _ => rfl)) pe_int (fun _ _ => rfl)) pe_int (nomark _))))) (pss_one (ps_ret pe_bl)) pss_nil)
    (pss_cons (ps_for PassesOwn.never rfl (pi_enum (by rfl) T.b_enumerate (pa_cons (pv 2) pa_nil)) (pg_tup rfl (pgs_cons (pg_name (i := 5) sc__law_rows_right.nd rfl (by first | exact Or.inl rfl | exact Or.inr rfl)) (pgs_cons (pg_name (i := 4) sc__law_rows_right.nd rfl (by first | exact Or.inl rfl | exact Or.inr rfl)) pgs_nil)))
    (pss_cons (ps_for PassesOwn.never rfl (pi_range2 rfl T.b_range (pa_cons pe_int (pa_cons (pe_callB call_len_seq (by rfl) T.b_len PySem.boot_len (pa_cons (pv 3) pa_nil)) pa_nil))) (pg_name (i := 6) sc__law_rows_right.nd rfl (by first | exact Or.inl rfl | exact Or.inr rfl))
    (pss_one (ps_if (PW.pt (pw_or (pt_cmpR op_gt (pe_ix ix_list (pv 4) (pv 6) (fun _ _ => rfl)) (pe_op op_add (pe_ix ix_list (pv 4) pe_int (fun _ _ => rfl)) pe_int) (nomark _)) (pw_or1 (pt_cmpR op_gt (pe_ix ix_list (pv 4) pe_int (fun _ _ => rfl)) (pe_op op_add (pe_ix ix_list (pv 4) (pv 6) (fun _ _ => rfl)) pe_int) (nomark _))))) (pss_one (ps_ret pe_bl)) pss_nil)))
    (pss_one (ps_for PassesOwn.never rfl (pi_enum (by rfl) T.b_enumerate (pa_cons (pv 3) pa_nil)) (pg_tup rfl (pgs_cons (pg_name (i := 6) sc__law_rows_right.nd rfl (by first | exact Or.inl rfl | exact Or.inr rfl)) (pgs_cons (pg_name (i := 7) sc__law_rows_right.nd rfl (by first | exact Or.inl rfl | exact Or.inr rfl)) pgs_nil)))
    (pss_cons (ps_set (i := 8) sc__law_rows_right.nd rfl (by first | exact Or.inl rfl | exact Or.inr rfl) (pe_ifExp (pt_cmpR op_gt (pv 5) pe_int (nomark _)) (pe_call G__law_costs (hr.mono (by decide)) rfl T.f__law_costs.g T.f__law_costs.k B__law_costs .nil pass0 (pa_cons (pv 0) (pa_cons (pv 7) (pa_cons (pe_ix ix_str (pv 1) (pe_op op_sub (pv 5) pe_int) (fun _ _ => rfl)) pa_nil)))) (pe_lst pa_nil)))
    (pss_one (ps_if (pt_val (pe_callB (cr_any rfl) (by rfl) T.b_any (by decide +kernel) (pa_cons (pe_lc (own := [("_law_more", 9)]) (g := gName 9) (tt := tYes) rfl sc__law_rows_right.nd (pi_list (pv 8)) (blkOk_by (own := [("_law_more", 9)]) (N := N__law_rows_right) (sc := defScope st__law_rows_right) (by decide +kernel)) (fun _ _ _ _ _ => (pg_name (i := 9) sc__law_rows_right.nd rfl (by first | exact Or.inl rfl | exact Or.inr rfl))) (fun _ _ _ _ _ => pts_nil) (fun _ _ _ _ _ => (pe_cmpR op_gt (pe_ix (ix_listK (K := K) rfl) (pv 4) (pv 6) (fun _ _ => rfl)) (pe_op op_add (pe_ix (ix_listK (K := K) rfl) (pe_ix (ix_listK (K := K) rfl) (pv 2) (pe_op op_sub (pv 5) pe_int) (fun _ _ => rfl)) (pv 6) (fun _ _ => rfl)) (pv 9)) (nomark _)))) pa_nil))) (pss_one (ps_ret pe_bl)) pss_nil)))))))
    (pss_one (ps_ret pe_bl)))))
      , ?_⟩
    rw [show start N__law_rows_right [V.ref tp, V.str (S wd), V.ref lr] = [some (.ref tp), some (.str (S wd)), some (.ref lr), none, none, none, none, none, none, none] from rfl]
    have hql := r.quotes_len ok
    have hsl : r.sts.length = r.quotes.length + 1 := by simp [RS.sts]
    refine tseq_split (fun σ' H' => ∃ ls, σ' = [some (.ref tp), some (.str (S wd)), some (.ref lr), some (.ref ls), none, none, none, none, none, none] ∧ Same H H' ∧ H' ls = some (.lst (r.sts.map fun s => .str (S (sT s))))) (fun N hN => ?_) ?_
    · walk_at "rd"
      exact ⟨tp, r, rfl, ht, ok, fun l H1 hl0 s1 e1 => hN _ _ ⟨l, rfl, s1, e1⟩⟩
    rintro σ1 H1 ⟨ls, rfl, s1, e1⟩
    have hl1 := s1 _ _ hl
    have rows1 := hrows.same s1
    have ek : ∀ H', Same H1 H' → ownRows r wd rows = false → Q (.bl false) H' := fun H' s h => by
      have := k H' (s1.trans s)
      rw [h] at this
      exact this
    refine tseq_split (fun σ' H' => σ' = [some (.ref tp), some (.str (S wd)), some (.ref lr), some (.ref ls), none, none, none, none, none, none] ∧ Same H1 H' ∧ rows.map List.length = List.replicate (wd.length + 1) r.sts.length ∧ gi (rowA rows 0) 0 = 0) (fun N hN => ?_) ?_
    · walk_at "rd"
      refine tlc_map rows (fun row => .int (row.length : Nat)) (J := Itl K lr) (H1 := H1) (G := fun H => SqL K H lr xs) (fun R hR => ?_) (rows1.length ▸ walk_list) (by omega) (fun H s => .inl (.inl (s _ _ hl1))) ?_ ?_
      · walk_at "rd"
        exact ⟨⟨_, .inl (.inl hl1)⟩, hR⟩
      · rintro R R' j row x H5 H5' hj s5 ⟨rfl, hx⟩ hk
        obtain ⟨l, rfl, o1⟩ := Paired.at' rows1 hj hx
        walk_at "rdh"
        refine ⟨_, .inl (.inl (.inl (s5 _ _ o1))), ?_⟩
        rw [List.length_map]
        exact hk _ (Same.refl _)
      intro D H2 hD s2 e2
      refine ⟨_, .inl (.inl (.inl (s2 _ _ e1))), ?_⟩
      walk_at "al"
      rename_i p3 hp3 H3 S3 e3
      refine ⟨line_le (by omega), by omega, by omega, line_le (by omega), ?_⟩
      walk_at "al"
      rename_i p4 hp4 H4 S4 e4
      have tm1 : tame (isD (rows.map List.length)) = true := isD_tame fun n hn' => by
        obtain ⟨row, hrow, rfl⟩ := List.mem_map.mp hn'
        have := hl2 row hrow
        omega
      have tm2 : tame (isD (List.replicate (wd.length + 1) r.sts.length)) = true := isD_tame fun n hn' => by
        rw [(List.mem_replicate.mp hn').2]; omega
      have rp : (List.replicate ((wd.length : Int) + 1).toNat [V.int ((r.sts.map fun s => V.str (S (sT s))).length : Nat)]).flatten = (List.replicate (wd.length + 1) r.sts.length).map fun n => V.int (n : Nat) := by
        rw [show ((wd.length : Int) + 1).toNat = wd.length + 1 by omega, List.length_map]
        generalize wd.length + 1 = m
        induction m with
        | zero => rfl
        | succ m ih => rw [List.replicate_succ, List.flatten_cons, ih, List.replicate_succ]; rfl
      refine ⟨_, dp_is (l := rows.map List.length) (by rw [S4 _ _ (S3 _ _ e2), List.map_map]; rfl), _, dp_is (by rw [e4, rp]), shaped_of tm1 (isD_depth _), shaped_of tm2 (isD_depth _), ?_⟩
      rw [eqv_dec tm1 tm2 isD_inj]
      have s14 := (s2.trans S3).trans S4
      refine ite2 (fun z => ek _ s14 ?_) (fun z => ?_)
      · rw [ownRows, z]; rfl
      have z : rows.map List.length = List.replicate (wd.length + 1) r.sts.length := by simpa using z
      have z0 : rows.length = wd.length + 1 := by
        have := congrArg List.length z
        simpa using this
      have e0 : rows[0]? = some (rowA rows 0) := by
        rw [rowA, List.getD_eq_getElem?_getD, List.getElem?_eq_getElem (by omega)]
        rfl
      obtain ⟨x, h1, b, rfl, h2⟩ := Paired.right (rows1.same s14) e0
      have lrow : (rowA rows 0).length = r.sts.length := by
        have := List.mem_map_of_mem (f := List.length) (List.mem_of_getElem? e0)
        rw [z] at this
        exact (List.mem_replicate.mp this).2
      refine ⟨_, .inl (.inl (s14 _ _ hl1)), _, atI_nat (j := 0) h1, b, rfl, _, .inl (.inl h2), .int (gi (rowA rows 0) 0), ?_, rfl, ite2 (fun y => ek _ s14 ?_) (fun y => hN _ _ ⟨rfl, s14, z, ?_⟩)⟩
      · refine atI_nat (j := 0) ?_
        rw [List.getElem?_map, gi_mem (by omega)]
        rfl
      · have y : ¬ gi (rowA rows 0) 0 = 0 := fun q => y (congrArg V.int q)
        rw [ownRows, decide_eq_true z, decide_eq_false y]; rfl
      · exact V.int.inj (Classical.not_not.mp y)
    rintro σ1 H2 ⟨rfl, s2, z1, z2⟩
    have z0 : rows.length = wd.length + 1 := by
      have := congrArg List.length z1
      simpa using this
    have sw : Shp r wd rows := ⟨z0, fun row hrow => by
      have := List.mem_map_of_mem (f := List.length) hrow
      rw [z1] at this
      exact (List.mem_replicate.mp this).2⟩
    have eo : ownRows r wd rows = (List.range rows.length).all (rowRightT r wd rows) := by
      rw [ownRows, decide_eq_true z1, decide_eq_true z2, Bool.true_and, Bool.true_and]
    have hl2' := s2 _ _ hl1
    have rows2 := rows1.same s2
    have e2 := s2 _ _ e1
    have ht2 := s2 _ _ (s1 _ _ ht)
    have ek2 : ∀ H' i, Same H2 H' → i < rows.length → rowRightT r wd rows i = false → Q (.bl false) H' := fun H' i s hi h => by
      refine ek H' (s2.trans s) ?_
      rw [eo]
      exact List.all_eq_false.mpr ⟨i, List.mem_range.mpr hi, by rw [h]; decide⟩
    refine tseq_split (fun σ' H' => Same H2 H' ∧ (List.range rows.length).all (rowRightT r wd rows) = true) (fun N hN => ?_) ?_
    · refine tfor_it (J := Ite K lr) (H1 := H2) (n := rows.length) (G := fun H => SqL K H lr xs) (fun R hR => ?_) (rows2.length ▸ walk_enum) (fun i σ H' => (∃ v4 v5 v6 v7 v8, σ = [some (.ref tp), some (.str (S wd)), some (.ref lr), some (.ref ls), v4, v5, v6, v7, v8, none]) ∧ Same H2 H' ∧ ∀ j < i, rowRightT r wd rows j = true) ⟨⟨_, _, _, _, _, rfl⟩, Same.refl _, fun j hj => absurd hj (Nat.not_lt_zero j)⟩ (fun _ _ _ _ h => .inl (.inl (h.2.1 _ _ hl2'))) ?_ ?_
      · walk_at "rd"
        exact ⟨⟨_, .inl (.inl hl2')⟩, hR⟩
      · rintro i x σ H3 H3' hi ⟨⟨v4, v5, v6, v7, v8, rfl⟩, s3, hall⟩ ⟨T0, x1, x2, rfl, hT0, rfl, hx1, hx2⟩
        dsimp only at hx1 hx2
        cases hx1
        have hri : rows[i]? = some (rowA rows i) := by
          rw [rowA, List.getD_eq_getElem?_getD, List.getElem?_eq_getElem hi]
          rfl
        obtain ⟨rl, rfl, r1⟩ := Paired.at' rows2 hri hx2
        have rlen := sw.l _ (List.mem_of_getElem? hri)
        have s4 := s3.trans (same_new (o := HO.tup [V.int (i : Nat), V.ref rl]) hT0)
        have e0 : upd H3 T0 (HO.tup [V.int (i : Nat), V.ref rl]) T0 = some (HO.tup [V.int (i : Nat), V.ref rl]) := upd_same
        walk_at "gt"
        generalize upd H3 T0 (HO.tup [V.int (i : Nat), V.ref rl]) = H4 at *
        refine ⟨_, .inl (.inl e0), rfl, _, _, rfl, _, _, rfl, rfl, ?_⟩
        generalize hrow : rowA rows i = row at *
        have r4 := s4 _ _ r1
        have gn : ∀ kk : Nat, kk < r.sts.length → atI (row.map V.int) (kk : Nat) = some (.int (gi row kk)) := fun kk h2 => by
          refine atI_nat ?_
          rw [List.getElem?_map, gi_mem (by omega)]
          rfl
        have g0 : atI (row.map V.int) 0 = some (.int (gi row 0)) := gn 0 (by omega)
        -- quotes begun and ended
        refine tseq_split (fun σ' H' => (∃ v6, σ' = [some (.ref tp), some (.str (S wd)), some (.ref lr), some (.ref ls), some (.ref rl), some (.int (i : Nat)), v6, v7, v8, none]) ∧ H' = H4 ∧ rowOk row = true) (fun N' hN' => ?_) ?_
        · refine tfor_it (J := Itr 1 (r.sts.length - 1)) (H1 := H4) (n := r.sts.length - 1) (G := fun _ => True) (fun R hR => ?_) walk_range (fun j σ H' => (∃ v6, σ = [some (.ref tp), some (.str (S wd)), some (.ref lr), some (.ref ls), some (.ref rl), some (.int (i : Nat)), v6, v7, v8, none]) ∧ H' = H4 ∧ ∀ kk, 1 ≤ kk → kk < j + 1 → gi row kk ≤ gi row 0 + 1 ∧ gi row 0 ≤ gi row kk + 1) ⟨⟨_, rfl⟩, rfl, fun kk h1 h2 => by omega⟩ (fun _ _ _ _ _ => trivial) ?_ ?_
          · walk_at "rd"
            refine ⟨_, .inl (.inl (.inl (s4 _ _ e2))), by decide, by decide, by omega, by rw [List.length_map]; omega, ?_⟩
            rw [List.length_map, show ((r.sts.length : Int) - 1).toNat = r.sts.length - 1 by omega]
            exact hR
          · rintro j x σ H5 H5' hj ⟨⟨v6, rfl⟩, rfl, hk⟩ ⟨rfl, rfl⟩
            have gk := gn (1 + j) (by omega)
            walk_at "rd"
            rw [show (1 : Int) + (j : Nat) = ((1 + j : Nat) : Int) by omega]
            have bad : ¬ (gi row (1 + j) ≤ gi row 0 + 1 ∧ gi row 0 ≤ gi row (1 + j) + 1) → Q (.bl false) H5' := fun h => by
              refine ek2 _ i s4 hi ?_
              rw [rowRightT, hrow]
              have : rowOk row = false := by
                rw [rowOk, Bool.not_eq_false', List.any_eq_true]
                refine ⟨gi row (1 + j), ?_, ?_⟩
                · have : row[1 + j]? = some (gi row (1 + j)) := gi_mem (by omega)
                  refine List.mem_of_getElem? (i := j) ?_
                  rw [List.getElem?_drop]
                  exact this
                · rw [Bool.or_eq_true, decide_eq_true_eq, decide_eq_true_eq]; omega
              rw [this]; rfl
            refine ⟨_, .inl (.inl r4), _, gk, _, .inl (.inl r4), _, g0, _, rfl, _, rfl, ite2 (fun z => bad (by omega)) (fun z => ?_)⟩
            refine ⟨_, .inl (.inl r4), _, g0, _, .inl (.inl r4), _, gk, _, rfl, _, rfl, ite2 (fun y => bad (by omega)) (fun y => ⟨⟨_, rfl⟩, fun kk h1 h2 => ?_⟩)⟩
            by_cases h3 : kk = 1 + j
            · subst h3; omega
            · exact hk kk h1 (by omega)
          · rintro σ H5 ⟨⟨v6, rfl⟩, rfl, hk⟩
            refine hN' _ _ ⟨⟨_, rfl⟩, rfl, ?_⟩
            rw [rowOk, Bool.not_eq_true', List.any_eq_false]
            intro m hm
            obtain ⟨j, hj, rfl⟩ := List.getElem_of_mem hm
            rw [List.length_drop] at hj
            have := hk (1 + j) (by omega) (by omega)
            have e : (row.drop 1)[j] = gi row (1 + j) := by
              rw [List.getElem_drop, gi, List.getD_eq_getElem?_getD, List.getElem?_eq_getElem (by omega)]
              rfl
            rw [e, Bool.not_eq_true, Bool.or_eq_false_iff, decide_eq_false_iff_not, decide_eq_false_iff_not]
            omega
        rintro σ2 H4 ⟨⟨v6, rfl⟩, rfl, ro⟩
        -- signs taken
        obtain ⟨cd, hcd⟩ : ∃ cd, cd = wd.getD (i - 1) 0 := ⟨_, rfl⟩
        refine tfor_it (J := Ite K ls) (H1 := H4) (n := (r.sts.map fun s => V.str (S (sT s))).length) (G := fun H => SqL K H ls (r.sts.map fun s => .str (S (sT s)))) (fun R hR => ?_) walk_enum (fun j σ H' => (∃ v6 v7 v8, σ = [some (.ref tp), some (.str (S wd)), some (.ref lr), some (.ref ls), some (.ref rl), some (.int (i : Nat)), v6, v7, v8, none]) ∧ Same H4 H' ∧ (i ≠ 0 → ∀ kk < j, stOk r (rowA rows (i - 1)) row cd kk = true)) ⟨⟨_, _, _, rfl⟩, Same.refl _, fun _ kk hk => absurd hk (Nat.not_lt_zero kk)⟩ (fun _ _ _ _ h => .inl (.inl (h.2.1 _ _ (s4 _ _ e2)))) ?_ ?_
        · walk_at "rd"
          exact ⟨⟨_, .inl (.inl (s4 _ _ e2))⟩, hR⟩
        · rintro j x σ H5 H5' hj ⟨⟨v6, v7, v8, rfl⟩, s5, hk⟩ ⟨T1, x1, x2, rfl, hT1, rfl, hx1, hx2'⟩
          dsimp only at hx1 hx2'
          rw [List.length_map] at hj
          rw [List.getElem?_map, List.getElem?_eq_getElem hj] at hx2'
          cases hx1
          cases hx2'
          have est : r.sts.getD j none = r.sts[j] := by rw [List.getD_eq_getElem?_getD, List.getElem?_eq_getElem hj]; rfl
          have smem : r.sts[j] ∈ r.sts := List.getElem_mem _
          generalize r.sts[j] = so at *
          have s6 := s5.trans (same_new (o := HO.tup [V.int (j : Nat), V.str (S (sT so))]) hT1)
          have e1' : upd H5 T1 (HO.tup [V.int (j : Nat), V.str (S (sT so))]) T1 = some (HO.tup [V.int (j : Nat), V.str (S (sT so))]) := upd_same
          walk_at "gt"
          generalize upd H5 T1 (HO.tup [V.int (j : Nat), V.str (S (sT so))]) = H6 at *
          refine ⟨_, .inl (.inl e1'), rfl, _, _, rfl, _, _, rfl, rfl, ?_⟩
          have s46 := s4.trans s6
          refine tseq_split (fun σ' H' => ∃ cl, σ' = [some (.ref tp), some (.str (S wd)), some (.ref lr), some (.ref ls), some (.ref rl), some (.int (i : Nat)), some (.int (j : Nat)), some (.str (S (sT so))), some (.ref cl), none] ∧ Same H6 H' ∧ H' cl = some (.lst ((if i = 0 then [] else costsT r so cd).map fun n => .int (n : Nat)))) (fun N' hN' => ?_) ?_
          · walk_at "rd"
            by_cases i0 : i = 0
            · refine ite2 (fun z => absurd z (by omega)) (fun _ cl hcl => hN' _ _ ⟨cl, rfl, same_new hcl, ?_⟩)
              rw [upd_same, if_pos i0]
              rfl
            · refine ite2 (fun _ => ?_) (fun z => absurd (show (0 : Int) < i by omega) z)
              have ew : atI wd ((i : Int) - 1) = some cd := by
                rw [show (i : Int) - 1 = ((i - 1 : Nat) : Int) by omega, hcd]
                refine atI_nat ?_
                rw [List.getD_eq_getElem?_getD, List.getElem?_eq_getElem (by omega)]
                rfl
              refine ⟨line_le (by omega), _, ew, tp, r, so, cd, rfl, s46 _ _ ht2, ok, fun cl H7 hcl s7 e7 => hN' _ _ ⟨cl, rfl, s7, ?_⟩⟩
              rw [e7, if_neg i0]
          rintro σ2 H7 ⟨cl, rfl, s7, e7⟩
          have s47 := s46.trans s7
          walk_at "rd"
          have r7 := s47 _ _ r1
          have l7 := s47 _ _ hl2'
          have rows7 := rows2.same s47
          generalize hcs : (if i = 0 then [] else costsT r so cd) = cs at *
          have csl : cs.length ≤ 2 := by
            rw [← hcs]
            split
            · simp
            · rw [costsT, List.length_append]
              have h1 := selfC_len r so cd
              have h2 : (bentC r so).length ≤ 1 := by unfold bentC; split <;> simp
              omega
          have prev : i ≠ 0 → ∃ b, atI xs ((i - 1 : Nat) : Int) = some (.ref b) ∧ H7 b = some (.lst ((rowA rows (i - 1)).map V.int)) ∧ (rowA rows (i - 1)).length = r.sts.length := fun i0 => by
            have e : rows[i - 1]? = some (rowA rows (i - 1)) := by
              rw [rowA, List.getD_eq_getElem?_getD, List.getElem?_eq_getElem (by omega)]
              rfl
            obtain ⟨x, h1, b, rfl, h2⟩ := Paired.right rows7 e
            exact ⟨b, atI_nat h1, h2, sw.l _ (List.mem_of_getElem? e)⟩
          refine tlc_map cs (fun m => .bl (decide (gi row j > gi (rowA rows (i - 1)) j + (m : Nat)))) (J := Itl K cl) (H1 := H7) (G := fun H => SqL K H cl (cs.map fun n => V.int (n : Nat))) (fun R hR => ?_) (List.length_map (as := cs) (fun n => V.int (n : Nat)) ▸ walk_list) (by omega) (fun H s => .inl (.inl (s _ _ e7))) ?_ ?_
          · walk_at "rd"
            exact ⟨⟨_, .inl (.inl e7)⟩, hR⟩
          · rintro R R' jj m x H8 H8' hjj s8 ⟨rfl, hx⟩ hk8
            rw [List.getElem?_map, hjj] at hx
            cases hx
            have i0 : i ≠ 0 := fun z => by
              rw [if_pos z] at hcs
              rw [← hcs] at hjj
              cases hjj
            obtain ⟨b, b1, b2, b3⟩ := prev i0
            have gp : atI ((rowA rows (i - 1)).map V.int) (j : Nat) = some (.int (gi (rowA rows (i - 1)) j)) := by
              refine atI_nat ?_
              rw [List.getElem?_map, gi_mem (by omega)]
              rfl
            walk_at "rd"
            rw [show (i : Int) - 1 = ((i - 1 : Nat) : Int) by omega]
            refine ⟨_, .inl (.inl (s8 _ _ r7)), _, gn j hj, _, .inl (.inl (s8 _ _ l7)), _, b1, b, rfl, _, .inl (.inl (s8 _ _ b2)), _, gp, _, rfl, _, rfl, hk8 _ (Same.refl _)⟩
          intro D H8 hD s8 e8
          have cl2 := costs_le ok smem cd (gi row j) (gi (rowA rows (i - 1)) j)
          have stE : stOk r (rowA rows (i - 1)) row cd j = true ↔ ∀ m ∈ costsT r so cd, gi row j ≤ gi (rowA rows (i - 1)) j + (m : Nat) := by
            rw [cl2, stOk, est]
            cases costT r so cd with
            | none => simp
            | some n => simp
          refine ⟨D, rfl, cs.map fun m => decide (gi row j > gi (rowA rows (i - 1)) j + (m : Nat)), .inl (.inl (by rw [e8, List.map_map]; rfl)), ?_⟩
          rw [List.any_map]
          refine ite2 (fun z => ?_) (fun z => ⟨⟨_, rfl⟩, (s6.trans s7).trans s8, fun i0 kk hkk => ?_⟩)
          · obtain ⟨m, hm, hm2⟩ := List.any_eq_true.mp z
            have hm2 : gi row j > gi (rowA rows (i - 1)) j + (m : Nat) := of_decide_eq_true hm2
            have i0 : i ≠ 0 := fun z => by
              rw [if_pos z] at hcs
              rw [← hcs] at hm
              cases hm
            rw [if_neg i0] at hcs
            refine ek2 _ i (s47.trans s8) hi ?_
            have bad : stOk r (rowA rows (i - 1)) row cd j = false := by
              refine Bool.eq_false_iff.mpr fun y => ?_
              have := stE.mp y m (by rw [hcs]; exact hm)
              omega
            rw [rowRightT, hrow, ← hcd, decide_eq_false i0, Bool.false_or, stepOk, List.all_eq_false.mpr ⟨j, List.mem_range.mpr hj, by rw [bad]; decide⟩, Bool.and_false]
          · by_cases h3 : kk = j
            · subst h3
              rw [if_neg i0] at hcs
              refine stE.mpr fun m hm => ?_
              rw [hcs] at hm
              have := List.any_eq_false.mp (Bool.eq_false_iff.mpr z) m hm
              have : ¬ (gi row kk > gi (rowA rows (i - 1)) kk + (m : Nat)) := by simpa using this
              omega
            · exact hk i0 kk (by omega)
        · rintro σ H5 ⟨⟨v6, v7, v8, rfl⟩, s5, hk⟩
          refine ⟨⟨_, _, _, _, _, rfl⟩, s4.trans s5, fun jj hjj => ?_⟩
          by_cases h3 : jj = i
          · subst h3
            rw [rowRightT, hrow, ro, Bool.true_and, ← hcd, Bool.or_eq_true]
            by_cases i0 : jj = 0
            · exact .inl (decide_eq_true i0)
            · refine .inr (List.all_eq_true.mpr fun kk hkk => hk i0 kk ?_)
              rw [List.length_map]
              exact List.mem_range.mp hkk
          · exact hall jj (by omega)
      · rintro σ H3 ⟨_, s3, hall⟩
        exact hN _ _ ⟨s3, List.all_eq_true.mpr fun j hj => hall j (List.mem_range.mp hj)⟩
    rintro σ1 H3 ⟨s3, hall⟩
    walk_at "rd"
    have k := k H3 ((s1.trans s2).trans s3)
    rw [eo, hall] at k
    exact k
end
end Qw

set_option Elab.async false
set_option linter.all false
set_option maxRecDepth 100000
set_option maxHeartbeats 4000000
namespace Qw
open PySem L2
local macro_rules | `(tactic| walk_at "rd") => `(tactic| simp only [iEnum, iRng3, tRevL, rSlS, rSlL, gSub, rSetL, wipe, List.map_cons, List.map_nil, rAll, rAny, rIsi, tM1, tM0, iZipLT, iZip, iRng2, tLenSetS, rListStr, rMulS, rRep, rCntB, tRevS, rNeD, rEqD, tSeq, tNext, tAsg, tRet, tRetN, tDrop, tIfS, sFld, sFldAug, tVar, tC, tOp, tUn, tTest, tB, tAnd, tOr, tNot, tAndV, tOrV, tNotV, tIf, tTup, tLst, tCons, tNil, tCB, tCall, tMeth, tMake, tFld, rI, rI0, rU, rEq, rNe, rCat, gName, gTup, gCons, gNil, tPar, tPar3, tBM, tBM0, rAppend, rExtend, rPopAt, rIxL, rIxT, rIxS, tSl, rSlS, rSlL, tPart, tNoPart, iStr, iTup, iList, iRng1, tAug, ipI, L2.rAdd, L2.rSub, L2.rAddS, tChain, rIsB, rNotB, scal_ss, scal_ii, scal_bb, scal_nn, scal_in, scal_ni, tYes,
  cx_K, cx_N, List.getElem?_cons_zero, List.getElem?_cons_succ, List.set_cons_zero, List.set_cons_succ, List.nil_append, List.cons_append, List.append_nil, List.length_cons, List.length_nil, Nat.zero_add,
  Option.some.injEq, V.ref.injEq, V.int.injEq, V.str.injEq, V.bl.injEq, HO.ins.injEq, HO.lst.injEq, HO.tup.injEq, List.cons.injEq, exists_eq_left, exists_eq_left', exists_eq_right, exists_eq_right', and_true, true_and, exists_and_left, exists_and_right, and_assoc, decide_eq_true_eq, Bool.not_eq_true', decide_eq_false_iff_not, reduceCtorEq, exists_const, forall_const, if_true, if_false, false_and, and_false, ite_true, ite_false, Bool.true_eq_false, Bool.false_eq_true, Nat.reduceLeDiff, Nat.reduceAdd, small_line, small_lt, upd_ne, ne_eq, not_false_eq_true, Nat.zero_le, Prod.mk.injEq, upd_same, upd_upd, S_tl, S_len, S_app, S_one, S_inj,
  lk_breaks, lk_hard, lk_soft, lk_bend, lk_note, lk_rules, lk_state, lk_bent, lk_word, lk_begun, lk_opened, lk_place, pt_state, pt_bent, pt_word, pt_wordS, pt_wordN, pt_begun, pt_opened, pt_place, pt_place1, len_mf, litv_empty, litv_note, litv_nl, mf_inj, rf_inj, lkn_begin, lkn_ended, lkn_plain, lkn_quoted, lkn_step, lkn_fault, lkn_key, lkn_told, lkn_quotes, lkn_special, pt_open1, not_true_eq_false, not_false_eq_true])
local macro_rules | `(tactic| walk_at "rdh") => `(tactic| simp only [iEnum, iRng3, tRevL, rSlS, rSlL, gSub, rSetL, wipe, List.map_cons, List.map_nil, rAll, rAny, rIsi, tM1, tM0, iZipLT, iZip, iRng2, tLenSetS, rListStr, rMulS, rRep, rCntB, tRevS, rNeD, rEqD, tSeq, tNext, tAsg, tRet, tRetN, tDrop, tIfS, sFld, sFldAug, tVar, tC, tOp, tUn, tTest, tB, tAnd, tOr, tNot, tAndV, tOrV, tNotV, tIf, tTup, tLst, tCons, tNil, tCB, tCall, tMeth, tMake, tFld, rI, rI0, rU, rEq, rNe, rCat, gName, gTup, gCons, gNil, tPar, tPar3, tBM, tBM0, rAppend, rExtend, rPopAt, rIxL, rIxT, rIxS, tSl, rSlS, rSlL, tPart, tNoPart, iStr, iTup, iList, iRng1, tAug, ipI, L2.rAdd, L2.rSub, L2.rAddS, tChain, rIsB, rNotB, scal_ss, scal_ii, scal_bb, scal_nn, scal_in, scal_ni, tYes,
  cx_K, cx_N, List.getElem?_cons_zero, List.getElem?_cons_succ, List.set_cons_zero, List.set_cons_succ, List.nil_append, List.cons_append, List.append_nil, List.length_cons, List.length_nil, Nat.zero_add,
  Option.some.injEq, V.ref.injEq, V.int.injEq, V.str.injEq, V.bl.injEq, HO.ins.injEq, HO.lst.injEq, HO.tup.injEq, List.cons.injEq, exists_eq_left, exists_eq_left', exists_eq_right, exists_eq_right', and_true, true_and, exists_and_left, exists_and_right, and_assoc, decide_eq_true_eq, Bool.not_eq_true', decide_eq_false_iff_not, reduceCtorEq, exists_const, forall_const, if_true, if_false, false_and, and_false, ite_true, ite_false, Bool.true_eq_false, Bool.false_eq_true, Nat.reduceLeDiff, Nat.reduceAdd, small_line, small_lt, upd_ne, ne_eq, not_false_eq_true, Nat.zero_le, Prod.mk.injEq, upd_same, upd_upd, S_tl, S_len, S_app, S_one, S_inj,
  lk_breaks, lk_hard, lk_soft, lk_bend, lk_note, lk_rules, lk_state, lk_bent, lk_word, lk_begun, lk_opened, lk_place, pt_state, pt_bent, pt_word, pt_wordS, pt_wordN, pt_begun, pt_opened, pt_place, pt_place1, len_mf, litv_empty, litv_note, litv_nl, mf_inj, rf_inj, lkn_begin, lkn_ended, lkn_plain, lkn_quoted, lkn_step, lkn_fault, lkn_key, lkn_told, lkn_quotes, lkn_special, pt_open1, not_true_eq_false, not_false_eq_true, *])
local macro_rules | `(tactic| walk_at "pl") => `(tactic| (first | decide | (refine Nat.lt_of_le_of_lt (length_putF _ _ _) ?_; repeat (first | decide | refine pl2 ?_))))
local macro_rules | `(tactic| walk_at "al") => `(tactic| (intro p hp; generalize hH : upd _ p _ = H1; obtain ⟨S, e⟩ := gen_new hH hp; clear hH))
local macro_rules | `(tactic| walk_at "gt") => `(tactic| simp only [gTup, gCons, gNil, gName, List.set_cons_zero, List.set_cons_succ, Option.some.injEq, V.ref.injEq, V.int.injEq, V.str.injEq, HO.tup.injEq, List.cons.injEq, exists_eq_left, exists_eq_left', exists_eq_right, exists_eq_right', and_true, true_and, exists_and_left, exists_and_right, and_assoc, reduceCtorEq, exists_const])
/-! ### the law's own look at a writing -/
def rowsD (rows : List (List Int)) : PyData := .list (rows.map fun row => .list (row.map .int))
def hsD (hs : List (List (List Int))) : PyData := .list (hs.map rowsD)
def SmI (rows : List (List Int)) : Prop := ∀ row ∈ rows, ∀ x ∈ row, x.natAbs < 1000000
theorem rowsD_inj {x y : List (List Int)} : rowsD x = rowsD y ↔ x = y := by
  simp only [rowsD, PyData.list.injEq]
  exact map_inj fun {a b} => by
    rw [PyData.list.injEq]
    exact map_inj fun {a b} => by rw [PyData.int.injEq]
theorem hsD_inj {x y : List (List (List Int))} : hsD x = hsD y ↔ x = y := by
  simp only [hsD, PyData.list.injEq]
  exact map_inj rowsD_inj
theorem rowsD_tame {rows : List (List Int)} (h : SmI rows) : tame (rowsD rows) = true := by
  simp only [rowsD, tame, tameAll_iff, List.mem_map]
  rintro _ ⟨row, hrow, rfl⟩
  simp only [tame, tameAll_iff, List.mem_map]
  rintro _ ⟨x, hx, rfl⟩
  have := h row hrow x hx
  simp only [tame, decide_eq_true_eq]
  omega
theorem hsD_tame {hs : List (List (List Int))} (h : ∀ rows ∈ hs, SmI rows) : tame (hsD hs) = true := by
  simp only [hsD, tame, tameAll_iff, List.mem_map]
  rintro _ ⟨rows, hrows, rfl⟩
  exact rowsD_tame (h rows hrows)
theorem rowsD_depth (rows : List (List Int)) : (rowsD rows).depth ≤ 2 := by
  simp only [rowsD, PyData.depth]
  refine Nat.succ_le_succ (depthAll_le (n := 1) fun y hy => ?_)
  obtain ⟨row, _, rfl⟩ := List.mem_map.mp hy
  simp only [PyData.depth]
  refine Nat.succ_le_succ (depthAll_le (n := 0) fun y hy => ?_)
  obtain ⟨x, _, rfl⟩ := List.mem_map.mp hy
  simp [PyData.depth]
theorem hsD_depth (hs : List (List (List Int))) : (hsD hs).depth ≤ 3 := by
  simp only [hsD, PyData.depth]
  refine Nat.succ_le_succ (depthAll_le (n := 2) fun y hy => ?_)
  obtain ⟨rows, _, rfl⟩ := List.mem_map.mp hy
  exact rowsD_depth rows
theorem dp_row {K : PySem.W.Frag} {H : Hp} {v : V} {row : List Int} (h : RowI H v row) : Dp K H v (.list (row.map .int)) := by
  obtain ⟨l, rfl, h⟩ := h
  exact .lst (.inl (.inl h)) (dpAll_map row fun _ _ => .int _)
theorem dp_rows {K : PySem.W.Frag} {H : Hp} {v : V} {rows : List (List Int)} (h : HtI H v rows) : Dp K H v (rowsD rows) := by
  obtain ⟨l, xs, rfl, h1, h2⟩ := h
  exact .lst (.inl (.inl h1)) (dpAll_paired (fun _ _ z => dp_row z) h2)
theorem dp_hs {K : PySem.W.Frag} {H : Hp} {l : Addr} {xs : List V} {hs : List (List (List Int))} (h : H l = some (.lst xs)) (p : Paired (HtI H) xs hs) : Dp K H (.ref l) (hsD hs) := .lst (.inl (.inl h)) (dpAll_paired (fun _ _ z => dp_rows z) p)
def pairOk (r : RS) (z : List (List Int) × Tx) : Bool := if z.2 = [] then decide (z.1 = []) else ownRows r z.2 z.1
theorem pair_own (r : RS) (z : List (List Int) × Tx) : pairOk r z = (decide (z.1.map List.length = dueT r z.2) && wordOk r z) := by
  obtain ⟨rows, w⟩ := z
  unfold pairOk wordOk dueT ownRows
  by_cases e : w = []
  · simp [e]
  · simp [e]
theorem all_and {α : Type} (f g : α → Bool) : ∀ l : List α, (l.all fun z => f z && g z) = (l.all f && l.all g)
  | [] => rfl
  | x :: l => by
    rw [List.all_cons, List.all_cons, List.all_cons, all_and f g l]
    cases f x <;> cases g x <;> cases l.all f <;> cases l.all g <;> rfl
theorem shows_own2 (r : RS) (t : Tx) (hs : List (List (List Int))) (ws : List Tx) (rp : Addr) {ds : List W3} (h : readAll r t rp = .ok ds) :
    showsT r t hs ws rp = (decide (ds.map (·.1) = ws) && (decide (hs.length = ws.length) && ((hs.zip ws).all (pairOk r) && decide (((ws.length - 1 : Nat) : Int) + totI (hs.zip ws) = t.length)))) := by
  have e : (hs.zip ws).all (pairOk r) = ((hs.zip ws).all (fun z => decide (z.1.map List.length = dueT r z.2)) && (hs.zip ws).all (wordOk r)) := by
    rw [← all_and]
    exact congrArg _ (funext fun z => pair_own r z)
  rw [showsT, h, e]
  dsimp only
  rw [shapedT]
  cases decide (ds.map (·.1) = ws) <;> cases decide (hs.length = ws.length) <;> simp [Bool.and_assoc]
section
variable {P : Program} {w : World} {K : PySem.W.Frag} {mg : Str → Option Value} {base : Heap} {a : Ad}
def sp_law_due : Sp := fun vs H Q _ => ∃ tp r wl ws t lh xs hs rp, vs = [.ref tp, .ref wl, .str (S t), .ref lh] ∧ H tp = some (.tup (RS.tup r)) ∧ r.Ok ∧ H wl = some (.lst (ws.map fun w => .str (S w))) ∧ WsB ws ∧ t.length ≤ 1000 ∧ ok8 t ∧ H lh = some (.lst xs) ∧ Paired (HtI H) xs hs ∧ HsB hs ∧ (∀ rows ∈ hs, SmI rows) ∧
  ∀ H', Same H H' → Q (.bl (showsT r t hs ws rp)) H'
theorem ok__law_due (T : Txt K mg a) : FnOk P w K mg base CX0 4 a.f__law_due a.d__law_due P__law_due sp_law_due := by
  refine T.F__law_due.ok sc__law_due (fun vs H Q E h => ?_) (fun cdv A outer s H vs Q E hr h => ?_)
  · obtain ⟨tp, r, wl, ws, t, lh, xs, hs, rp, rfl, _⟩ := h
    rfl
  · obtain ⟨tp, r, wl, ws, t, lh, xs, hs, rp, rfl, ht, ok, hw, wb, tl, t8, hl, hh, hb, hsm, k⟩ := h
    have G__law_read := ok__law_read (P := P) (w := w) (base := base) T
    have B__law_read := bi__law_read T
    have G__law_rows_right := ok__law_rows_right (P := P) (w := w) (base := base) T
    have B__law_rows_right := bi__law_rows_right T
    refine ⟨_,
(pss_cons (ps_set (i := 4) sc__law_due.nd rfl (by first | exact Or.inl rfl | exact Or.inr rfl) (pe_call G__law_read (hr.mono (by decide)) rfl T.f__law_read.g T.f__law_read.k B__law_read .nil pass0 (pa_cons (pv 0) (pa_cons (pv 2) pa_nil))))
    (pss_cons (ps_if (PW.pt (pw_or (pt_not (pt_val (pe_callB (call_isi) (by rfl) T.b_isinstance (by decide +kernel) (pa_cons (pv 4) (pa_cons (pe_bltn (v := .ty "tuple") (u := .type "tuple") rfl T.b_tuple (by decide +kernel) rfl) pa_nil))))) (pw_or (pt_cmpR (op_neD hr.units) (pe_ix ix_tup (pv 4) pe_int (fun _ _ => rfl)) (pv 1) (nomark _)) (pw_or1 (pt_cmpR op_ne (pe_callB call_len_seq (by rfl) T.b_len PySem.boot_len (pa_cons (pv 3) pa_nil)) (pe_callB call_len_seq (by rfl) T.b_len PySem.boot_len (pa_cons (pv 1) pa_nil)) (nomark _)))))) (pss_one (ps_ret pe_bl)) pss_nil)
    (pss_cons (ps_set (i := 5) sc__law_due.nd rfl (by first | exact Or.inl rfl | exact Or.inr rfl) (pe_callB ((call_max2 rfl)) (by rfl) T.b_max (by decide +kernel) (pa_cons pe_int (pa_cons (pe_op op_sub (pe_callB call_len_seq (by rfl) T.b_len PySem.boot_len (pa_cons (pv 1) pa_nil)) pe_int) pa_nil))))
    (pss_cons (ps_for PassesOwn.never rfl (pi_zip (by rfl) T.b_zip (pa_cons (pv 1) (pa_cons (pv 3) pa_nil))) (pg_tup rfl (pgs_cons (pg_name (i := 6) sc__law_due.nd rfl (by first | exact Or.inl rfl | exact Or.inr rfl)) (pgs_cons (pg_name (i := 7) sc__law_due.nd rfl (by first | exact Or.inl rfl | exact Or.inr rfl)) pgs_nil)))
    (pss_cons (ps_if (PW.pt (pw_or (PW.pt (pw_and (pt_cmpR op_eq (pv 6) pe_str (nomark _)) (pw_and1 (pt_cmpR (op_neD hr.units) (pv 7) (pe_lst pa_nil) (nomark _))))) (pw_or1 (PW.pt (pw_and (pt_cmpR op_ne (pv 6) pe_str (nomark _)) (pw_and1 (pt_not (pt_val (pe_call G__law_rows_right (hr.mono (by decide)) rfl T.f__law_rows_right.g T.f__law_rows_right.k B__law_rows_right .nil pass0 (pa_cons (pv 0) (pa_cons (pv 6) (pa_cons (pv 7) pa_nil)))))))))))) (pss_one (ps_ret pe_bl)) pss_nil)
    (pss_one (ps_set (i := 5) sc__law_due.nd rfl (by first | exact Or.inl rfl | exact Or.inr rfl) (pe_op op_add (pv 5) (pe_ifExp (pt_cmpR op_ne (pv 6) pe_str (nomark _)) (pe_ix ix_list (pe_ix ix_list (pv 7) (pe_un un_neg pe_int) (fun _ _ => rfl)) pe_int (fun _ _ => rfl)) pe_int))))))
    (pss_one (ps_ret (pe_cmpR op_eq (pv 5) (pe_callB call_len_str (by rfl) T.b_len PySem.boot_len (pa_cons (pv 2) pa_nil)) (nomark _))))))))
      , ?_⟩
    rw [show start N__law_due [V.ref tp, V.ref wl, V.str (S t), V.ref lh] = [some (.ref tp), some (.ref wl), some (.str (S t)), some (.ref lh), none, none, none, none] from rfl]
    have lx := hh.length
    have hbn := hb.n
    have wbn := wb.n
    refine tseq_split (fun σ' H' => ∃ v, σ' = [some (.ref tp), some (.ref wl), some (.str (S t)), some (.ref lh), some v, none, none, none] ∧ Same H H' ∧ LRes H H' v (readAll r t rp)) (fun N hN => ?_) ?_
    · walk_at "rd"
      exact ⟨tp, r, t, rfl, ht, ok, tl, fun v H1 s1 lr => hN _ _ ⟨v, rfl, s1, by rw [readAll_lr ok]; exact lr⟩⟩
    rintro σ1 H1 ⟨v, rfl, s1, lr⟩
    have bd := readAll_bd r t rp
    cases hd : readAll r t rp with
    | error n =>
      rw [hd] at lr
      have lr : v = .int n := lr
      subst lr
      have k := k H1 s1
      rw [showsT, hd] at k
      walk_at "rd"
      refine ⟨_, _, .ty _, .base (.int _), _, kit_ty (b := "tuple") (r := false) (by decide +kernel), ?_⟩
      exact ite2 (fun _ => k) (fun z => absurd rfl z)
    | ok ds =>
    rw [hd] at lr bd
    obtain ⟨tv, l1, l2, ys, rfl, n1, n2, n3, n4, r1, r2, r3, r4⟩ := lr
    rw [shows_own2 r t hs ws rp hd] at k
    walk_at "rd"
    have tm1 : tame (wsD (ds.map (·.1))) = true := wsD_tame fun u hu => by
      obtain ⟨d, hd2, rfl⟩ := List.mem_map.mp hu
      exact fun c hc => t8 c ((bd.2 d hd2).1 c hc)
    have tm2 : tame (wsD ws) = true := wsD_tame wb.o
    have dd : ∀ ws : List Tx, (wsD ws).depth ≤ 32 := fun ws => Nat.le_trans (wsD_depth _) (by decide)
    have r2 : H1 l1 = some (.lst ((ds.map fun d => d.1).map fun w => V.str (S w))) := r2
    have hw1 := s1 _ _ hw
    have hl1 := s1 _ _ hl
    have hh1 := Paired.mapP hh fun _ _ z => z.same s1
    refine ⟨_, _, .ty _, .base (.tup r1), _, kit_ty (b := "tuple") (r := true) (by decide +kernel), ite2 (fun z => by cases z) (fun _ => ?_)⟩
    refine ⟨_, .inl (.inl r1), .ref l1, rfl, _, dp_ws (ws := ds.map (·.1)) (.inl (.inl r2)), _, dp_ws (.inl (.inl hw1)), shaped_of tm1 (dd _), shaped_of tm2 (dd _), ?_⟩
    rw [eqv_dec tm1 tm2 wsD_inj]
    refine ite2 (fun z => ?_) (fun z => ?_)
    · have k := k H1 s1
      rw [z] at k
      exact k
    have z : decide (ds.map (·.1) = ws) = true := by simpa using z
    rw [z, Bool.true_and] at k
    refine ⟨_, .inl (.inl (.inl hl1)), _, .inl (.inl (.inl hw1)), ?_⟩
    rw [List.length_map]
    refine ite2 (fun z2 => ?_) (fun z2 => ?_)
    · have k := k H1 s1
      rw [decide_eq_false (by omega)] at k
      exact k
    have lhw : hs.length = ws.length := by omega
    rw [decide_eq_true lhw, Bool.true_and] at k
    refine ⟨_, .inl (.inl (.inl hw1)), ?_⟩
    have lz : (hs.zip ws).length = ws.length := by rw [List.length_zip, lhw, Nat.min_self]
    have et : (if ((ws.map fun w => V.str (S w)).length : Int) - 1 > 0 then ((ws.map fun w => V.str (S w)).length : Int) - 1 else 0) = ((ws.length - 1 : Nat) : Int) := by
      rw [List.length_map]; split <;> omega
    rw [et]
    refine tfor_it (J := Itz K wl lh) (H1 := H1) (n := ws.length) (G := fun H => SqL K H wl (ws.map fun w => .str (S w)) ∧ SqL K H lh xs) (fun R hR => ?_) (walk_zip (by rw [List.length_map, lx, lhw, Nat.min_self])) (fun i σ H' => (∃ v6 v7, σ = [some (.ref tp), some (.ref wl), some (.str (S t)), some (.ref lh), some (.ref tv), some (.int (((ws.length - 1 : Nat) : Int) + totI ((hs.zip ws).take i))), v6, v7]) ∧ Same H1 H' ∧ ((hs.zip ws).take i).all (pairOk r) = true) ⟨⟨_, _, by rw [List.take_zero]; rfl⟩, Same.refl _, by rw [List.take_zero]; rfl⟩ (fun _ _ _ _ h => ⟨.inl (.inl (h.2.1 _ _ hw1)), .inl (.inl (h.2.1 _ _ hl1))⟩) ?_ ?_
    · walk_at "rd"
      exact ⟨⟨_, .inl (.inl hw1)⟩, ⟨_, .inl (.inl hl1)⟩, hR⟩
    · rintro i x σ H2 H2' hi ⟨⟨v6, v7, rfl⟩, s2, hall⟩ ⟨T0, x1, x2, rfl, hT0, rfl, hx1, hx2⟩
      dsimp only at hx1 hx2
      have hhi : hs[i]? = some hs[i] := List.getElem?_eq_getElem (by omega)
      have hwi : ws[i]? = some ws[i] := List.getElem?_eq_getElem hi
      rw [List.getElem?_map, hwi] at hx1
      cases hx1
      obtain ⟨lr, ys', rfl, q1, q2⟩ := Paired.at' hh1 hhi hx2
      have hzi : (hs.zip ws)[i]? = some (hs[i], ws[i]) := List.getElem?_zip_eq_some.mpr ⟨hhi, hwi⟩
      have hm := hb.m hs[i] (List.getElem_mem _)
      have hlr := hb.l hs[i] (List.getElem_mem _)
      have wm := wb.m ws[i] (List.getElem_mem _)
      have sm := hsm hs[i] (List.getElem_mem _)
      generalize hs[i] = rows at *
      generalize ws[i] = wd at *
      have s2' := s2.trans (same_new (o := HO.tup [V.str (S wd), V.ref lr]) hT0)
      have e0 : upd H2 T0 (HO.tup [V.str (S wd), V.ref lr]) T0 = some (HO.tup [V.str (S wd), V.ref lr]) := upd_same
      walk_at "gt"
      generalize upd H2 T0 (HO.tup [V.str (S wd), V.ref lr]) = H3 at *
      refine ⟨_, .inl (.inl e0), rfl, _, _, rfl, _, _, rfl, rfl, ?_⟩
      have q1' := s2' _ _ q1
      have q2' := q2.same s2'
      have bad : ∀ H', Same H3 H' → pairOk r (rows, wd) = false → Q (.bl false) H' := fun H' s h => by
        have k := k H' ((s1.trans s2').trans s)
        have e : (hs.zip ws).all (pairOk r) = false := List.all_eq_false.mpr ⟨_, List.mem_of_getElem? hzi, by rw [h]; decide⟩
        rw [e] at k
        exact k
      refine tseq_split (fun σ' H' => σ' = [some (.ref tp), some (.ref wl), some (.str (S t)), some (.ref lh), some (.ref tv), some (.int (((ws.length - 1 : Nat) : Int) + totI ((hs.zip ws).take i))), some (.str (S wd)), some (.ref lr)] ∧ Same H3 H' ∧ pairOk r (rows, wd) = true) (fun N hN => ?_) ?_
      · walk_at "rd"
        by_cases e : wd = []
        · subst e
          have tmr := rowsD_tame sm
          have tm0 : tame (rowsD []) = true := rfl
          refine ite2 (fun _ => ?_) (fun z => absurd rfl z)
          walk_at "al"
          rename_i p4 hp4 H4 S4 e4
          refine ⟨_, dp_rows (rows := rows) ⟨lr, ys', rfl, S4 _ _ q1', q2'.same S4⟩, _, dp_rows (rows := []) ⟨p4, [], rfl, e4, .nil⟩, shaped_of tmr (Nat.le_trans (rowsD_depth _) (by decide)), shaped_of tm0 (by decide), ?_⟩
          rw [eqv_dec tmr tm0 rowsD_inj]
          refine ite2 (fun z => bad _ S4 ?_) (fun z => ?_)
          · rw [pairOk, if_pos rfl]; exact z
          · refine ite2 (fun z => absurd rfl z) (fun _ => hN _ _ ⟨rfl, S4, ?_⟩)
            rw [pairOk, if_pos rfl]; simpa using z
        · refine ite2 (fun z => absurd z e) (fun _ => ?_)
          refine ite2 (fun _ => ?_) (fun z => absurd e z)
          refine ⟨tp, r, wd, lr, ys', rows, rfl, s2' _ _ (s1 _ _ ht), ok, q1', q2', hm, hlr, e, wm, fun H4 s4 => ⟨_, rfl, ?_⟩⟩
          refine ite2 (fun z => bad _ s4 ?_) (fun z => hN _ _ ⟨rfl, s4, ?_⟩)
          · rw [pairOk, if_neg e]; exact z
          · rw [pairOk, if_neg e]; simpa using z
      rintro σ2 H4 ⟨rfl, s4, pk⟩
      have q1'' := s4 _ _ q1'
      walk_at "rd"
      have tot : totI ((hs.zip ws).take (i + 1)) = totI ((hs.zip ws).take i) + wordTot (rows, wd) := by
        rw [totI, totI, take_at hzi, List.map_append, List.sum_append]
        simp
      have alw : ((hs.zip ws).take (i + 1)).all (pairOk r) = true := by
        rw [take_at hzi, List.all_append, hall]
        simp [pk]
      refine ite2 (fun z => ?_) (fun z => ?_)
      · rw [pairOk, if_neg z] at pk
        rw [ownRows, Bool.and_eq_true, decide_eq_true_eq] at pk
        have z1 := pk.1
        have hn : rows.length = wd.length + 1 := by
          have := congrArg List.length z1
          simpa using this
        have sw : Shp r wd rows := ⟨hn, fun row hrow => by
          have := List.mem_map_of_mem (f := List.length) hrow
          rw [z1] at this
          exact (List.mem_replicate.mp this).2⟩
        have e : rows[wd.length]? = some (rowA rows wd.length) := by
          rw [rowA, List.getD_eq_getElem?_getD, List.getElem?_eq_getElem (by omega)]
          rfl
        obtain ⟨x, h1, b, rfl, h2⟩ := Paired.right (q2'.same s4) e
        refine ⟨_, .inl (.inl q1''), .ref b, atI_neg1 (q2'.length.trans hn) h1, b, rfl, _, .inl (.inl h2), .int (gi (rowA rows wd.length) 0), first0 sw wd.length (by omega), _, rfl, ?_, s2'.trans s4, alw⟩
        rw [tot, show wordTot (rows, wd) = gi (rowA rows wd.length) 0 from if_neg z]; omega
      · have z : wd = [] := by simpa using z
        refine ⟨?_, s2'.trans s4, alw⟩
        rw [tot, show wordTot (rows, wd) = 2 from if_pos z]; omega
    · rintro σ H2 ⟨⟨v6, v7, rfl⟩, s2, hall⟩
      walk_at "rd"
      have k := k H2 (s1.trans s2)
      refine ⟨line_le (by omega), ?_⟩
      rw [← lz, List.take_length] at hall ⊢
      rw [hall, Bool.true_and] at k
      rw [lz]
      exact k
end
end Qw

set_option Elab.async false
set_option linter.all false
set_option maxRecDepth 100000
set_option maxHeartbeats 4000000
namespace Qw
open PySem L2
local macro_rules | `(tactic| walk_at "rd") => `(tactic| simp only [iEnum, iRng3, tRevL, rSlS, rSlL, gSub, rSetL, wipe, List.map_cons, List.map_nil, rAll, rAny, rIsi, tM1, tM0, iZipLT, iZip, iRng2, tLenSetS, rListStr, rMulS, rRep, rCntB, tRevS, rNeD, rEqD, tSeq, tNext, tAsg, tRet, tRetN, tDrop, tIfS, sFld, sFldAug, tVar, tC, tOp, tUn, tTest, tB, tAnd, tOr, tNot, tAndV, tOrV, tNotV, tIf, tTup, tLst, tCons, tNil, tCB, tCall, tMeth, tMake, tFld, rI, rI0, rU, rEq, rNe, rCat, gName, gTup, gCons, gNil, tPar, tPar3, tBM, tBM0, rAppend, rExtend, rPopAt, rIxL, rIxT, rIxS, tSl, rSlS, rSlL, tPart, tNoPart, iStr, iTup, iList, iRng1, tAug, ipI, L2.rAdd, L2.rSub, L2.rAddS, tChain, rIsB, rNotB, scal_ss, scal_ii, scal_bb, scal_nn, scal_in, scal_ni, tYes,
  cx_K, cx_N, List.getElem?_cons_zero, List.getElem?_cons_succ, List.set_cons_zero, List.set_cons_succ, List.nil_append, List.cons_append, List.append_nil, List.length_cons, List.length_nil, Nat.zero_add,
  Option.some.injEq, V.ref.injEq, V.int.injEq, V.str.injEq, V.bl.injEq, HO.ins.injEq, HO.lst.injEq, HO.tup.injEq, List.cons.injEq, exists_eq_left, exists_eq_left', exists_eq_right, exists_eq_right', and_true, true_and, exists_and_left, exists_and_right, and_assoc, decide_eq_true_eq, Bool.not_eq_true', decide_eq_false_iff_not, reduceCtorEq, exists_const, forall_const, if_true, if_false, false_and, and_false, ite_true, ite_false, Bool.true_eq_false, Bool.false_eq_true, Nat.reduceLeDiff, Nat.reduceAdd, small_line, small_lt, upd_ne, ne_eq, not_false_eq_true, Nat.zero_le, Prod.mk.injEq, upd_same, upd_upd, S_tl, S_len, S_app, S_one, S_inj,
  lk_breaks, lk_hard, lk_soft, lk_bend, lk_note, lk_rules, lk_state, lk_bent, lk_word, lk_begun, lk_opened, lk_place, pt_state, pt_bent, pt_word, pt_wordS, pt_wordN, pt_begun, pt_opened, pt_place, pt_place1, len_mf, litv_empty, litv_note, litv_nl, mf_inj, rf_inj, lkn_begin, lkn_ended, lkn_plain, lkn_quoted, lkn_step, lkn_fault, lkn_key, lkn_told, lkn_quotes, lkn_special, pt_open1, not_true_eq_false, not_false_eq_true])
local macro_rules | `(tactic| walk_at "rdh") => `(tactic| simp only [iEnum, iRng3, tRevL, rSlS, rSlL, gSub, rSetL, wipe, List.map_cons, List.map_nil, rAll, rAny, rIsi, tM1, tM0, iZipLT, iZip, iRng2, tLenSetS, rListStr, rMulS, rRep, rCntB, tRevS, rNeD, rEqD, tSeq, tNext, tAsg, tRet, tRetN, tDrop, tIfS, sFld, sFldAug, tVar, tC, tOp, tUn, tTest, tB, tAnd, tOr, tNot, tAndV, tOrV, tNotV, tIf, tTup, tLst, tCons, tNil, tCB, tCall, tMeth, tMake, tFld, rI, rI0, rU, rEq, rNe, rCat, gName, gTup, gCons, gNil, tPar, tPar3, tBM, tBM0, rAppend, rExtend, rPopAt, rIxL, rIxT, rIxS, tSl, rSlS, rSlL, tPart, tNoPart, iStr, iTup, iList, iRng1, tAug, ipI, L2.rAdd, L2.rSub, L2.rAddS, tChain, rIsB, rNotB, scal_ss, scal_ii, scal_bb, scal_nn, scal_in, scal_ni, tYes,
  cx_K, cx_N, List.getElem?_cons_zero, List.getElem?_cons_succ, List.set_cons_zero, List.set_cons_succ, List.nil_append, List.cons_append, List.append_nil, List.length_cons, List.length_nil, Nat.zero_add,
  Option.some.injEq, V.ref.injEq, V.int.injEq, V.str.injEq, V.bl.injEq, HO.ins.injEq, HO.lst.injEq, HO.tup.injEq, List.cons.injEq, exists_eq_left, exists_eq_left', exists_eq_right, exists_eq_right', and_true, true_and, exists_and_left, exists_and_right, and_assoc, decide_eq_true_eq, Bool.not_eq_true', decide_eq_false_iff_not, reduceCtorEq, exists_const, forall_const, if_true, if_false, false_and, and_false, ite_true, ite_false, Bool.true_eq_false, Bool.false_eq_true, Nat.reduceLeDiff, Nat.reduceAdd, small_line, small_lt, upd_ne, ne_eq, not_false_eq_true, Nat.zero_le, Prod.mk.injEq, upd_same, upd_upd, S_tl, S_len, S_app, S_one, S_inj,
  lk_breaks, lk_hard, lk_soft, lk_bend, lk_note, lk_rules, lk_state, lk_bent, lk_word, lk_begun, lk_opened, lk_place, pt_state, pt_bent, pt_word, pt_wordS, pt_wordN, pt_begun, pt_opened, pt_place, pt_place1, len_mf, litv_empty, litv_note, litv_nl, mf_inj, rf_inj, lkn_begin, lkn_ended, lkn_plain, lkn_quoted, lkn_step, lkn_fault, lkn_key, lkn_told, lkn_quotes, lkn_special, pt_open1, not_true_eq_false, not_false_eq_true, *])
local macro_rules | `(tactic| walk_at "pl") => `(tactic| (first | decide | (refine Nat.lt_of_le_of_lt (length_putF _ _ _) ?_; repeat (first | decide | refine pl2 ?_))))
local macro_rules | `(tactic| walk_at "al") => `(tactic| (intro p hp; generalize hH : upd _ p _ = H1; obtain ⟨S, e⟩ := gen_new hH hp; clear hH))
/-! ### words that can be written, by the law's own look; drawn words -/
theorem costs_nil {r : RS} (ok : r.Ok) {s : So} (hs : s ∈ r.sts) (c : Nat) : costsT r s c = [] ↔ costT r s c = none := by
  have h := costs_le ok hs c 1 0
  have h0 := costs_le ok hs c 0 0
  constructor
  · intro e
    cases hc : costT r s c with
    | none => rfl
    | some n =>
      rw [e, hc] at h0
      have h1 := costs_le ok hs c ((n : Int) + 1) 0
      rw [e, hc] at h1
      have := h1.mp (fun m hm => by cases hm)
      dsimp only at this
      omega
  · intro e
    rw [e] at h
    match hc : costsT r s c with
    | [] => rfl
    | m :: l =>
      have h1 := costs_le ok hs c ((m : Int) + 1) 0
      rw [e, hc] at h1
      have := h1.mpr trivial m List.mem_cons_self
      omega
section
variable {P : Program} {w : World} {K : PySem.W.Frag} {mg : Str → Option Value} {base : Heap} {a : Ad}
def sp_law_writable : Sp := fun vs H Q _ => ∃ tp r wd, vs = [.ref tp, .str (S wd)] ∧ H tp = some (.tup (RS.tup r)) ∧ r.Ok ∧ wd.length ≤ 100 ∧ ∀ H', Same H H' → Q (.bl (!cannotT r wd)) H'
theorem ok__law_writable (T : Txt K mg a) : FnOk P w K mg base CX0 2 a.f__law_writable a.d__law_writable P__law_writable sp_law_writable := by
  refine T.F__law_writable.ok sc__law_writable (fun vs H Q E h => ?_) (fun cdv A outer s H vs Q E hr h => ?_)
  · obtain ⟨tp, r, wd, rfl, _⟩ := h
    rfl
  · obtain ⟨tp, r, wd, rfl, ht, ok, wl, k⟩ := h
    have G__law_states := ok__law_states (P := P) (w := w) (base := base) T
    have B__law_states := bi__law_states T
    have G__law_costs := ok__law_costs (P := P) (w := w) (base := base) T
    have B__law_costs := bi__law_costs T
    refine ⟨_,
(pss_cons (ps_if (pt_cmpR op_eq (pv 1) pe_str (nomark _)) (pss_one (ps_ret (pe_cmpR op_ne (pe_op op_add_str (pe_ix ix_tup (pv 0) pe_int (fun _ _ => rfl)) (pe_ix ix_tup (pv 0) pe_int (fun _ _ => rfl))) pe_str (nomark _)))) pss_nil)
    (pss_cons (ps_for PassesOwn.never rfl (pi_str (pv 1)) (pg_name (i := 2) sc__law_writable.nd rfl (by first | exact Or.inl rfl | exact Or.inr rfl))
    (pss_one (ps_if (pt_not (pt_val (pe_callB (cr_any rfl) (by rfl) T.b_any (by decide +kernel) (pa_cons (pe_lc (own := [("_law_state", 3)]) (g := gName 3) (tt := tYes) rfl sc__law_writable.nd (pi_list (pe_call G__law_states (hr.mono (by decide)) rfl T.f__law_states.g T.f__law_states.k B__law_states .nil pass0 (pa_cons (pv 0) pa_nil))) (blkOk_by (own := [("_law_state", 3)]) (N := N__law_writable) (sc := defScope st__law_writable) (by decide +kernel)) (fun _ _ _ _ _ => (pg_name (i := 3) sc__law_writable.nd rfl (by first | exact Or.inl rfl | exact Or.inr rfl))) (fun _ _ _ _ _ => pts_nil) (fun _ _ _ _ _ => (pe_cmpR (op_neDK (K := K) rfl hr.units) (pe_call G__law_costs (hr.mono (by decide)) rfl T.f__law_costs.g T.f__law_costs.k B__law_costs .nil pass0 (pa_cons (pv 0) (pa_cons (pv 3) (pa_cons (pv 2) pa_nil)))) (pe_lst pa_nil) (nomark _)))) pa_nil)))) (pss_one (ps_ret pe_bl)) pss_nil)))
    (pss_one (ps_ret pe_bl))))
      , ?_⟩
    rw [show start N__law_writable [V.ref tp, V.str (S wd)] = [some (.ref tp), some (.str (S wd)), none, none] from rfl]
    walk_at "rd"
    have h2 := ok.l2
    have h3 := ok.l3
    have hql := r.quotes_len ok
    refine ite2 (fun e => ?_) (fun e => ?_)
    · refine ⟨_, .inl (.inl ht), _, rfl, _, .inl (.inl ht), _, rfl, S r.hard, rfl, S r.soft, rfl, line_le (by rw [S_len, S_len]; omega), ?_⟩
      have k := k H (Same.refl _)
      rw [cannotT, if_pos e] at k
      rw [S_app, show decide (S (r.hard ++ r.soft) = S []) = decide (r.quotes = []) by rw [decide_eq_decide]; exact S_inj]
      exact k
    have cn : ∀ H', Same H H' → (∃ c ∈ wd, ∀ s ∈ r.sts, costT r s c = none) → Q (.bl false) H' := fun H' s ⟨c, hc, h⟩ => by
      have k := k H' s
      have : cannotT r wd = true := by
        rw [cannotT, if_neg e, List.any_eq_true]
        exact ⟨c, hc, List.all_eq_true.mpr fun s hs => by rw [h s hs]; rfl⟩
      rw [this] at k
      exact k
    refine tfor_it (J := Its (S wd)) (H1 := H) (n := wd.length) (G := fun _ => True) (fun R hR => ⟨_, rfl, _, rfl, hR⟩) walk_text (fun i σ H' => (∃ v2, σ = [some (.ref tp), some (.str (S wd)), v2, none]) ∧ Same H H' ∧ ∀ c ∈ wd.take i, canT r c) ⟨⟨_, rfl⟩, Same.refl _, fun _ z => (by rw [List.take_zero] at z; cases z)⟩ (fun _ _ _ _ _ => trivial) ?_ ?_
    · rintro i x σ Hx H1 hi ⟨⟨v2, rfl⟩, s1, hall⟩ ⟨rfl, c, hc, rfl⟩
      walk_at "rd"
      have ht1 := s1 _ _ ht
      refine tlc_all (ι := Addr × Hp) (C := fun z => z.2 z.1 = some (.lst (r.sts.map fun s => .str (S (sT s)))) ∧ Same H1 z.2) (J := fun z => Itl K z.1) (H1 := fun z => z.2) (fun R hR => ?_) fun z hz D hD => ?_
      · walk_at "rd"
        exact ⟨tp, r, rfl, ht1, ok, fun l H2 hl s2 e2 => ⟨l, rfl, ⟨_, .inl (.inl e2)⟩, hR (l, H2) ⟨e2, s2⟩⟩⟩
      obtain ⟨ls, H2⟩ := z
      obtain ⟨z1, z2⟩ := hz
      dsimp only at z1 z2 hD
      refine lc_map r.sts (fun s => .bl (!decide (costsT r s c = []))) (G := fun H => SqL K H ls (r.sts.map fun s => .str (S (sT s)))) (List.length_map (as := r.sts) (fun s => V.str (S (sT s))) ▸ walk_list) (by simp only [RS.sts, List.length_cons, List.length_map]; omega) hD (fun H s => .inl (.inl (s _ _ z1))) ?_ ?_
      · rintro R R' j s x H3 H3' hj s3 ⟨rfl, hx⟩ hk
        rw [List.getElem?_map, hj] at hx
        cases hx
        walk_at "rd"
        refine ⟨tp, r, s, c, rfl, s3 _ _ (z2 _ _ ht1), ok, fun l H4 hl s4 e4 => ?_⟩
        walk_at "al"
        rename_i p5 hp5 H5 S5 e5
        have tm : ∀ l : List Nat, l.length ≤ 2 → (∀ n ∈ l, n ≤ 2) → tame (isD l) = true := fun l _ h => isD_tame fun n hn => by have := h n hn; omega
        have cb : ∀ n ∈ costsT r s c, n ≤ 100000 := fun n hn => by
          rcases List.mem_append.mp hn with h | h
          · have h1 : ∀ s, n ∈ selfC r s c → n = 1 := fun s h => by
              cases s with
              | none =>
                simp only [selfC] at h
                split at h
                · simpa using h
                · cases h
              | some q =>
                simp only [selfC] at h
                split at h
                · simpa using h
                · cases h
            have := h1 s h
            omega
          · unfold bentC at h
            split at h
            · have : n = 2 := by simpa using h
              omega
            · cases h
        have tm1 : tame (isD (costsT r s c)) = true := isD_tame cb
        have tm2 : tame (isD []) = true := rfl
        refine ⟨_, dp_is (S5 _ _ e4), _, dp_is (l := []) e5, shaped_of tm1 (isD_depth _), shaped_of tm2 (isD_depth _), ?_⟩
        rw [eqv_dec tm1 tm2 isD_inj]
        exact hk _ (s4.trans S5)
      intro H3 s3 e3
      have S13 := (s1.trans z2).trans s3
      refine ⟨D, rfl, r.sts.map fun s => !decide (costsT r s c = []), .inl (.inl (by rw [e3, List.map_map]; rfl)), ?_⟩
      rw [List.any_map]
      refine ite2 (fun z => ?_) (fun z => ⟨⟨_, rfl⟩, S13, fun d hd => ?_⟩)
      · refine cn _ S13 ⟨c, List.mem_of_getElem? hc, fun s hs => ?_⟩
        have := List.any_eq_false.mp z s hs
        have : costsT r s c = [] := by simpa using this
        exact (costs_nil ok hs c).mp this
      · rw [take_at hc] at hd
        rcases List.mem_append.mp hd with hd | hd
        · exact hall d hd
        · rw [List.mem_singleton.mp hd]
          have z : (r.sts.any fun s => !decide (costsT r s c = [])) = true := by
            cases h : r.sts.any fun s => !decide (costsT r s c = []) with
            | true => rfl
            | false => exact absurd h z
          obtain ⟨s, hs, h⟩ := List.any_eq_true.mp z
          refine ⟨s, hs, ?_⟩
          cases hcc : costT r s c with
          | some n => rfl
          | none =>
            rw [(costs_nil ok hs c).mpr hcc] at h
            simp at h
    · rintro σ H1 ⟨⟨v2, rfl⟩, s1, hall⟩
      rw [List.take_length] at hall
      walk_at "rd"
      have k := k H1 s1
      rw [cannot_of hall fun z => absurd z e] at k
      exact k
def sp_law_drawn_word (K : PySem.W.Frag) : Sp := fun vs H Q _ => ∃ (ns : List Int) (st tp : Addr) (r : RS) (m : Nat), vs = [.ref st, .ref tp, .int m] ∧ Stt K ns H st ∧ H tp = some (.tup (RS.tup r)) ∧ r.Ok ∧ m ≤ 400 ∧
  ∀ (t : Tx) H', t.length ≤ m → t.length ≤ 12 → t.all sgn = true → Stt K ns H' st → Kp st H H' → Q (.str (S t)) H'
theorem ok__law_drawn_word (T : Txt K mg a) : FnOk P w K mg base CX0 5 a.f__law_drawn_word a.d__law_drawn_word P__law_drawn_word (sp_law_drawn_word K) := by
  refine T.F__law_drawn_word.ok sc__law_drawn_word (fun vs H Q E h => ?_) (fun cdv A outer s H vs Q E hr h => ?_)
  · obtain ⟨ns, st, tp, r, m, rfl, _⟩ := h
    rfl
  · obtain ⟨ns, st, tp, r, m, rfl, hst, ht, ok, hm, k⟩ := h
    have G__law_text := ok__law_text (P := P) (w := w) (base := base) T
    have B__law_text := bi__law_text T
    refine ⟨_,
(pss_one (ps_ret (pe_slice sl_str (pe_call G__law_text (hr.mono (by decide)) rfl T.f__law_text.g T.f__law_text.k B__law_text .nil pass0 (pa_cons (pv 0) (pa_cons (pv 1) (pa_cons (pv 2) pa_nil)))) po_none (po_some pe_int))))
      , ?_⟩
    rw [show start N__law_drawn_word [V.ref st, V.ref tp, V.int m] = [some (.ref st), some (.ref tp), some (.int m)] from rfl]
    walk_at "rd"
    refine ⟨ns, st, tp, r, m, rfl, hst, ht, ok, hm, fun t H1 tl ts T1 k1 => ?_⟩
    have c1 : cutS (S t) none (some 12) = S (t.take 12) := cutS_to t 12
    refine ⟨S t, rfl, line_le (by rw [S_len]; omega), ?_⟩
    rw [c1]
    exact k (t.take 12) H1 (by rw [List.length_take]; omega) (by rw [List.length_take]; omega) (List.all_eq_true.mpr fun c hc => List.all_eq_true.mp ts c (List.mem_of_mem_take hc)) T1 k1
end
end Qw

set_option Elab.async false
set_option linter.all false
set_option maxRecDepth 100000
set_option maxHeartbeats 4000000
namespace Qw
open PySem L2
/-! ### the least item, an item taken out: over data -/
def rMinD (K : PySem.W.Frag) : List V → Hp → VK → Prop := fun vs H Q => ∃ (a : Addr) (xs : List V) (d : PyData) (ds : List PyData), vs = [.ref a] ∧ SqL K H a xs ∧ DpAll K H xs (d :: ds) ∧ PySem.W.AlikeAll (d :: ds) ∧ PyData.depthAll (d :: ds) ≤ 32 ∧
  ∀ (i : Nat) (x : V), xs[i]? = some x → (d :: ds)[i]? = some (PySem.W.minD d ds) → Q x H
theorem cr_minD {X : Cx} (hc : X.calm = true) (hu : X.A.units + 64 < cLine) : CallR X (.builtin "min") (rMinD X.K) := by
  intro pins s σ H vs us Q I r h
  obtain ⟨a, xs, d, ds, rfl, hs, ha, al, hd, q⟩ := h
  obtain ⟨its, rv, hl, _⟩ := I.list hs
  obtain ⟨as, rd⟩ := Dp.readsAll I (d :: ds) xs its ha rv
  rw [Vals.ref1 r]
  refine PySem.W.min_list_data (I.ok.hd hc) hl.isList (by simpa using rd) al (by omega) fun i v h' tk bs hv hr hk => ?_
  have hv' : its[i]? = some v := by simpa using hv
  obtain ⟨x, hx, rx⟩ : ∃ x, xs[i]? = some x ∧ RelV x v := by
    have hlt : i < its.length := (List.getElem?_eq_some_iff.mp hv').1
    have hl2 := rv.length
    have hx : xs[i]? = some (xs[i]'(by omega)) := List.getElem?_eq_getElem (by omega)
    obtain ⟨u, e, ru⟩ := rv.get hx
    rw [hv'] at e
    cases e
    exact ⟨_, hx, ru⟩
  refine ⟨x, H, I.kept hk, rx, q i x hx ?_⟩
  obtain ⟨bs2, r2, i1, i2, i3⟩ := PySem.W.readsAll_at rd i v hv'
  have e := PySem.W.alike_unique _ _ v _ _ (al.1 _ i2 _ ?_) (PySem.W.reads_keeps hk r2) hr
  · rw [← e, List.getElem?_eq_getElem i1, List.getD_eq_getElem?_getD, List.getElem?_eq_getElem i1]
    rfl
  · have : ∀ (l : List PyData) (z : PyData), l.foldl (fun a y => if PySem.W.dataLt y a then y else a) z ∈ z :: l := by
      intro l
      induction l with
      | nil => intro z; exact List.mem_cons_self
      | cons y l ih =>
        intro z
        rw [List.foldl_cons]
        have := ih (if PySem.W.dataLt y z then y else z)
        rcases List.mem_cons.mp this with h | h
        · rw [h]
          split
          · exact List.mem_cons_of_mem _ List.mem_cons_self
          · exact List.mem_cons_self
        · exact List.mem_cons_of_mem _ (List.mem_cons_of_mem _ h)
    exact this ds d
def rRemD (K : PySem.W.Frag) : V → List V → Hp → VK → Prop := fun x xs H Q => ∃ (l : Addr) (ys : List V) (ds : List PyData) (y : V) (d : PyData) (j : Nat), x = .ref l ∧ xs = [y] ∧ H l = some (.lst ys) ∧ DpAll K H ys ds ∧ Dp K H y d ∧
  PyData.plainAll ds = true ∧ d.plain = true ∧ d.depth ≤ 32 ∧ PySem.SeqAt.dataPlace ds d = some j ∧ Q .non (upd H l (.lst (ys.eraseIdx j)))
theorem mt_removeD {X : Cx} (hu : X.A.units + 64 < cLine) : MtM X "list.remove" (rRemD X.K) := by
  intro pins s σ H x xs v us Q I rx rxs h
  obtain ⟨l, ys, ds, y, d, j, rfl, rfl, hH, ha, hy, p1, p2, hd, hj, q⟩ := h
  cases rx
  obtain ⟨u, rfl, ru⟩ := rxs.one
  obtain ⟨z, its, n, r, hl, e⟩ := I.lstM hH
  obtain ⟨as, rd⟩ := Dp.readsAll I ds ys its ha r
  obtain ⟨bs, rb⟩ := Dp.reads I d y u hy ru
  refine PySem.SeqAt.remove_list_data (vs := its.toArray) ⟨_, e, rfl, n, rfl⟩ (by simpa using rd) rb p1 p2 (by omega) hj (by rw [List.size_toArray]; omega) ?_
  refine ⟨.non, _, I.lset (its' := its.eraseIdx j) (t' := s.toks) hH e ?_ (r.eraseIdx j) ?_, rfl, q⟩
  · show its.toArray.eraseIdxIfInBounds j = (its.eraseIdx j).toArray
    rw [List.eraseIdxIfInBounds_toArray]
  · have := List.length_eraseIdx_le ys j
    omega
end Qw

set_option Elab.async false
set_option linter.all false
set_option maxRecDepth 100000
set_option maxHeartbeats 4000000
namespace Qw
open PySem L2
/-! ### the law's own search, in plain Lean -/
abbrev En := Nat × Nat × Nat
abbrev Bs := List ((Nat × Nat) × Nat)
/-- the least cost of a count of signs and a state -/
def dst (r : RS) (w : Tx) (i k : Nat) : Nat := gt (curT r (w.take i)) k
def othersT (r : RS) (k : Nat) : List Nat := if k = 0 then List.range' 1 (r.sts.length - 1) else [0]
def moreT (r : RS) (w : Tx) (c i k : Nat) : List En := if i < w.length then (costsT r (r.sts.getD k none) (w.getD i 0)).map fun m => (c + m, i + 1, k) else []
def outT (r : RS) (w : Tx) (c i k : Nat) : List En := (othersT r k).map (fun j => (c + 1, i, j)) ++ moreT r w c i k
def Seen (B : Bs) (i k : Nat) : Prop := ∃ c, ((i, k), c) ∈ B
structure SI (r : RS) (w : Tx) (T : List En) (B : Bs) : Prop where
  tb : ∀ x ∈ T, x.2.1 ≤ w.length ∧ x.2.2 < r.sts.length ∧ dst r w x.2.1 x.2.2 ≤ x.1 ∧ x.1 ≤ 200
  bb : ∀ y ∈ B, y.1.1 ≤ w.length ∧ y.1.2 < r.sts.length ∧ y.2 = dst r w y.1.1 y.1.2
  so : Seen B 0 0 ∨ (0, 0, 0) ∈ T
  ed : ∀ y ∈ B, ∀ x ∈ outT r w y.2 y.1.1 y.1.2, Seen B x.2.1 x.2.2 ∨ x ∈ T
theorem costs_mem {r : RS} (ok : r.Ok) {s : So} (hs : s ∈ r.sts) {c n : Nat} (h : costT r s c = some n) : n ∈ costsT r s c := by
  have h1 := costs_le ok hs c ((n : Int) + 1) 0
  have h2 := costs_le ok hs c (n : Int) 0
  rw [h] at h1 h2
  have h3 := h2.mpr (by dsimp only; omega)
  by_cases q : n ∈ costsT r s c
  · exact q
  · exfalso
    have := h1.mp fun m hm => by
      have a := h3 m hm
      have b : m ≠ n := fun z => q (z ▸ hm)
      omega
    dsimp only at this
    omega
theorem costs_ge {r : RS} (ok : r.Ok) {s : So} (hs : s ∈ r.sts) {c m : Nat} (hm : m ∈ costsT r s c) : ∃ n, costT r s c = some n ∧ n ≤ m := by
  cases h : costT r s c with
  | none => rw [(costs_nil ok hs c).mpr h] at hm; cases hm
  | some n =>
    refine ⟨n, rfl, ?_⟩
    have h2 := costs_le ok hs c (n : Int) 0
    rw [h] at h2
    have := h2.mpr (by dsimp only; omega) m hm
    omega
theorem costs_two {r : RS} {s : So} {c m : Nat} (hm : m ∈ costsT r s c) : m ≤ 2 := by
  rcases List.mem_append.mp hm with h | h
  · have : m = 1 := by
      cases s <;> simp only [selfC] at h <;> split at h <;> simp_all
    omega
  · unfold bentC at h
    split at h <;> simp_all
theorem costs_few {r : RS} (s : So) (c : Nat) : (costsT r s c).length ≤ 2 := by
  have h1 := selfC_len r s c
  have h2 : (bentC r s).length ≤ 1 := by unfold bentC; split <;> simp
  rw [costsT, List.length_append]
  omega
theorem dst_le {r : RS} {w : Tx} (hw : ∀ c ∈ w, canT r c) (hl : w.length ≤ 22) {i k : Nat} (hk : k < r.sts.length) : dst r w i k ≤ 89 ∧ dst r w i 0 ≤ 88 := by
  have h1 := cur_low (r := r) _ (w.take i) rfl fun c hc => hw c (List.mem_of_mem_take hc)
  have h2 := cur_one r (w.take i) hk
  rw [List.length_take] at h1
  unfold dst
  omega
theorem mem_range1 {n j : Nat} : j ∈ List.range' 1 n ↔ 1 ≤ j ∧ j < 1 + n := by
  simp [List.mem_range'_1]
/-- what goes out of a place is no less than the place's own least -/
theorem out_ok {r : RS} (ok : r.Ok) {w : Tx} (hw : ∀ c ∈ w, canT r c) (hl : w.length ≤ 22) {i k : Nat} (hi : i ≤ w.length) (hk : k < r.sts.length) :
    ∀ x ∈ outT r w (dst r w i k) i k, x.2.1 ≤ w.length ∧ x.2.2 < r.sts.length ∧ dst r w x.2.1 x.2.2 ≤ x.1 ∧ x.1 ≤ 200 := fun x hx => by
  have d1 := dst_le hw hl (i := i) hk
  rcases List.mem_append.mp hx with h | h
  · obtain ⟨j, hj, rfl⟩ := List.mem_map.mp h
    have one := cur_one r (w.take i) hk
    by_cases k0 : k = 0
    · subst k0
      rw [othersT, if_pos rfl, mem_range1] at hj
      have hj2 : j < r.sts.length := by omega
      have onej := cur_one r (w.take i) hj2
      exact ⟨hi, hj2, by unfold dst; dsimp only; omega, by dsimp only; omega⟩
    · rw [othersT, if_neg k0, List.mem_singleton] at hj
      subst hj
      exact ⟨hi, by dsimp only; omega, by unfold dst; dsimp only; omega, by dsimp only; omega⟩
  · unfold moreT at h
    split at h
    · rename_i lt
      obtain ⟨m, hm, rfl⟩ := List.mem_map.mp h
      obtain ⟨n, hn, le⟩ := costs_ge ok (at_sts hk) hm
      have := costs_two hm
      have nx := (cur_nxt r (w.take i) (w.getD i 0)).le hk hn
      rw [← take_pred (w := w) (n := i) lt] at nx
      exact ⟨lt, hk, by unfold dst; dsimp only; omega, by dsimp only; omega⟩
    · cases h
theorem SI.zero (r : RS) (w : Tx) : SI r w [(0, 0, 0)] [] := by
  refine ⟨fun x hx => ?_, fun _ h => (nomatch h), .inr List.mem_cons_self, fun _ h => (nomatch h)⟩
  rw [List.mem_singleton.mp hx]
  refine ⟨Nat.zero_le _, sts_pos r, ?_, by decide⟩
  show gt (curT r (w.take 0)) 0 ≤ 0
  rw [List.take_zero, cur_nil (sts_pos r)]
  exact Nat.le_refl _
/-- of a place that isn't known yet: one that is no dearer stands in the turn with its least -/
theorem SI.next {r : RS} (ok : r.Ok) {w : Tx} (hw : ∀ c ∈ w, canT r c) (hl : w.length ≤ 22) {T : List En} {B : Bs} (S : SI r w T B) : ∀ (n i k : Nat), dst r w i k = n → i ≤ w.length → k < r.sts.length → ¬ Seen B i k →
    ∃ i' k', ¬ Seen B i' k' ∧ (dst r w i' k', i', k') ∈ T ∧ dst r w i' k' ≤ n := by
  intro n
  induction n using Nat.strongRecOn with
  | _ n ih =>
  intro i k hn hi hk ns
  -- by an edge from (i', k') that costs e
  have via : ∀ (i' k' e : Nat), i' ≤ w.length → k' < r.sts.length → 1 ≤ e → dst r w i' k' + e = n → (dst r w i' k' + e, i, k) ∈ outT r w (dst r w i' k') i' k' → ∃ i' k', ¬ Seen B i' k' ∧ (dst r w i' k', i', k') ∈ T ∧ dst r w i' k' ≤ n := by
    intro i' k' e hi' hk' he e1 mem
    by_cases sn : Seen B i' k'
    · obtain ⟨c, hc⟩ := sn
      have := (S.bb _ hc).2.2
      dsimp only at this
      subst this
      rcases S.ed _ hc _ mem with z | z
      · exact absurd z ns
      · rw [e1, ← hn] at z
        exact ⟨i, k, ns, z, by omega⟩
    · obtain ⟨a, b, h1, h2, h3⟩ := ih (dst r w i' k') (by omega) i' k' rfl hi' hk' sn
      exact ⟨a, b, h1, h2, by omega⟩
  cases i with
  | zero =>
    have d0 : ∀ k, k < r.sts.length → dst r w 0 k = if k = 0 then 0 else 1 := fun k hk => by
      show gt (curT r (w.take 0)) k = _
      rw [List.take_zero, cur_nil hk]
    by_cases k0 : k = 0
    · subst k0
      rcases S.so with z | z
      · exact absurd z ns
      · exact ⟨0, 0, ns, by rw [d0 0 hk]; exact z, by omega⟩
    · have z0 := d0 0 (sts_pos r)
      have zk := d0 k hk
      rw [if_neg k0] at zk
      rw [if_pos rfl] at z0
      refine via 0 0 1 (Nat.zero_le _) (sts_pos r) (by omega) (by omega) (List.mem_append_left _ (List.mem_map.mpr ⟨k, ?_, rfl⟩))
      rw [othersT, if_pos rfl, mem_range1]
      omega
  | succ i =>
    have nx := cur_nxt r (w.take i) (w.getD i 0)
    rw [← take_pred (w := w) (n := i) hi] at nx
    have b := dst_le hw hl (i := i + 1) hk
    rcases nx.from_ (by have := b.2; unfold dst at this; omega) hk with ⟨m, hm, e⟩ | ⟨k1, e⟩ | ⟨rfl, j, j1, j2, e⟩
    · have m1 : 1 ≤ m := by rcases cost_two (at_sts hk) hm with h | h <;> omega
      refine via i k m (by omega) hk m1 (by rw [← hn]; exact e) (List.mem_append_right _ ?_)
      rw [moreT, if_pos (by omega)]
      exact List.mem_map.mpr ⟨m, costs_mem ok (at_sts hk) hm, rfl⟩
    · refine via (i + 1) 0 1 hi (sts_pos r) (by omega) (by rw [← hn]; exact e.symm) (List.mem_append_left _ (List.mem_map.mpr ⟨k, ?_, rfl⟩))
      rw [othersT, if_pos rfl, mem_range1]
      omega
    · refine via (i + 1) j 1 hi j2 (by omega) (by rw [← hn]; exact e) (List.mem_append_left _ (List.mem_map.mpr ⟨0, ?_, rfl⟩))
      rw [othersT, if_neg (by omega)]
      exact List.mem_cons_self
/-- the cheapest goes out: it was known -/
theorem SI.drop {r : RS} {w : Tx} {T T' : List En} {B : Bs} (S : SI r w T B) {x : En} (sn : Seen B x.2.1 x.2.2) (h1 : ∀ y ∈ T', y ∈ T) (h2 : ∀ y ∈ T, y = x ∨ y ∈ T') : SI r w T' B := by
  refine ⟨fun y hy => S.tb y (h1 y hy), S.bb, ?_, fun y hy z hz => ?_⟩
  · rcases S.so with h | h
    · exact .inl h
    · rcases h2 _ h with e | e
      · subst e; exact .inl sn
      · exact .inr e
  · rcases S.ed y hy z hz with h | h
    · exact .inl h
    · rcases h2 _ h with e | e
      · subst e; exact .inl sn
      · exact .inr e
/-- .. it wasn't -/
theorem SI.put {r : RS} (ok : r.Ok) {w : Tx} (hw : ∀ c ∈ w, canT r c) (hl : w.length ≤ 22) {T T' : List En} {B : Bs} (S : SI r w T B) {x : En} (hx : x ∈ T) (least : ∀ y ∈ T, x.1 ≤ y.1) (ns : ¬ Seen B x.2.1 x.2.2) (h1 : ∀ y ∈ T', y ∈ T) (h2 : ∀ y ∈ T, y = x ∨ y ∈ T') :
    SI r w (T' ++ outT r w x.1 x.2.1 x.2.2) (B ++ [((x.2.1, x.2.2), x.1)]) := by
  obtain ⟨b1, b2, b3, b4⟩ := S.tb x hx
  have e : x.1 = dst r w x.2.1 x.2.2 := by
    obtain ⟨i', k', _, m, le⟩ := S.next ok hw hl _ x.2.1 x.2.2 rfl b1 b2 ns
    have := least _ m
    dsimp only at this
    omega
  have sx : Seen (B ++ [((x.2.1, x.2.2), x.1)]) x.2.1 x.2.2 := ⟨x.1, by simp⟩
  have up : ∀ {i k}, Seen B i k → Seen (B ++ [((x.2.1, x.2.2), x.1)]) i k := fun ⟨c, h⟩ => ⟨c, List.mem_append_left _ h⟩
  have mv : ∀ y : En, Seen B y.2.1 y.2.2 ∨ y ∈ T → Seen (B ++ [((x.2.1, x.2.2), x.1)]) y.2.1 y.2.2 ∨ y ∈ T' ++ outT r w x.1 x.2.1 x.2.2 := fun y h => by
    rcases h with h | h
    · exact .inl (up h)
    · rcases h2 _ h with z | z
      · subst z; exact .inl sx
      · exact .inr (List.mem_append_left _ z)
  refine ⟨fun y hy => ?_, fun y hy => ?_, mv (0, 0, 0) S.so, fun y hy z hz => ?_⟩
  · rcases List.mem_append.mp hy with h | h
    · exact S.tb y (h1 y h)
    · rw [e] at h
      exact out_ok ok hw hl b1 b2 y h
  · rcases List.mem_append.mp hy with h | h
    · exact S.bb y h
    · rw [List.mem_singleton.mp h]
      exact ⟨b1, b2, e⟩
  · rcases List.mem_append.mp hy with h | h
    · exact mv z (S.ed y h z hz)
    · rw [List.mem_singleton.mp h] at hz
      exact .inr (List.mem_append_right _ hz)
/-- at the end all are known -/
theorem SI.end_ {r : RS} (ok : r.Ok) {w : Tx} (hw : ∀ c ∈ w, canT r c) (hl : w.length ≤ 22) {B : Bs} (S : SI r w [] B) : Seen B w.length 0 := by
  by_cases h : Seen B w.length 0
  · exact h
  · obtain ⟨_, _, _, m, _⟩ := S.next ok hw hl _ w.length 0 rfl (Nat.le_refl _) (sts_pos r) h
    cases m
/-! how long it goes -/
def placesT (r : RS) (w : Tx) : List (Nat × Nat) := (List.range (w.length + 1)).flatMap fun i => (List.range r.sts.length).map fun k => (i, k)
theorem mem_places {r : RS} {w : Tx} {i k : Nat} : (i, k) ∈ placesT r w ↔ i ≤ w.length ∧ k < r.sts.length := by
  simp only [placesT, List.mem_flatMap, List.mem_range, List.mem_map, Prod.mk.injEq]
  constructor
  · rintro ⟨a, h1, b, h2, rfl, rfl⟩; omega
  · rintro ⟨h1, h2⟩; exact ⟨i, by omega, k, h2, rfl, rfl⟩
theorem places_len (r : RS) (w : Tx) : (placesT r w).length = (w.length + 1) * r.sts.length := by
  have : ∀ (l : List Nat) (n : Nat), (l.map fun _ => n).sum = l.length * n := by
    intro l n
    induction l with
    | nil => simp
    | cons x l ih => rw [List.map_cons, List.sum_cons, ih, List.length_cons, Nat.succ_mul]; omega
  rw [placesT, List.length_flatMap]
  simp only [List.length_map, List.length_range]
  rw [this, List.length_range]
def leftT (r : RS) (w : Tx) (B : Bs) : Nat := (placesT r w).countP fun p => decide (p ∉ B.map (·.1))
theorem countP_lt {α : Type} {p q : α → Bool} {x : α} : ∀ {l : List α}, (∀ y ∈ l, q y = true → p y = true) → x ∈ l → p x = true → q x = false → l.countP q + 1 ≤ l.countP p
  | [], _, h, _, _ => (nomatch h)
  | y :: l, hi, h, hp, hq => by
    have tl : l.countP q ≤ l.countP p := List.countP_mono_left fun z hz => hi z (List.mem_cons_of_mem _ hz)
    rcases List.mem_cons.mp h with e | h
    · subst e
      rw [List.countP_cons_of_pos hp, List.countP_cons_of_neg (by rw [hq]; decide)]
      omega
    · have := countP_lt (fun z hz => hi z (List.mem_cons_of_mem _ hz)) h hp hq
      by_cases hy : q y = true
      · rw [List.countP_cons_of_pos hy, List.countP_cons_of_pos (hi y List.mem_cons_self hy)]
        omega
      · rw [List.countP_cons_of_neg hy]
        have : l.countP p ≤ (y :: l).countP p := by rw [List.countP_cons]; omega
        omega
theorem left_put {r : RS} {w : Tx} {B : Bs} {i k c : Nat} (hi : i ≤ w.length) (hk : k < r.sts.length) (ns : ¬ Seen B i k) : leftT r w (B ++ [((i, k), c)]) + 1 ≤ leftT r w B := by
  refine countP_lt (x := (i, k)) (fun p _ h => ?_) (mem_places.mpr ⟨hi, hk⟩) (decide_eq_true fun h => ns ?_) (decide_eq_false fun h => h ?_)
  · have h := of_decide_eq_true h
    exact decide_eq_true fun z => h (by rw [List.map_append]; exact List.mem_append_left _ z)
  · obtain ⟨⟨q, c'⟩, hq, e⟩ := List.mem_map.mp h
    dsimp only at e
    subst e
    exact ⟨c', hq⟩
  · simp
theorem left_le (r : RS) (w : Tx) (B : Bs) : leftT r w B ≤ (w.length + 1) * r.sts.length := by
  rw [← places_len]
  exact List.countP_le_length
theorem out_len (r : RS) (w : Tx) (c i k : Nat) (hq : r.quotes.length ≤ 4) : (outT r w c i k).length ≤ 6 := by
  rw [outT, List.length_append, List.length_map]
  have h1 : (othersT r k).length ≤ 4 := by
    unfold othersT
    split
    · rw [List.length_range', sts_len]; omega
    · simp
  have h2 : (moreT r w c i k).length ≤ 2 := by
    unfold moreT
    split
    · rw [List.length_map]; exact costs_few _ _
    · simp
  omega
end Qw

set_option Elab.async false
set_option linter.all false
set_option maxRecDepth 100000
set_option maxHeartbeats 4000000
namespace Qw
open PySem L2
local macro_rules | `(tactic| walk_at "rd") => `(tactic| simp only [rMinD, rRemD, tDGet, tDIn, tDNotIn, sDPut, tDNewT, tLstRg, tRg2, iEnum, iRng3, tRevL, rSlS, rSlL, gSub, rSetL, wipe, List.map_cons, List.map_nil, rAll, rAny, rIsi, tM1, tM0, iZipLT, iZip, iRng2, tLenSetS, rListStr, rMulS, rRep, rCntB, tRevS, rNeD, rEqD, tSeq, tNext, tAsg, tRet, tRetN, tDrop, tIfS, sFld, sFldAug, tVar, tC, tOp, tUn, tTest, tB, tAnd, tOr, tNot, tAndV, tOrV, tNotV, tIf, tTup, tLst, tCons, tNil, tCB, tCall, tMeth, tMake, tFld, rI, rI0, rU, rEq, rNe, rCat, gName, gTup, gCons, gNil, tPar, tPar3, tBM, tBM0, rAppend, rExtend, rPopAt, rIxL, rIxT, rIxS, tSl, rSlS, rSlL, tPart, tNoPart, iStr, iTup, iList, iRng1, tAug, ipI, L2.rAdd, L2.rSub, L2.rAddS, tChain, rIsB, rNotB, scal_ss, scal_ii, scal_bb, scal_nn, scal_in, scal_ni, tYes,
  cx_K, cx_N, List.getElem?_cons_zero, List.getElem?_cons_succ, List.set_cons_zero, List.set_cons_succ, List.nil_append, List.cons_append, List.append_nil, List.length_cons, List.length_nil, Nat.zero_add,
  Option.some.injEq, V.ref.injEq, V.int.injEq, V.str.injEq, V.bl.injEq, HO.ins.injEq, HO.lst.injEq, HO.tup.injEq, List.cons.injEq, exists_eq_left, exists_eq_left', exists_eq_right, exists_eq_right', and_true, true_and, exists_and_left, exists_and_right, and_assoc, decide_eq_true_eq, Bool.not_eq_true', decide_eq_false_iff_not, reduceCtorEq, exists_const, forall_const, if_true, if_false, false_and, and_false, ite_true, ite_false, Bool.true_eq_false, Bool.false_eq_true, Nat.reduceLeDiff, Nat.reduceAdd, small_line, small_lt, upd_ne, ne_eq, not_false_eq_true, Nat.zero_le, Prod.mk.injEq, upd_same, upd_upd, S_tl, S_len, S_app, S_one, S_inj,
  lk_breaks, lk_hard, lk_soft, lk_bend, lk_note, lk_rules, lk_state, lk_bent, lk_word, lk_begun, lk_opened, lk_place, pt_state, pt_bent, pt_word, pt_wordS, pt_wordN, pt_begun, pt_opened, pt_place, pt_place1, len_mf, litv_empty, litv_note, litv_nl, mf_inj, rf_inj, lkn_begin, lkn_ended, lkn_plain, lkn_quoted, lkn_step, lkn_fault, lkn_key, lkn_told, lkn_quotes, lkn_special, pt_open1, not_true_eq_false, not_false_eq_true])
local macro_rules | `(tactic| walk_at "rdh") => `(tactic| simp only [rMinD, rRemD, tDGet, tDIn, tDNotIn, sDPut, tDNewT, tLstRg, tRg2, iEnum, iRng3, tRevL, rSlS, rSlL, gSub, rSetL, wipe, List.map_cons, List.map_nil, rAll, rAny, rIsi, tM1, tM0, iZipLT, iZip, iRng2, tLenSetS, rListStr, rMulS, rRep, rCntB, tRevS, rNeD, rEqD, tSeq, tNext, tAsg, tRet, tRetN, tDrop, tIfS, sFld, sFldAug, tVar, tC, tOp, tUn, tTest, tB, tAnd, tOr, tNot, tAndV, tOrV, tNotV, tIf, tTup, tLst, tCons, tNil, tCB, tCall, tMeth, tMake, tFld, rI, rI0, rU, rEq, rNe, rCat, gName, gTup, gCons, gNil, tPar, tPar3, tBM, tBM0, rAppend, rExtend, rPopAt, rIxL, rIxT, rIxS, tSl, rSlS, rSlL, tPart, tNoPart, iStr, iTup, iList, iRng1, tAug, ipI, L2.rAdd, L2.rSub, L2.rAddS, tChain, rIsB, rNotB, scal_ss, scal_ii, scal_bb, scal_nn, scal_in, scal_ni, tYes,
  cx_K, cx_N, List.getElem?_cons_zero, List.getElem?_cons_succ, List.set_cons_zero, List.set_cons_succ, List.nil_append, List.cons_append, List.append_nil, List.length_cons, List.length_nil, Nat.zero_add,
  Option.some.injEq, V.ref.injEq, V.int.injEq, V.str.injEq, V.bl.injEq, HO.ins.injEq, HO.lst.injEq, HO.tup.injEq, List.cons.injEq, exists_eq_left, exists_eq_left', exists_eq_right, exists_eq_right', and_true, true_and, exists_and_left, exists_and_right, and_assoc, decide_eq_true_eq, Bool.not_eq_true', decide_eq_false_iff_not, reduceCtorEq, exists_const, forall_const, if_true, if_false, false_and, and_false, ite_true, ite_false, Bool.true_eq_false, Bool.false_eq_true, Nat.reduceLeDiff, Nat.reduceAdd, small_line, small_lt, upd_ne, ne_eq, not_false_eq_true, Nat.zero_le, Prod.mk.injEq, upd_same, upd_upd, S_tl, S_len, S_app, S_one, S_inj,
  lk_breaks, lk_hard, lk_soft, lk_bend, lk_note, lk_rules, lk_state, lk_bent, lk_word, lk_begun, lk_opened, lk_place, pt_state, pt_bent, pt_word, pt_wordS, pt_wordN, pt_begun, pt_opened, pt_place, pt_place1, len_mf, litv_empty, litv_note, litv_nl, mf_inj, rf_inj, lkn_begin, lkn_ended, lkn_plain, lkn_quoted, lkn_step, lkn_fault, lkn_key, lkn_told, lkn_quotes, lkn_special, pt_open1, not_true_eq_false, not_false_eq_true, *])
local macro_rules | `(tactic| walk_at "pl") => `(tactic| (first | decide | (refine Nat.lt_of_le_of_lt (length_putF _ _ _) ?_; repeat (first | decide | refine pl2 ?_))))
local macro_rules | `(tactic| walk_at "al") => `(tactic| (intro p hp; generalize hH : upd _ p _ = H1; obtain ⟨S, e⟩ := gen_new hH hp; clear hH))
local macro_rules | `(tactic| walk_at "rc") => `(tactic| simp only [rMinD, rRemD, tDGet, tDIn, tDNotIn, sDPut, tDNewT, tLstRg, tRg2, iEnum, iRng3, tRevL, rSlS, rSlL, gSub, rSetL, wipe, List.map_cons, List.map_nil, rAll, rAny, rIsi, tM1, tM0, iZipLT, iZip, iRng2, tLenSetS, rListStr, rMulS, rRep, rCntB, tRevS, rNeD, rEqD, tNext, tAsg, tRet, tRetN, tDrop, tIfS, sFld, sFldAug, tVar, tC, tOp, tUn, tTest, tB, tAnd, tOr, tNot, tAndV, tOrV, tNotV, tIf, tTup, tLst, tCons, tNil, tCB, tCall, tMeth, tMake, tFld, rI, rI0, rU, rEq, rNe, rCat, gName, gTup, gCons, gNil, tPar, tPar3, tBM, tBM0, rAppend, rExtend, rPopAt, rIxL, rIxT, rIxS, tSl, rSlS, rSlL, tPart, tNoPart, iStr, iTup, iList, iRng1, tAug, ipI, L2.rAdd, L2.rSub, L2.rAddS, tChain, rIsB, rNotB, scal_ss, scal_ii, scal_bb, scal_nn, scal_in, scal_ni, tYes,
  cx_K, cx_N, List.getElem?_cons_zero, List.getElem?_cons_succ, List.set_cons_zero, List.set_cons_succ, List.nil_append, List.cons_append, List.append_nil, List.length_cons, List.length_nil, Nat.zero_add,
  Option.some.injEq, V.ref.injEq, V.int.injEq, V.str.injEq, V.bl.injEq, HO.ins.injEq, HO.lst.injEq, HO.tup.injEq, List.cons.injEq, exists_eq_left, exists_eq_left', exists_eq_right, exists_eq_right', and_true, true_and, exists_and_left, exists_and_right, and_assoc, decide_eq_true_eq, Bool.not_eq_true', decide_eq_false_iff_not, reduceCtorEq, exists_const, forall_const, if_true, if_false, false_and, and_false, ite_true, ite_false, Bool.true_eq_false, Bool.false_eq_true, Nat.reduceLeDiff, Nat.reduceAdd, small_line, small_lt, upd_ne, ne_eq, not_false_eq_true, Nat.zero_le, Prod.mk.injEq, upd_same, upd_upd, S_tl, S_len, S_app, S_one, S_inj,
  lk_breaks, lk_hard, lk_soft, lk_bend, lk_note, lk_rules, lk_state, lk_bent, lk_word, lk_begun, lk_opened, lk_place, pt_state, pt_bent, pt_word, pt_wordS, pt_wordN, pt_begun, pt_opened, pt_place, pt_place1, len_mf, litv_empty, litv_note, litv_nl, mf_inj, rf_inj, lkn_begin, lkn_ended, lkn_plain, lkn_quoted, lkn_step, lkn_fault, lkn_key, lkn_told, lkn_quotes, lkn_special, pt_open1, not_true_eq_false, not_false_eq_true])
local macro_rules | `(tactic| walk_at "gt") => `(tactic| simp only [gTup, gCons, gNil, gName, List.set_cons_zero, List.set_cons_succ, Option.some.injEq, V.ref.injEq, V.int.injEq, V.str.injEq, HO.tup.injEq, List.cons.injEq, exists_eq_left, exists_eq_left', exists_eq_right, exists_eq_right', and_true, true_and, exists_and_left, exists_and_right, and_assoc, reduceCtorEq, exists_const])
/-! ### the law's own search, walked -/
def enD (e : En) : PyData := .tuple [.int (e.1 : Nat), .int (e.2.1 : Nat), .int (e.2.2 : Nat)]
def EnV (H : Hp) (v : V) (e : En) : Prop := ∃ p, v = .ref p ∧ H p = some (.tup [.int (e.1 : Nat), .int (e.2.1 : Nat), .int (e.2.2 : Nat)])
theorem EnV.tk {H H' : Hp} {v : V} {e : En} (h : EnV H v e) (t : Tk H H') : EnV H' v e := by
  obtain ⟨p, rfl, h⟩ := h
  exact ⟨p, rfl, t _ _ h⟩
theorem EnV.dp {K : PySem.W.Frag} {H : Hp} {v : V} {e : En} (h : EnV H v e) : Dp K H v (enD e) := by
  obtain ⟨p, rfl, h⟩ := h
  exact .tup (.inl (.inl h)) (.cons (.int _) (.cons (.int _) (.cons (.int _) .nil)))
theorem alike_en (x y : En) : PySem.W.alike (enD x) (enD y) = true := by
  simp only [enD, PySem.W.alike, PySem.W.alikeAll, Bool.and_self]
theorem lt_en (x y : En) : (PySem.W.dataLt (enD x) (enD y) = true → x.1 ≤ y.1) ∧ (PySem.W.dataLt (enD x) (enD y) = false → y.1 ≤ x.1) := by
  have al : PySem.W.alike (.int (x.1 : Nat)) (.int (y.1 : Nat)) = true := by simp only [PySem.W.alike]
  rw [enD, enD, PySem.W.dataLt_tuple]
  by_cases h : x.1 = y.1
  · rw [h]
    exact ⟨fun _ => Nat.le_refl _, fun _ => Nat.le_refl _⟩
  · rw [PySem.W.dataLt_all_no al (by simp only [PyData.eqv]; exact decide_eq_false (by omega)), PySem.W.dataLt_int]
    simp only [decide_eq_true_eq, decide_eq_false_iff_not]
    omega
theorem min_en : ∀ (T : List En) (t : En), ∃ e ∈ t :: T, PySem.W.minD (enD t) (T.map enD) = enD e ∧ ∀ y ∈ t :: T, e.1 ≤ y.1
  | [], t => ⟨t, List.mem_cons_self, rfl, fun y hy => by rw [List.mem_singleton.mp hy]; exact Nat.le_refl _⟩
  | u :: T, t => by
    have l := lt_en u t
    cases h : PySem.W.dataLt (enD u) (enD t) with
    | true =>
      obtain ⟨e, h1, h2, h3⟩ := min_en T u
      refine ⟨e, List.mem_cons_of_mem _ h1, ?_, fun y hy => ?_⟩
      · rw [← h2, PySem.W.minD, List.map_cons, List.foldl_cons, h]
        rfl
      · rcases List.mem_cons.mp hy with z | z
        · rw [z]
          exact Nat.le_trans (h3 u List.mem_cons_self) (l.1 h)
        · exact h3 y z
    | false =>
      obtain ⟨e, h1, h2, h3⟩ := min_en T t
      refine ⟨e, ?_, ?_, fun y hy => ?_⟩
      · rcases List.mem_cons.mp h1 with z | z
        · rw [z]; exact List.mem_cons_self
        · exact List.mem_cons_of_mem _ (List.mem_cons_of_mem _ z)
      · rw [← h2, PySem.W.minD, List.map_cons, List.foldl_cons, h]
        rfl
      · rcases List.mem_cons.mp hy with z | z
        · rw [z]; exact h3 t List.mem_cons_self
        rcases List.mem_cons.mp z with z | z
        · rw [z]
          exact Nat.le_trans (h3 t List.mem_cons_self) (l.2 h)
        · exact h3 y (List.mem_cons_of_mem _ z)
theorem enD_inj {x y : En} : enD x = enD y ↔ x = y := by
  obtain ⟨a, b, c⟩ := x
  obtain ⟨d, e, f⟩ := y
  simp only [enD, PyData.tuple.injEq, List.cons.injEq, PyData.int.injEq, Prod.mk.injEq, and_true]
  omega
theorem enD_tame {e : En} (h : e.1 ≤ 1000 ∧ e.2.1 ≤ 1000 ∧ e.2.2 ≤ 1000) : tame (enD e) = true := by
  simp only [enD, tame, tameAll, Bool.and_true, Bool.and_eq_true, decide_eq_true_eq]
  omega
theorem enD_plain (e : En) : (enD e).plain = true := by
  simp [enD, PyData.plain, PyData.plainAll]
theorem enD_plainAll : ∀ T : List En, PyData.plainAll (T.map enD) = true
  | [] => by simp [PyData.plainAll]
  | e :: T => by
    rw [List.map_cons, PyData.plainAll, enD_plain, enD_plainAll T]
    rfl
theorem enD_depth (e : En) : (enD e).depth ≤ 1 := by
  simp [enD, PyData.depth, PyData.depthAll]
theorem place_en {T : List En} {e : En} (h : ∀ y ∈ T, tame (enD y) = true) (he : e ∈ T) : ∃ j, PySem.SeqAt.dataPlace (T.map enD) (enD e) = some j ∧ T[j]? = some e := by
  unfold PySem.SeqAt.dataPlace
  cases hf : (T.map enD).findIdx? fun y => PyData.eqv y (enD e) with
  | none =>
    have := List.findIdx?_eq_none_iff.mp hf (enD e) (List.mem_map.mpr ⟨e, he, rfl⟩)
    rw [(eqv_iff _ _ (h e he) (h e he)).mpr rfl] at this
    cases this
  | some j =>
    refine ⟨j, rfl, ?_⟩
    obtain ⟨h1, h2, _⟩ := List.findIdx?_eq_some_iff_getElem.mp hf
    rw [List.length_map] at h1
    rw [List.getElem_map] at h2
    have := (eqv_iff _ _ (h _ (List.getElem_mem h1)) (h e he)).mp h2
    rw [List.getElem?_eq_getElem h1, enD_inj.mp this]
theorem Paired.atL {α β : Type} {F : α → β → Prop} : ∀ {l : List α} {m : List β} {i : Nat} {x : α}, Paired F l m → l[i]? = some x → ∃ y, m[i]? = some y ∧ F x y
  | _, _, 0, _, .cons r _, h => by
    cases h
    exact ⟨_, rfl, r⟩
  | _, _, i + 1, _, .cons _ t, h => by
    obtain ⟨x, h1, h2⟩ := Paired.atL (i := i) t (by simpa using h)
    exact ⟨x, by simpa using h1, h2⟩
  | _, _, _, _, .nil, h => by simp at h
theorem mem_out {α : Type} : ∀ (l : List α) (j : Nat) (e : α), l[j]? = some e → ∀ y ∈ l, y = e ∨ y ∈ l.eraseIdx j
  | [], _, _, h, _, _ => by simp at h
  | x :: l, 0, e, h, y, hy => by
    have : x = e := by simpa using h
    subst this
    rcases List.mem_cons.mp hy with z | z
    · exact .inl z
    · exact .inr z
  | x :: l, j + 1, e, h, y, hy => by
    rcases List.mem_cons.mp hy with z | z
    · rw [z]; exact .inr List.mem_cons_self
    · rcases mem_out l j e (by simpa using h) y z with q | q
      · exact .inl q
      · exact .inr (List.mem_cons_of_mem _ q)
theorem Paired.erase {α β : Type} {F : α → β → Prop} : ∀ {l : List α} {m : List β} (i : Nat), Paired F l m → Paired F (l.eraseIdx i) (m.eraseIdx i)
  | _, _, _, .nil => .nil
  | _, _, 0, .cons _ t => t
  | _, _, i + 1, .cons r t => .cons r (Paired.erase i t)
def bT (B : Bs) : List (List Key × V) := B.map fun y => ([.inl (y.1.1 : Nat), .inl (y.1.2 : Nat)], .int (y.2 : Nat))
theorem bT_key {i k i' k' : Nat} : (([.inl (i : Nat), .inl (k : Nat)] : List Key) = [.inl (i' : Nat), .inl (k' : Nat)]) ↔ (i = i' ∧ k = k') := by
  simp only [List.cons.injEq, Sum.inl.injEq, and_true]
  omega
theorem val_seen : ∀ (B : Bs) (i k : Nat), ((valV (bT B) [.inl (i : Nat), .inl (k : Nat)]).isSome = true ↔ Seen B i k) ∧ ∀ v, valV (bT B) [.inl (i : Nat), .inl (k : Nat)] = some v → ∃ c, ((i, k), c) ∈ B ∧ v = .int (c : Nat)
  | [], i, k => ⟨⟨fun h => by simp [bT, valV] at h, fun ⟨c, h⟩ => (nomatch h)⟩, fun v h => by simp [bT, valV] at h⟩
  | y :: B, i, k => by
    have ih := val_seen B i k
    have e : bT (y :: B) = ([.inl (y.1.1 : Nat), .inl (y.1.2 : Nat)], .int (y.2 : Nat)) :: bT B := rfl
    by_cases h : y.1.1 = i ∧ y.1.2 = k
    · rw [e, valV_pos (bT_key.mpr h)]
      obtain ⟨⟨a, b⟩, c⟩ := y
      obtain ⟨rfl, rfl⟩ := h
      exact ⟨⟨fun _ => ⟨c, List.mem_cons_self⟩, fun _ => rfl⟩, fun v hv => ⟨c, List.mem_cons_self, (Option.some.inj hv).symm⟩⟩
    · rw [e, valV_neg (fun z => h (bT_key.mp z))]
      refine ⟨ih.1.trans ⟨fun ⟨c, q⟩ => ⟨c, List.mem_cons_of_mem _ q⟩, fun ⟨c, q⟩ => ?_⟩, fun v hv => ?_⟩
      · rcases List.mem_cons.mp q with z | z
        · rw [← z] at h; exact absurd ⟨rfl, rfl⟩ h
        · exact ⟨c, z⟩
      · obtain ⟨c, q, e⟩ := ih.2 v hv
        exact ⟨c, List.mem_cons_of_mem _ q, e⟩
theorem put_new {B : Bs} {i k : Nat} (c : Nat) (h : ¬ Seen B i k) : putK (bT B) [.inl (i : Nat), .inl (k : Nat)] (.int (c : Nat)) = bT (B ++ [((i, k), c)]) := by
  have : ((bT B).any fun kv => decide (kv.1 = [.inl (i : Nat), .inl (k : Nat)])) = false := by
    rw [valV_any, Bool.eq_false_iff]
    exact fun z => h ((val_seen B i k).1.mp z)
  rw [putK, if_neg (by rw [this]; decide), bT, bT, List.map_append]
  rfl
theorem others_v {n : Nat} : rgV 1 (n : Nat) = (List.range' 1 (n - 1)).map fun k => V.int (k : Nat) := by
  unfold rgV
  rw [show ((n : Int) - 1).toNat = n - 1 by omega, List.range'_eq_map_range, List.map_map]
  refine List.map_congr_left fun i _ => ?_
  show V.int (1 + (i : Nat)) = V.int ((1 + i : Nat) : Int)
  congr 1
theorem others_len (r : RS) (k : Nat) (hq : r.quotes.length ≤ 4) : (othersT r k).length ≤ 4 := by
  unfold othersT
  split
  · rw [List.length_range', sts_len]; omega
  · simp
theorem Paired.mapR {α β γ : Type} {F : α → γ → Prop} (f : β → γ) : ∀ {l : List α} {m : List β}, Paired (fun x y => F x (f y)) l m → Paired F l (m.map f)
  | _, _, .nil => .nil
  | _, _, .cons r t => .cons r (Paired.mapR f t)
/-- where the search stands -/
structure Src (r : RS) (wd : Tx) (H0 H : Hp) (bp tq : Addr) (T : List En) (B : Bs) : Prop where
  sm : Same H0 H
  b0 : H0 bp = none
  t0 : H0 tq = none
  hb : H bp = some (.dT (bT B))
  ht : ∃ xs, H tq = some (.lst xs) ∧ Paired (EnV H) xs T
theorem Src.same {r : RS} {wd : Tx} {H0 H H' : Hp} {bp tq : Addr} {T : List En} {B : Bs} (S : Src r wd H0 H bp tq T B) (s : Same H H') : Src r wd H0 H' bp tq T B := by
  obtain ⟨xs, h1, h2⟩ := S.ht
  exact ⟨S.sm.trans s, S.b0, S.t0, s _ _ S.hb, xs, s _ _ h1, Paired.mapP h2 fun _ _ z => z.tk s.tk⟩
theorem SI.small {r : RS} (ok : r.Ok) {wd : Tx} (wl : wd.length ≤ 12) {T : List En} {B : Bs} (S : SI r wd T B) : ∀ e ∈ T, e.1 ≤ 1000 ∧ e.2.1 ≤ 1000 ∧ e.2.2 ≤ 1000 := fun e he => by
  obtain ⟨h1, h2, _, h4⟩ := S.tb e he
  have := r.quotes_len ok
  have h5 := sts_len r
  omega
section
variable {P : Program} {w : World} {K : PySem.W.Frag} {mg : Str → Option Value} {base : Heap} {a : Ad}
def sp_law_least : Sp := fun vs H Q _ => ∃ (tp : Addr) (r : RS) (wd : Tx), vs = [.ref tp, .str (S wd)] ∧ H tp = some (.tup (RS.tup r)) ∧ r.Ok ∧ wd.length ≤ 12 ∧ cannotT r wd = false ∧ ∀ H', Same H H' → Q (.int (leastT r wd : Nat)) H'
theorem ok__law_least (T : Txt K mg a) : FnOk P w K mg base CX0 2 a.f__law_least a.d__law_least P__law_least sp_law_least := by
  refine T.F__law_least.ok sc__law_least (fun vs H Q E h => ?_) (fun cdv A outer s H vs Q E hr h => ?_)
  · obtain ⟨tp, r, wd, rfl, _⟩ := h
    rfl
  · obtain ⟨tp, r, wd, rfl, ht, ok, wl, cn, k⟩ := h
    have G__law_states := ok__law_states (P := P) (w := w) (base := base) T
    have B__law_states := bi__law_states T
    have G__law_costs := ok__law_costs (P := P) (w := w) (base := base) T
    have B__law_costs := bi__law_costs T
    refine ⟨_,
(pss_cons (ps_if (pt_cmpR op_eq (pv 1) pe_str (nomark _)) (pss_one (ps_ret pe_int)) pss_nil)
    (pss_cons (ps_par (i := 2) (j := 3) (by rfl) sc__law_least.nd rfl rfl (by decide) rfl rfl (pa_cons pe_dnewT (pa_cons (pe_lst (pa_cons (pe_tup (pa_cons pe_int (pa_cons pe_int (pa_cons pe_int pa_nil)))) pa_nil)) pa_nil)) (by rfl))
    (pss_cons (ps_while PassesOwn.never (pt_cmpR (op_neD hr.units) (pv 3) (pe_lst pa_nil) (nomark _)) (pss_cons (ps_asg (pe_callB (cr_minD rfl hr.units) (by rfl) T.b_min (by decide +kernel) (pa_cons (pv 3) pa_nil)) (pg_tup rfl (pgs_cons (pg_name (i := 4) sc__law_least.nd rfl (by first | exact Or.inl rfl | exact Or.inr rfl)) (pgs_cons (pg_name (i := 5) sc__law_least.nd rfl (by first | exact Or.inl rfl | exact Or.inr rfl)) (pgs_cons (pg_name (i := 6) sc__law_least.nd rfl (by first | exact Or.inl rfl | exact Or.inr rfl)) pgs_nil)))))
    (pss_cons (ps_expr (pe_bm PySem.F.plainAttrs_list PySem.F.slot_list_remove PySem.F.type_list_remove (mt_removeD hr.units) (pv 3) (pa_cons (pe_tup (pa_cons (pv 4) (pa_cons (pv 5) (pa_cons (pv 6) pa_nil)))) pa_nil)))
    (pss_one (ps_if (pt_cmp (pc_dnotin (hu_of hr) (pe_tup (pa_cons (pv 5) (pa_cons (pv 6) pa_nil))) (pv 2))) (pss_cons (ps_dput (hu_of hr) (pv 2) (pe_tup (pa_cons (pv 5) (pa_cons (pv 6) pa_nil))) (pv 4) (by rfl))
    (pss_cons (ps_set (i := 7) sc__law_least.nd rfl (by first | exact Or.inl rfl | exact Or.inr rfl) (pe_call G__law_states (hr.mono (by decide)) rfl T.f__law_states.g T.f__law_states.k B__law_states .nil pass0 (pa_cons (pv 0) pa_nil)))
    (pss_cons (ps_set (i := 8) sc__law_least.nd rfl (by first | exact Or.inl rfl | exact Or.inr rfl) (pe_ifExp (pt_cmpR op_eq (pv 6) pe_int (nomark _)) (pe_listRg rfl rfl T.b_list (prg_2 rfl T.b_range pe_int (pe_callB call_len_seq (by rfl) T.b_len PySem.boot_len (pa_cons (pv 7) pa_nil)))) (pe_lst (pa_cons pe_int pa_nil))))
    (pss_cons (ps_set (i := 3) sc__law_least.nd rfl (by first | exact Or.inl rfl | exact Or.inr rfl) (pe_op op_cat (pv 3) (pe_lc (own := [("_law_k", 9)]) (g := gName 9) (tt := tYes) rfl sc__law_least.nd (pi_list (pv 8)) (blkOk_by (own := [("_law_k", 9)]) (N := N__law_least) (sc := defScope st__law_least) (by decide +kernel)) (fun _ _ _ _ _ => (pg_name (i := 9) sc__law_least.nd rfl (by first | exact Or.inl rfl | exact Or.inr rfl))) (fun _ _ _ _ _ => pts_nil) (fun _ _ _ _ _ => (pe_tup (pa_cons (pe_op op_add (pv 4) pe_int) (pa_cons (pv 5) (pa_cons (pv 9) pa_nil))))))))
    (pss_one (ps_if (pt_cmpR op_lt (pv 5) (pe_callB call_len_str (by rfl) T.b_len PySem.boot_len (pa_cons (pv 1) pa_nil)) (nomark _)) (pss_one (ps_set (i := 3) sc__law_least.nd rfl (by first | exact Or.inl rfl | exact Or.inr rfl) (pe_op op_cat (pv 3) (pe_lc (own := [("_law_more", 10)]) (g := gName 10) (tt := tYes) rfl sc__law_least.nd (pi_list (pe_call G__law_costs (hr.mono (by decide)) rfl T.f__law_costs.g T.f__law_costs.k B__law_costs .nil pass0 (pa_cons (pv 0) (pa_cons (pe_ix ix_list (pv 7) (pv 6) (fun _ _ => rfl)) (pa_cons (pe_ix ix_str (pv 1) (pv 5) (fun _ _ => rfl)) pa_nil))))) (blkOk_by (own := [("_law_more", 10)]) (N := N__law_least) (sc := defScope st__law_least) (by decide +kernel)) (fun _ _ _ _ _ => (pg_name (i := 10) sc__law_least.nd rfl (by first | exact Or.inl rfl | exact Or.inr rfl))) (fun _ _ _ _ _ => pts_nil) (fun _ _ _ _ _ => (pe_tup (pa_cons (pe_op op_add (pv 4) (pv 10)) (pa_cons (pe_op op_add (pv 5) pe_int) (pa_cons (pv 6) pa_nil))))))))) pss_nil)))))) pss_nil)))))
    (pss_one (ps_ret (pe_dget (hu_of hr) (pv 2) (pe_tup (pa_cons (pe_callB call_len_str (by rfl) T.b_len PySem.boot_len (pa_cons (pv 1) pa_nil)) (pa_cons pe_int pa_nil))) (fun _ _ => rfl)))))))
      , ?_⟩
    rw [show start N__law_least [V.ref tp, V.str (S wd)] = [some (.ref tp), some (.str (S wd)), none, none, none, none, none, none, none, none, none] from rfl]
    walk_at "rd"
    have hql := r.quotes_len ok
    have hsl := sts_len r
    refine ite2 (fun e => ?_) (fun e => ?_)
    · have k := k H (Same.refl _)
      rw [leastT, if_pos e] at k
      exact k
    have hw := can_of cn e
    have le : leastT r wd = dst r wd wd.length 0 := by rw [leastT, if_neg e, dst, List.take_length]
    intro bp hbp p1 hp1 p2 hp2
    have nb1 : p1 ≠ bp := ne_upd hp1
    have nb2 : p2 ≠ bp := ne_upd (none_upd hp2)
    have n12 : p2 ≠ p1 := ne_upd hp2
    have S0 : Src r wd H (upd (upd (upd H bp (HO.dT [])) p1 (HO.tup [V.int 0, V.int 0, V.int 0])) p2 (.lst [.ref p1])) bp p2 [(0, 0, 0)] [] := by
      refine ⟨(same_new hbp).trans ((same_new hp1).trans (same_new hp2)), hbp, none_upd (none_upd hp2), ?_, [.ref p1], upd_same, .cons ⟨p1, rfl, ?_⟩ .nil⟩
      · rw [upd_ne (Ne.symm nb2), upd_ne (Ne.symm nb1), upd_same]
        rfl
      · rw [upd_ne (Ne.symm n12), upd_same]
        rfl
    have l0 : leftT r wd [] ≤ 65 := Nat.le_trans (left_le r wd []) (Nat.le_trans (Nat.mul_le_mul (show wd.length + 1 ≤ 13 by omega) (show r.sts.length ≤ 5 by omega)) (by decide))
    refine while_rule (fun n σ H' => ∃ v4 v5 v6 v7 v8 v9 v10 tq T B, σ = [some (V.ref tp), some (V.str (S wd)), some (V.ref bp), some (V.ref tq), v4, v5, v6, v7, v8, v9, v10] ∧ Src r wd H H' bp tq T B ∧ SI r wd T B ∧
      n = T.length + 7 * leftT r wd B ∧ n + B.length ≤ 456) (1 + 7 * leftT r wd []) ⟨_, _, _, _, _, _, _, p2, _, _, rfl, S0, SI.zero r wd, rfl, by simp only [List.length_nil]; omega⟩ ?_
    rintro n σ1 H3 R ⟨v4, v5, v6, v7, v8, v9, v10, tq, T, B, rfl, S3, si, hn, hB⟩ hT hF
    obtain ⟨xs, ht3, hx3⟩ := S3.ht
    have sml := si.small ok wl
    have tms : ∀ y ∈ T, tame (enD y) = true := fun y hy => enD_tame (sml y hy)
    walk_at "rd"
    intro pe hpe
    have tmT : tame (.list (T.map enD)) = true := by
      simp only [tame, tameAll_iff, List.mem_map]
      rintro _ ⟨y, hy, rfl⟩
      exact tms y hy
    have dpT : (PyData.list (T.map enD)).depth ≤ 3 := by
      simp only [PyData.depth]
      refine Nat.succ_le_succ (depthAll_le (n := 2) fun x hx => ?_)
      obtain ⟨y, _, rfl⟩ := List.mem_map.mp hx
      have := enD_depth y
      omega
    have se := same_new (o := HO.lst []) hpe
    refine ⟨.list (T.map enD), .lst (.inl (.inl (se _ _ ht3))) (dpAll_paired (fun _ _ z => (z.tk se.tk).dp) hx3), .list [], .lst (.inl (.inl upd_same)) .nil, shaped_of tmT (by omega), by decide, ?_⟩
    rw [eqv_dec (p := T = []) tmT (by simp [tame, tameAll]) (by simp [PyData.list.injEq])]
    have S4 := S3.same se
    generalize upd H3 pe (HO.lst []) = H4 at *
    cases hTT : T with
    | nil =>
      rw [hTT] at si S4
      show R (!decide True) H4
      rw [decide_eq_true trivial]
      refine hF H4 ?_
      have sn := si.end_ ok hw (by omega)
      have v1 := (val_seen B wd.length 0).1.mpr sn
      obtain ⟨v, hv⟩ := Option.isSome_iff_exists.mp v1
      obtain ⟨c, hc, rfl⟩ := (val_seen B wd.length 0).2 v hv
      have hcd := (si.bb _ hc).2.2
      dsimp only at hcd
      walk_at "rd"
      refine ⟨line_le (by omega), fun pk hpk => ⟨_, ?_, k _ (S4.sm.trans (same_new hpk))⟩⟩
      rw [le, ← hcd, ← hv]
      exact DGet.t (k := [.inl (wd.length : Nat), .inl ((0 : Nat) : Int)]) (same_new hpk _ _ S4.hb) upd_same
    | cons t0 T0 =>
      have c0 : ¬ (t0 :: T0 = []) := fun z => by cases z
      rw [decide_eq_false c0]
      refine hT H4 ?_
      clear hT hF
      refine tseq_split (fun σ' H' => ∃ e ∈ T, (∀ y ∈ T, e.1 ≤ y.1) ∧ σ' = [some (V.ref tp), some (V.str (S wd)), some (V.ref bp), some (V.ref tq), some (.int (e.1 : Nat)), some (.int (e.2.1 : Nat)), some (.int (e.2.2 : Nat)), v7, v8, v9, v10] ∧ H' = H4) (fun N hN => ?_) ?_
      · walk_at "rd"
        obtain ⟨ys, ht4, hx4⟩ := S4.ht
        obtain ⟨e, e1, e2, e3⟩ := min_en T0 t0
        have dpx := dpAll_paired (K := K) (g := enD) (F := EnV H4) (fun _ _ z => z.dp) hx4
        rw [hTT] at dpx
        refine ⟨ys, .inl (.inl ht4), enD t0, T0.map enD, dpx, ⟨fun x hx y hy => ?_, fun x hx => ?_⟩, ?_, fun i x hx hd => ?_⟩
        · obtain ⟨x', _, rfl⟩ := List.mem_map.mp (show x ∈ (t0 :: T0).map enD from hx)
          obtain ⟨y', _, rfl⟩ := List.mem_map.mp (show y ∈ (t0 :: T0).map enD from hy)
          exact alike_en _ _
        · obtain ⟨x', _, rfl⟩ := List.mem_map.mp (show x ∈ (t0 :: T0).map enD from hx)
          exact fun z => by cases z
        · refine depthAll_le fun x hx => ?_
          obtain ⟨x', _, rfl⟩ := List.mem_map.mp (show x ∈ (t0 :: T0).map enD from hx)
          have := enD_depth x'
          omega
        · obtain ⟨e', he', p, rfl, hp⟩ := Paired.atL hx4 hx
          have : e' = e := by
            rw [e2, show enD t0 :: T0.map enD = (t0 :: T0).map enD from rfl, ← hTT, List.getElem?_map, he'] at hd
            exact enD_inj.mp (Option.some.inj hd)
          subst this
          refine ⟨p, rfl, _, .inl (.inl hp), rfl, _, _, rfl, _, _, rfl, _, _, rfl, rfl, hN _ _ ⟨e', List.mem_of_getElem? he', fun y hy => e3 y (by rw [← hTT]; exact hy), rfl, rfl⟩⟩
      rintro σ' H4' ⟨e, he, least, rfl, rfl⟩
      clear hTT c0
      obtain ⟨j, hj1, hj2⟩ := place_en tms he
      refine tseq_split (fun σ' H' => σ' = [some (V.ref tp), some (V.str (S wd)), some (V.ref bp), some (V.ref tq), some (.int (e.1 : Nat)), some (.int (e.2.1 : Nat)), some (.int (e.2.2 : Nat)), v7, v8, v9, v10] ∧ Src r wd H H' bp tq (T.eraseIdx j) B) (fun N hN => ?_) ?_
      · walk_at "rd"
        obtain ⟨ys, ht4, hx4⟩ := S4.ht
        refine ⟨.inl ⟨rfl, _, .inl (.inl ht4)⟩, fun p hp => ?_⟩
        obtain ⟨s, es⟩ := gen_new (o := HO.tup [V.int (e.1 : Nat), V.int (e.2.1 : Nat), V.int (e.2.2 : Nat)]) rfl hp
        generalize upd H4' p (HO.tup [V.int (e.1 : Nat), V.int (e.2.1 : Nat), V.int (e.2.2 : Nat)]) = G at *
        have htG := s _ _ ht4
        have hxG := Paired.mapP hx4 fun _ _ z => z.tk s.tk
        have tk : Tk G (upd G tq (.lst (ys.eraseIdx j))) := kp_upd.tk htG fun _ z => by cases z
        refine ⟨ys, htG, T.map enD, dpAll_paired (g := enD) (fun _ _ z => z.dp) hxG, enD e, .tup (.inl (.inl es)) (.cons (.int _) (.cons (.int _) (.cons (.int _) .nil))), enD_plainAll T, enD_plain e, ?_, j, hj1, hN _ _ ⟨rfl, ?_⟩⟩
        · have := enD_depth e
          omega
        · refine ⟨(S4.sm.trans s).mut S4.t0, S4.b0, S4.t0, ?_, ys.eraseIdx j, upd_same, Paired.erase j (Paired.mapP hxG fun _ _ z => z.tk tk)⟩
          rw [upd_ne (ne_of S4.hb ht4 fun z => by cases z)]
          exact s _ _ S4.hb
      rintro σ' H5 ⟨rfl, S5⟩
      have h1 : ∀ y ∈ T.eraseIdx j, y ∈ T := fun y hy => List.mem_of_mem_eraseIdx hy
      have h2 := mem_out T j e hj2
      have jl : j < T.length := (List.getElem?_eq_some_iff.mp hj2).1
      have hlT : (T.eraseIdx j).length + 1 = T.length := by rw [List.length_eraseIdx_of_lt jl]; omega
      generalize hT' : T.eraseIdx j = T' at *
      obtain ⟨be1, be2, be3, be4⟩ := si.tb e he
      walk_at "rc"
      intro pk hpk
      obtain ⟨s6, e6⟩ := gen_new (o := HO.tup [V.int (e.2.1 : Nat), V.int (e.2.2 : Nat)]) rfl hpk
      generalize upd H5 pk (HO.tup [V.int (e.2.1 : Nat), V.int (e.2.2 : Nat)]) = H6 at *
      have S6 := S5.same s6
      refine ⟨_, DGet.t (k := [.inl (e.2.1 : Nat), .inl (e.2.2 : Nat)]) S6.hb e6, ?_⟩
      by_cases sn : Seen B e.2.1 e.2.2
      · rw [((val_seen B e.2.1 e.2.2).1.mpr sn)]
        refine ite2 (fun z => by cases z) (fun _ => ?_)
        exact ⟨n - 1, by omega, T', B, S6, si.drop sn h1 h2, by omega, by omega⟩
      have vn : (valV (bT B) [.inl (e.2.1 : Nat), .inl (e.2.2 : Nat)]).isSome = false := by
        rw [Bool.eq_false_iff]
        exact fun z => sn ((val_seen B e.2.1 e.2.2).1.mp z)
      rw [vn]
      refine ite2 (fun _ => ?_) (fun z => absurd rfl z)
      have lp := left_put (c := e.1) be1 be2 sn
      have si6 := si.put ok hw (by omega) he least sn h1 h2
      have hol := out_len r wd e.1 e.2.1 e.2.2 hql
      have oe : outT r wd e.1 e.2.1 e.2.2 = (othersT r e.2.2).map (fun j => (e.1 + 1, e.2.1, j)) ++ moreT r wd e.1 e.2.1 e.2.2 := rfl
      refine tseq_split (fun σ' H' => σ' = [some (V.ref tp), some (V.str (S wd)), some (V.ref bp), some (V.ref tq), some (.int (e.1 : Nat)), some (.int (e.2.1 : Nat)), some (.int (e.2.2 : Nat)), v7, v8, v9, v10] ∧ Src r wd H H' bp tq T' (B ++ [((e.2.1, e.2.2), e.1)])) (fun N hN => ?_) ?_
      · walk_at "rd"
        intro pk2 hpk2
        obtain ⟨s7, e7⟩ := gen_new (o := HO.tup [V.int (e.2.1 : Nat), V.int (e.2.2 : Nat)]) rfl hpk2
        generalize upd H6 pk2 (HO.tup [V.int (e.2.1 : Nat), V.int (e.2.2 : Nat)]) = H7 at *
        have S7 := S6.same s7
        obtain ⟨ys, ht7, hx7⟩ := S7.ht
        refine ⟨_, DPut.t (k := [.inl (e.2.1 : Nat), .inl (e.2.2 : Nat)]) S7.hb e7 (Nat.lt_of_le_of_lt (show (bT B).length ≤ 456 by rw [bT, List.length_map]; omega) (by decide)), hN _ _ ⟨rfl, ?_⟩⟩
        rw [put_new e.1 sn]
        refine ⟨S7.sm.mut S7.b0, S7.b0, S7.t0, upd_same, ys, ?_, Paired.mapP hx7 fun _ _ z => z.tk (kp_upd.tk S7.hb fun _ z => by cases z)⟩
        rw [upd_ne (ne_of ht7 S7.hb fun z => by cases z)]
        exact ht7
      rintro σ' H8 ⟨rfl, S8⟩
      have ht8 := S8.sm _ _ ht
      refine tseq_split (fun σ' H' => ∃ ls, σ' = [some (V.ref tp), some (V.str (S wd)), some (V.ref bp), some (V.ref tq), some (.int (e.1 : Nat)), some (.int (e.2.1 : Nat)), some (.int (e.2.2 : Nat)), some (.ref ls), v8, v9, v10] ∧ Same H8 H' ∧ H' ls = some (.lst (r.sts.map fun s => .str (S (sT s))))) (fun N hN => ?_) ?_
      · walk_at "rd"
        exact ⟨tp, r, rfl, ht8, ok, fun l H' _ s9 e9 => hN _ _ ⟨l, rfl, s9, e9⟩⟩
      rintro σ' H9 ⟨ls, rfl, s9, e9⟩
      have S9 := S8.same s9
      refine tseq_split (fun σ' H' => ∃ lo, σ' = [some (V.ref tp), some (V.str (S wd)), some (V.ref bp), some (V.ref tq), some (.int (e.1 : Nat)), some (.int (e.2.1 : Nat)), some (.int (e.2.2 : Nat)), some (.ref ls), some (.ref lo), v9, v10] ∧ Same H9 H' ∧ H' lo = some (.lst ((othersT r e.2.2).map fun k => .int (k : Nat)))) (fun N hN => ?_) ?_
      · walk_at "rd"
        refine ite2 (fun k0 => ?_) (fun k0 => ?_)
        · have k0' : e.2.2 = 0 := by omega
          refine ⟨_, .inl (.inl (.inl e9)), ?_, fun q hq => ?_⟩
          · rw [List.length_map]
            exact RgOk.of_le (by omega) (by omega) (by omega) (by omega)
          · rw [List.length_map, others_v]
            exact hN _ _ ⟨q, rfl, same_new hq, by rw [upd_same, othersT, if_pos k0']⟩
        · intro q hq
          exact hN _ _ ⟨q, rfl, same_new hq, by rw [upd_same, othersT, if_neg (by omega)]; rfl⟩
      rintro σ' H10 ⟨lo, rfl, s10, e10⟩
      have S10 := S9.same s10
      have hol4 := others_len r e.2.2 hql
      refine tseq_split (fun σ' H' => ∃ tq', σ' = [some (V.ref tp), some (V.str (S wd)), some (V.ref bp), some (V.ref tq'), some (.int (e.1 : Nat)), some (.int (e.2.1 : Nat)), some (.int (e.2.2 : Nat)), some (.ref ls), some (.ref lo), v9, v10] ∧ Same H10 H' ∧ Src r wd H H' bp tq' (T' ++ (othersT r e.2.2).map (fun j => (e.1 + 1, e.2.1, j))) (B ++ [((e.2.1, e.2.2), e.1)])) (fun N hN => ?_) ?_
      · walk_at "rd"
        refine tlc_all (ι := Unit) (C := fun _ => True) (J := fun _ => Itl K lo) (H1 := fun _ => H10) (fun R hR => ?_) fun _ _ D hD => ?_
        · walk_at "rd"
          exact ⟨⟨_, .inl (.inl e10)⟩, hR () trivial⟩
        refine lc_rel (othersT r e.2.2) (fun H' v j => EnV H' v (e.1 + 1, e.2.1, j)) (fun kd ⟨_, hx⟩ z => z.tk (kd.tk hx fun _ z => by cases z)) (G := fun H => SqL K H lo ((othersT r e.2.2).map fun k => .int (k : Nat))) (List.length_map (as := othersT r e.2.2) (fun k => V.int (k : Nat)) ▸ walk_list) (by omega) hD (fun H s => .inl (.inl (s _ _ e10))) ?_ ?_
        · rintro R R' i j x G G' hj g ⟨rfl, hx⟩ hk
          rw [List.getElem?_map, hj] at hx
          cases hx
          walk_at "rd"
          intro q hq
          exact hk _ _ (same_new hq) ⟨q, rfl, by rw [upd_same]; rfl⟩
        · intro G ys g eD prs
          have SG := S10.same g
          obtain ⟨ys0, h0, hx0⟩ := SG.ht
          have l0 := hx0.length
          have l1 := prs.length
          refine ⟨D, rfl, _, h0, _, eD, line_le (by omega), fun q hq => hN _ _ ⟨q, rfl, g.trans (same_new hq), ?_⟩⟩
          have sq := same_new (o := HO.lst (ys0 ++ ys)) hq
          exact ⟨SG.sm.trans sq, S10.b0, SG.sm.free hq, sq _ _ SG.hb, _, upd_same, Paired.app (Paired.mapP hx0 fun _ _ z => z.tk sq.tk) (Paired.mapR _ (Paired.mapP prs fun _ _ z => z.tk sq.tk))⟩
      rintro σ' H11 ⟨tq', rfl, s11, S11⟩
      have ht11 := S11.sm _ _ ht
      have els := s11 _ _ (s10 _ _ e9)
      walk_at "rd"
      refine ⟨line_le (by omega), ite2 (fun lt => ?_) (fun ge => ?_)⟩
      · have lt' : e.2.1 < wd.length := by omega
        have em : moreT r wd e.1 e.2.1 e.2.2 = (costsT r (r.sts.getD e.2.2 none) (wd.getD e.2.1 0)).map fun m => (e.1 + m, e.2.1 + 1, e.2.2) := if_pos lt'
        have cf := costs_few (r := r) (r.sts.getD e.2.2 none) (wd.getD e.2.1 0)
        refine tlc_all (ι := Addr × Hp) (C := fun x => Same H11 x.2 ∧ x.2 x.1 = some (.lst ((costsT r (r.sts.getD e.2.2 none) (wd.getD e.2.1 0)).map fun k => .int (k : Nat)))) (J := fun x => Itl K x.1) (H1 := fun x => x.2) (fun R hR => ?_) fun x hx D hD => ?_
        · walk_at "rd"
          have e1 : atI (r.sts.map fun s => V.str (S (sT s))) (e.2.2 : Nat) = some (.str (S (sT (r.sts.getD e.2.2 none)))) := by
            refine atI_nat ?_
            rw [List.getElem?_map, List.getD_eq_getElem?_getD, List.getElem?_eq_getElem be2]
            rfl
          have e2 : atI wd (e.2.1 : Nat) = some (wd.getD e.2.1 0) := by
            refine atI_nat ?_
            rw [List.getD_eq_getElem?_getD, List.getElem?_eq_getElem lt']
            rfl
          refine ⟨_, .inl (.inl els), _, e1, line_le (by omega), _, e2, tp, r, _, _, rfl, ht11, ok, fun l H' _ s12 e12 => ?_⟩
          exact ⟨l, rfl, ⟨_, .inl (.inl e12)⟩, hR (l, H') ⟨s12, e12⟩⟩
        obtain ⟨lc, G0⟩ := x
        obtain ⟨g0, ec⟩ := hx
        dsimp only at g0 ec hD
        refine lc_rel (costsT r (r.sts.getD e.2.2 none) (wd.getD e.2.1 0)) (fun H' v m => EnV H' v (e.1 + m, e.2.1 + 1, e.2.2)) (fun kd ⟨_, hx⟩ z => z.tk (kd.tk hx fun _ z => by cases z)) (G := fun H => SqL K H lc ((costsT r (r.sts.getD e.2.2 none) (wd.getD e.2.1 0)).map fun k => .int (k : Nat))) (List.length_map (as := costsT r (r.sts.getD e.2.2 none) (wd.getD e.2.1 0)) (fun k => V.int (k : Nat)) ▸ walk_list) (by omega) hD (fun H s => .inl (.inl (s _ _ ec))) ?_ ?_
        · rintro R R' i j x G G' hj g ⟨rfl, hx⟩ hk
          rw [List.getElem?_map, hj] at hx
          cases hx
          walk_at "rd"
          intro q hq
          exact hk _ _ (same_new hq) ⟨q, rfl, by rw [upd_same]; rfl⟩
        · intro G ys g eD prs
          have SG := S11.same (g0.trans g)
          obtain ⟨ys0, h0, hx0⟩ := SG.ht
          have l0 := hx0.length
          have l1 := prs.length
          have lo := List.length_map (as := othersT r e.2.2) (fun j => (e.1 + 1, e.2.1, j))
          rw [List.length_append, lo] at l0
          have lx : (T' ++ outT r wd e.1 e.2.1 e.2.2).length ≤ T'.length + 6 := by rw [List.length_append]; omega
          refine ⟨D, rfl, _, h0, _, eD, line_le (by omega), fun q hq => ⟨_, ?_, T' ++ outT r wd e.1 e.2.1 e.2.2, _, ?_, si6, rfl, ?_⟩⟩
          · omega
          · have sq := same_new (o := HO.lst (ys0 ++ ys)) hq
            rw [oe, em, ← List.append_assoc]
            exact ⟨SG.sm.trans sq, S11.b0, SG.sm.free hq, sq _ _ SG.hb, _, upd_same, Paired.app (Paired.mapP hx0 fun _ _ z => z.tk sq.tk) (Paired.mapR _ (Paired.mapP prs fun _ _ z => z.tk sq.tk))⟩
          · rw [List.length_append (as := B)]
            simp only [List.length_cons, List.length_nil]
            omega
      · have em : moreT r wd e.1 e.2.1 e.2.2 = [] := if_neg (by omega)
        have lx : (T' ++ outT r wd e.1 e.2.1 e.2.2).length ≤ T'.length + 6 := by rw [List.length_append]; omega
        refine ⟨_, ?_, T' ++ outT r wd e.1 e.2.1 e.2.2, _, ?_, si6, rfl, ?_⟩
        · omega
        · rw [oe, em, List.append_nil]
          exact S11
        · rw [List.length_append (as := B)]
          simp only [List.length_cons, List.length_nil]
          omega
end
end Qw

set_option Elab.async false
set_option linter.all false
set_option maxRecDepth 100000
set_option maxHeartbeats 4000000
namespace Qw
open PySem L2 PySem.Spec PyProof.Rows
/-! ### own errors: isinstance of one that is caught, the making of one with a field -/
/-- what the text says of an error's class -/
structure ErrC (K : PySem.W.Frag) (D : Addr) : Prop where
  ga : PySem.W.findIn K (.ref D) "__getattribute__" = some (some (.builtin "BaseException.__getattribute__"))
  gg : PySem.W.findIn K (.ref D) "__getattr__" = some none
  be : PySem.W.subIn K (.ref D) (.type "BaseException") = some true
  hd : PySem.W.hasDictIn K D = true
  cl : PySem.W.findIn K (.ref D) "__class__" = some (some (.builtin "object.__class__"))
  gn : PySem.W.specialIn K (.builtin "object.__class__") "__get__" = some (some (.builtin "getset_descriptor.__get__"))
  tk : PySem.W.takesIn K (.builtin "object.__class__") = some true
  ob : PySem.W.mroIn K D (.type "object") = some true
  ty : PySem.W.typeIn K (.ref D) = some (.type "type")
  kp : PySem.W.keepIn K (.ref D) = true
theorem ErrC.some {K : PySem.W.Frag} {D : Addr} (e : ErrC K D) : (PySem.W.clsIn K D).isSome = true := by
  obtain ⟨cd, hc, _⟩ := PySem.W.any_some e.hd
  rw [hc]
  rfl
theorem ErrC.xf {K : PySem.W.Frag} {D : Addr} (e : ErrC K D) : XfC K D := ⟨e.ga, e.gg, e.be, e.hd⟩
theorem ErrC.raises {X : Cx} {D : Addr} (e : ErrC X.K D) : Raises X (.ref D) := raises_own e.be e.ty
/-- a clause's test -/
theorem ErrC.clause {K : PySem.W.Frag} {C D : Addr} {b : Bool} (e : ErrC K D) (h : PySem.W.subIn K (.ref C) (.ref D) = Option.some b) : PySem.W.exmOne K (.ref C) (.ref D) = Option.some b := PySem.W.exm_ref e.be e.hd e.ty h
/-- isinstance(error, c) in the suite, the error at a of the class cls, its fields at d -/
def rIsX (K : PySem.W.Frag) (cls : Value) (d : Option Addr) (a : Addr) : List V → Hp → VK → Prop := fun xs H Q => ∃ (D : Addr) (c : V) (cv : Value) (b : Bool), cls = .ref D ∧ ErrC K D ∧ xs = [.ref a, c] ∧ (∀ u, RelV c u → u = cv) ∧
  PySem.W.kitOne K (.ref D) cv = Option.some b ∧ (d = Option.none ∨ ∃ dd fs, d = Option.some dd ∧ H dd = Option.some (.xd fs)) ∧ Q (.bl b) H
theorem call_isX {X : Cx} {a : Addr} {cls : Value} {d : Option Addr} {oe : Obj} {pn : List (Addr × Obj)} (zc : Zc cls d oe) (fl : ∃ vs, oe.data = .fields vs) : CallR (X.suite a ((a, oe) :: pn)) (.builtin "isinstance") (rIsX X.K cls d a) := by
  intro pins s σ H xs us Q I r h
  obtain ⟨D, c, cv, b, rfl, C, rfl, hcv, e, hd, q⟩ := h
  obtain ⟨u1, us1, rfl, r1, rr⟩ : ∃ u1 us1, us = u1 :: us1 ∧ RelV (.ref a) u1 ∧ Vals [c] us1 := by
    cases r with
    | cons x y => exact ⟨_, _, rfl, x, y⟩
  obtain ⟨u2, rfl, r2⟩ := rr.one
  cases r1
  cases hcv _ r2
  obtain ⟨at_, _⟩ := I.pin (a, oe) (List.mem_append.mpr (.inl List.mem_cons_self))
  obtain ⟨fv, hv⟩ := fl
  have done : ∀ od : Option Obj, PySem.W.InstAt s.heap a oe D od → wpAny (model X.prog X.w) (X.suite a ((a, oe) :: pn)).A (call (.builtin "isinstance") [.ref a, cv]) (EP (X.suite a ((a, oe) :: pn)) pins σ Q) (X.suite a ((a, oe) :: pn)).xe s := fun od J =>
    PySem.W.kia_one (PySem.W.kitx_exc C.some C.ga C.gg C.be C.cl C.gn C.tk C.ob) I.kIn J e (fun z => nomatch z) fun tk => ⟨.bl b, H, I.kept (t' := tk) fun _ _ z => z, rfl, q⟩
  have nc : PySem.W.notCls oe = true := by unfold PySem.W.notCls; rw [hv]
  rcases hd with rfl | ⟨dd, fs, rfl, hx⟩
  · refine done Option.none ⟨at_, zc.1, nc, ?_⟩
    rw [zc.2]
    trivial
  · obtain ⟨mA, hns, _⟩ := (show ObjOk X.prog X.w H s.heap dd (.xd fs) from I.hok dd _ hx)
    obtain ⟨od, ho, _⟩ := lookIn_ns hns
    refine done (Option.some od) ⟨at_, zc.1, nc, ?_⟩
    rw [zc.2]
    exact ho
/-- Base.__init__(self, ..) of an own class without one of its own, over ValueError -/
theorem pe_upinit {X : Cx} {x : Str} {D : Addr} {pl : Sem Bool} {e : Expr} {es : List Expr} {ta : TA} {p1 p2 pos : Pos} (hg : Gl X x) (hm : X.mg x = Option.some (.ref D)) (rd : PySem.W.readsIn X.K D (.type "type") = true)
    (gt : PySem.W.specialIn X.K (.ref D) "__getattribute__" = Option.some (Option.some (.builtin "type.__getattribute__")))
    (vV : PySem.W.findCls X.K (.ref D) (.type "type") "__init__" = Option.some (.val (.builtin "ValueError.__init__"))) (ha : PA X (e :: es) ta) (hdb : (x == ("__debug__" : Str)) = false := by decide)
    (hc : eval (.Call (.Attribute (.Name x p1) "__init__" p2) (e :: es) [] pos) X.env = (do
      let ov ← eval (.Name x p1) X.env
      standAt p2.atName
      let (g, first) ← holding [ov] (getMethod ov "__init__" pl)
      callWith pos g first (backTo pos (starEach (e :: es) X.env)) (backToKw pos (keywordEach [] X.env))) := by rfl)
    (he : starEach (e :: es) X.env = (false, eval e X.env) :: starEach es X.env := by rfl) (hpl : (backTo pos (starEach es X.env)).any (·.1) = false := by rfl) :
    PE X (.Call (.Attribute (.Name x p1) "__init__" p2) (e :: es) [] pos) (tVeI X.K ta) := by
  refine ⟨fun pins s σ H Q I h => ?_⟩
  refine PySem.W.methodCall_KW (ld_glob I hg hm ?_ hdb) hc
  refine PySem.W.method_cls I.kIn gt (PySem.W.cls_value I.kIn rd vV (by decide +kernel) ?_)
  have J0 := I.tok (s.toks + 1)
  show wpAny _ _ (callWith pos (Value.builtin "ValueError.__init__") [] (backTo pos (starEach (e :: es) X.env)) []) _ _ _
  refine callWith_method1 (thn (ha.run pos pins _ σ H _ J0 h) fun us s1 hh => ?_) he hpl
  obtain ⟨vs, H1, I1, r1, b, C, ws, rfl, hl, O, eb, q⟩ := hh
  obtain ⟨u0, ur, rfl, ra, rw'⟩ : ∃ u0 ur, us = u0 :: ur ∧ RelV (.ref b) u0 ∧ Vals ws ur := by
    cases r1 with
    | cons x y => exact ⟨_, _, rfl, x, y⟩
  cases ra
  refine oinit_ok O I1 eb ?_ fun s' J => ⟨.non, H1, J, rfl, q⟩
  have := rw'.length
  rw [sizeLine_eq]
  omega
end Qw

set_option Elab.async false
set_option linter.all false
set_option maxRecDepth 100000
set_option maxHeartbeats 4000000
namespace Qw
open PySem L2
local macro_rules | `(tactic| walk_at "rd") => `(tactic| simp only [rMinD, rRemD, tDGet, tDIn, tDNotIn, sDPut, tDNewT, tLstRg, tRg2, iEnum, iRng3, tRevL, rSlS, rSlL, gSub, rSetL, wipe, List.map_cons, List.map_nil, rAll, rAny, rIsi, tM1, tM0, iZipLT, iZip, iRng2, tLenSetS, rListStr, rMulS, rRep, rCntB, tRevS, rNeD, rEqD, tSeq, tNext, tAsg, tRet, tRetN, tDrop, tIfS, sFld, sFldAug, tVar, tC, tOp, tUn, tTest, tB, tAnd, tOr, tNot, tAndV, tOrV, tNotV, tIf, tTup, tLst, tCons, tNil, tCB, tCall, tMeth, tMake, tFld, rI, rI0, rU, rEq, rNe, rCat, gName, gTup, gCons, gNil, tPar, tPar3, tBM, tBM0, rAppend, rExtend, rPopAt, rIxL, rIxT, rIxS, tSl, rSlS, rSlL, tPart, tNoPart, iStr, iTup, iList, iRng1, tAug, ipI, L2.rAdd, L2.rSub, L2.rAddS, tChain, rIsB, rNotB, scal_ss, scal_ii, scal_bb, scal_nn, scal_in, scal_ni, tYes,
  cx_K, cx_N, List.getElem?_cons_zero, List.getElem?_cons_succ, List.set_cons_zero, List.set_cons_succ, List.nil_append, List.cons_append, List.append_nil, List.length_cons, List.length_nil, Nat.zero_add,
  Option.some.injEq, V.ref.injEq, V.int.injEq, V.str.injEq, V.bl.injEq, HO.ins.injEq, HO.lst.injEq, HO.tup.injEq, List.cons.injEq, exists_eq_left, exists_eq_left', exists_eq_right, exists_eq_right', and_true, true_and, exists_and_left, exists_and_right, and_assoc, decide_eq_true_eq, Bool.not_eq_true', decide_eq_false_iff_not, reduceCtorEq, exists_const, forall_const, if_true, if_false, false_and, and_false, ite_true, ite_false, Bool.true_eq_false, Bool.false_eq_true, Nat.reduceLeDiff, Nat.reduceAdd, small_line, small_lt, upd_ne, ne_eq, not_false_eq_true, Nat.zero_le, Prod.mk.injEq, upd_same, upd_upd, S_tl, S_len, S_app, S_one, S_inj,
  lk_breaks, lk_hard, lk_soft, lk_bend, lk_note, lk_rules, lk_state, lk_bent, lk_word, lk_begun, lk_opened, lk_place, pt_state, pt_bent, pt_word, pt_wordS, pt_wordN, pt_begun, pt_opened, pt_place, pt_place1, len_mf, litv_empty, litv_note, litv_nl, mf_inj, rf_inj, lkn_begin, lkn_ended, lkn_plain, lkn_quoted, lkn_step, lkn_fault, lkn_key, lkn_told, lkn_quotes, lkn_special, pt_open1, not_true_eq_false, not_false_eq_true])
local macro_rules | `(tactic| walk_at "rdh") => `(tactic| simp only [rMinD, rRemD, tDGet, tDIn, tDNotIn, sDPut, tDNewT, tLstRg, tRg2, iEnum, iRng3, tRevL, rSlS, rSlL, gSub, rSetL, wipe, List.map_cons, List.map_nil, rAll, rAny, rIsi, tM1, tM0, iZipLT, iZip, iRng2, tLenSetS, rListStr, rMulS, rRep, rCntB, tRevS, rNeD, rEqD, tSeq, tNext, tAsg, tRet, tRetN, tDrop, tIfS, sFld, sFldAug, tVar, tC, tOp, tUn, tTest, tB, tAnd, tOr, tNot, tAndV, tOrV, tNotV, tIf, tTup, tLst, tCons, tNil, tCB, tCall, tMeth, tMake, tFld, rI, rI0, rU, rEq, rNe, rCat, gName, gTup, gCons, gNil, tPar, tPar3, tBM, tBM0, rAppend, rExtend, rPopAt, rIxL, rIxT, rIxS, tSl, rSlS, rSlL, tPart, tNoPart, iStr, iTup, iList, iRng1, tAug, ipI, L2.rAdd, L2.rSub, L2.rAddS, tChain, rIsB, rNotB, scal_ss, scal_ii, scal_bb, scal_nn, scal_in, scal_ni, tYes,
  cx_K, cx_N, List.getElem?_cons_zero, List.getElem?_cons_succ, List.set_cons_zero, List.set_cons_succ, List.nil_append, List.cons_append, List.append_nil, List.length_cons, List.length_nil, Nat.zero_add,
  Option.some.injEq, V.ref.injEq, V.int.injEq, V.str.injEq, V.bl.injEq, HO.ins.injEq, HO.lst.injEq, HO.tup.injEq, List.cons.injEq, exists_eq_left, exists_eq_left', exists_eq_right, exists_eq_right', and_true, true_and, exists_and_left, exists_and_right, and_assoc, decide_eq_true_eq, Bool.not_eq_true', decide_eq_false_iff_not, reduceCtorEq, exists_const, forall_const, if_true, if_false, false_and, and_false, ite_true, ite_false, Bool.true_eq_false, Bool.false_eq_true, Nat.reduceLeDiff, Nat.reduceAdd, small_line, small_lt, upd_ne, ne_eq, not_false_eq_true, Nat.zero_le, Prod.mk.injEq, upd_same, upd_upd, S_tl, S_len, S_app, S_one, S_inj,
  lk_breaks, lk_hard, lk_soft, lk_bend, lk_note, lk_rules, lk_state, lk_bent, lk_word, lk_begun, lk_opened, lk_place, pt_state, pt_bent, pt_word, pt_wordS, pt_wordN, pt_begun, pt_opened, pt_place, pt_place1, len_mf, litv_empty, litv_note, litv_nl, mf_inj, rf_inj, lkn_begin, lkn_ended, lkn_plain, lkn_quoted, lkn_step, lkn_fault, lkn_key, lkn_told, lkn_quotes, lkn_special, pt_open1, not_true_eq_false, not_false_eq_true, *])
local macro_rules | `(tactic| walk_at "pl") => `(tactic| (first | decide | (refine Nat.lt_of_le_of_lt (length_putF _ _ _) ?_; repeat (first | decide | refine pl2 ?_))))
local macro_rules | `(tactic| walk_at "al") => `(tactic| (intro p hp; generalize hH : upd _ p _ = H1; obtain ⟨S, e⟩ := gen_new hH hp; clear hH))
/-! ### words that can't be written -/
theorem cxK0 {CX : CXT} {P : Program} {w : World} {K : PySem.W.Frag} {mg : Str → Option Value} {base : Heap} {N : List Str} {q : Str} {sc : Scope} {f : Addr} {cd : Value} {A : Around} {o : List Env} {s : Shared} {H : Hp} {E : XK} : (L2.cxOf CX P w K mg base N q sc f cd A o s H E).K = K := rfl
section
variable {P : Program} {w : World} {K : PySem.W.Frag} {mg : Str → Option Value} {base : Heap} {a : Ad}
theorem err_NW (T : Txt K mg a) : ErrC K a.c_NoWriting := ⟨T.ea_NoWriting, T.eb_NoWriting, T.ec_NoWriting, T.ed_NoWriting, T.ee_NoWriting, T.i_Words.hn, T.i_Words.ht, T.ef_NoWriting, T.eh_NoWriting, T.ei_NoWriting⟩
theorem err_QE (T : Txt K mg a) : ErrC K a.c_QuoteError := ⟨T.ea_QuoteError, T.eb_QuoteError, T.ec_QuoteError, T.ed_QuoteError, T.ee_QuoteError, T.i_Words.hn, T.i_Words.ht, T.ef_QuoteError, T.eh_QuoteError, T.ei_QuoteError⟩
theorem oex_NW (T : Txt K mg a) : OexC K a.c_NoWriting := ⟨T.xc_NoWriting, T.sa_NoWriting, T.ec_NoWriting, T.eh_NoWriting, T.ei_NoWriting⟩
def sp_NoWriting_init (a : Ad) : Sp := fun vs H Q _ => ∃ (p : Addr) (n : Int), vs = [.ref p, .int n] ∧ H p = some (exo p a.c_NoWriting none) ∧
  ∀ dx, H dx = none → dx ≠ p → Q .non (upd (upd H dx (exd dx [("at", .int n)])) p (exo p a.c_NoWriting (some dx)))
theorem ok_NoWriting_init (T : Txt K mg a) : FnOk P w K mg base CX0 1 a.f_NoWriting_init a.d_NoWriting_init P_NoWriting_init (sp_NoWriting_init a) := by
  refine T.F_NoWriting_init.ok sc_NoWriting_init (fun vs H Q E h => ?_) (fun cdv A outer s H vs Q E hr h => ?_)
  · obtain ⟨p, n, rfl, _⟩ := h
    rfl
  · obtain ⟨p, n, rfl, hp, k⟩ := h
    refine ⟨_,
(pss_cons (ps_expr (pe_upinit rfl T.eg_QuoteError.g T.qr_QuoteError T.qg_QuoteError T.qv_QuoteError (pa_cons (pv 0) (pa_cons pe_str pa_nil))))
    (pss_one (ps_ost (pv 0) (pv 1))))
      , ?_⟩
    rw [show start N_NoWriting_init [V.ref p, V.int n] = [some (.ref p), some (.int n)] from rfl]
    walk_at "rd"
    simp only [tVeI, tOst]
    walk_at "rd"
    exact ⟨_, oex_NW T, hp, _, oex_NW T, T.at_NoWriting, .inl ⟨hp, fun dx h1 h2 => k dx h1 h2⟩⟩
/-- the first word that can't be written is told -/
def sp_shortestX (a : Ad) : Sp := fun vs H Q E => ∃ (p dr : Addr) (r : RS) (l : Addr) (ws : List Tx) (n : Nat), vs = [.ref p, .ref l] ∧ H p = some (.ins a.c_Rules dr (RS.f r)) ∧ r.Ok ∧ H l = some (.lst (ws.map fun w => .str (S w))) ∧ ws.length ≤ 8 ∧ (∀ w ∈ ws, w.all sgn = true ∧ w.length ≤ 12) ∧
  n < ws.length ∧ (∀ m w, ws[m]? = some w → m ≤ n → cannotT r w = decide (m = n)) ∧ ∀ H' d, Same H H' → H' d = some (.xd [("at", .int (n : Nat))]) → E (.ref a.c_NoWriting) (some d) H'
theorem ok_shortestX (T : Txt K mg a) : FnOk P w K mg base (L2.CX P w) 6 a.f_shortest a.d_shortest P_shortest (sp_shortestX a) := by
  refine T.F_shortest.okX sc_shortest (fun vs H Q E h => ?_) (fun cdv A outer s H vs Q E hr h => ?_)
  · obtain ⟨p, dr, r, l, ws, n, rfl, _⟩ := h
    rfl
  · obtain ⟨p, dr, r, l, ws, n, rfl, hR, ok, hl, hn, hw, nl, hcn, k⟩ := h
    have G_are_signs := ok_are_signs (P := P) (w := w) (base := base) T
    have B_are_signs := bi_are_signs T
    have G_cannot := ok_cannot (P := P) (w := w) (base := base) T
    have B_cannot := bi_cannot T
    have G_one_written := ok_one_written (P := P) (w := w) (base := base) T
    have B_one_written := bi_one_written T
    have G_Shortest_init := ok_Shortest_init (P := P) (w := w) (base := base) T
    have B_Shortest_init := bi_Shortest_init T
    have G_NoWriting_init := ok_NoWriting_init (P := P) (w := w) (base := base) T
    have B_NoWriting_init := bi_NoWriting_init T
    refine ⟨_,
(pss_cons (ps_if (PW.pt (pw_or (pt_not (pt_val (pe_callB (call_isi) (by rfl) T.b_isinstance (by decide +kernel) (pa_cons (pv 1) (pa_cons (pe_bltn (v := .ty "list") (u := .type "list") rfl T.b_list (by decide +kernel) rfl) pa_nil))))) (pw_or1 (pt_cmpR op_gt (pe_callB call_len_seq (by rfl) T.b_len PySem.boot_len (pa_cons (pv 1) pa_nil)) (pe_glob (v := .int 8) rfl T.g_MOST_WORDS ⟨_, rfl⟩) (nomark _))))) (pss_one ps_never) pss_nil)
    (pss_cons (ps_if (pt_not (pt_val (pe_callB (cr_all rfl) (by rfl) T.b_all (by decide +kernel) (pa_cons (pe_lc (own := [("word", 2)]) (g := gName 2) (tt := tYes) rfl sc_shortest.nd (pi_list (pv 1)) (blkOk_by (own := [("word", 2)]) (N := N_shortest) (sc := defScope st_shortest) (by decide +kernel)) (fun _ _ _ _ _ => (pg_name (i := 2) sc_shortest.nd rfl (by first | exact Or.inl rfl | exact Or.inr rfl))) (fun _ _ _ _ _ => pts_nil) (fun _ _ _ _ _ => (pe_and (pe_call G_are_signs (hr.mono (by decide)) rfl T.f_are_signs.g T.f_are_signs.k B_are_signs .nil pass0 (pa_cons (pv 2) pa_nil)) (pe_one (pe_cmpR op_le (pe_callB call_len_str (by rfl) T.b_len PySem.boot_len (pa_cons (pv 2) pa_nil)) (pe_glob (v := .int 12) rfl T.g_LONGEST_WORD ⟨_, rfl⟩) (nomark _)))))) pa_nil)))) (pss_one ps_never) pss_nil)
    (pss_cons (ps_for (passes_of rfl) rfl (pi_enum (by rfl) T.b_enumerate (pa_cons (pv 1) pa_nil)) (pg_tup rfl (pgs_cons (pg_name (i := 3) sc_shortest.nd rfl (by first | exact Or.inl rfl | exact Or.inr rfl)) (pgs_cons (pg_name (i := 2) sc_shortest.nd rfl (by first | exact Or.inl rfl | exact Or.inr rfl)) pgs_nil)))
    (pss_one (ps_if (pt_val (pe_call G_cannot (hr.mono (by decide)) rfl T.f_cannot.g T.f_cannot.k B_cannot .nil pass0 (pa_cons (pv 0) (pa_cons (pv 2) pa_nil)))) (pss_one (ps_raise rfl (takes_of rfl rfl rfl rfl) (pmk_oex (oex_NW T) T.ui_NoWriting T.ti_NoWriting G_NoWriting_init (hr.mono (by decide)) B_NoWriting_init .nil pass0 rfl T.eg_NoWriting.g (pa_cons (pv 3) pa_nil)))) pss_nil)))
    (pss_cons (ps_setLc (i := 4) (own := [("word", 2)]) (g := gName 2) (tt := tYes) rfl sc_shortest.nd rfl rfl (sw_true rfl rfl rfl (by decide +kernel)) (pi_list (pv 1)) (blkOk_by (own := [("word", 2)]) (N := N_shortest) (sc := defScope st_shortest) (by decide +kernel)) (fun _ _ _ _ _ => (pg_name (i := 2) sc_shortest.nd rfl (by first | exact Or.inl rfl | exact Or.inr rfl))) (fun _ _ _ _ _ => pts_nil) (fun _ _ _ _ _ => (pe_call G_one_written (hr.mono (by decide)) rfl T.f_one_written.g T.f_one_written.k B_one_written .nil pass0 (pa_cons (pv 0) (pa_cons (pv 2) pa_nil)))))
    (pss_one (ps_ret (pe_make T.c_Shortest.mc G_Shortest_init (hr.mono (by decide)) rfl T.c_Shortest.g B_Shortest_init .nil pass0 (pa_cons (pe_join (pe_ix ix_str (pe_fld (pv 0) rfl) pe_int (fun _ _ => rfl)) (pe_lc (own := [("pair", 5)]) (g := gName 5) (tt := tYes) rfl sc_shortest.nd (pi_list (pv 4)) (blkOk_by (own := [("pair", 5)]) (N := N_shortest) (sc := defScope st_shortest) (by decide +kernel)) (fun _ _ _ _ _ => (pg_name (i := 5) sc_shortest.nd rfl (by first | exact Or.inl rfl | exact Or.inr rfl))) (fun _ _ _ _ _ => pts_nil) (fun _ _ _ _ _ => (pe_ix (ix_tupK (K := K) rfl) (pv 5) pe_int (fun _ _ => rfl))))) (pa_cons (pe_lc (own := [("pair", 5)]) (g := gName 5) (tt := tYes) rfl sc_shortest.nd (pi_list (pv 4)) (blkOk_by (own := [("pair", 5)]) (N := N_shortest) (sc := defScope st_shortest) (by decide +kernel)) (fun _ _ _ _ _ => (pg_name (i := 5) sc_shortest.nd rfl (by first | exact Or.inl rfl | exact Or.inr rfl))) (fun _ _ _ _ _ => pts_nil) (fun _ _ _ _ _ => (pe_ix (ix_tupK (K := K) rfl) (pv 5) pe_int (fun _ _ => rfl)))) pa_nil)))))))))
      , ?_⟩
    rw [show start N_shortest [V.ref p, V.ref l] = [some (.ref p), some (.ref l), none, none, none, none] from rfl]
    simp only [cxK0]
    have hlen : (ws.map fun w => V.str (S w)).length = ws.length := List.length_map _
    refine tseq_split (fun σ' H' => σ' = [some (.ref p), some (.ref l), none, none, none, none] ∧ H' = H) (fun N hN => ?_) ?_
    · walk_at "rd"
      refine ⟨_, _, .ty _, .base (.lst hl), _, kit_ty (b := "list") (r := true) (by decide +kernel), ?_⟩
      refine ite2 (fun c => by cases c) (fun _ => ?_)
      refine ⟨_, .inl (.inl (.inl hl)), ?_⟩
      refine ite2 (fun c => absurd c (by rw [hlen]; omega)) (fun _ => ?_)
      exact hN _ _ ⟨rfl, rfl⟩
    rintro σ' H0 ⟨rfl, rfl⟩
    refine tseq_split (fun σ' H' => (∃ v2, σ' = [some (.ref p), some (.ref l), v2, none, none, none]) ∧ Same H0 H') (fun N hN => ?_) ?_
    · walk_at "rd"
      refine tlc_map ws (fun _ => .bl true) (J := Itl K l) (H1 := H0) (G := fun H => SqL K H l (ws.map fun w => .str (S w))) (fun R hR => ?_) (hlen ▸ walk_list) (by omega) (fun H s => .inl (.inl (s _ _ hl))) ?_ ?_
      · walk_at "rd"
        exact ⟨⟨_, .inl (.inl hl)⟩, hR⟩
      · rintro R R' j u x H2 H2' hj s2 ⟨rfl, hx⟩ hk
        rw [List.getElem?_map, hj] at hx
        cases hx
        obtain ⟨g1, g2⟩ := hw u (List.mem_of_getElem? hj)
        walk_at "rdh"
        refine ⟨u, rfl, by omega, fun H4 s4 => ?_⟩
        have hk := hk H4 s4
        rw [g1]
        walk_at "rd"
        rw [decide_eq_true (show ((u.length : Nat) : Int) ≤ 12 by omega)]
        exact ⟨line_le (by omega), hk⟩
      · intro D H2 hD s2 e2
        walk_at "rd"
        refine ⟨ws.map fun _ => true, .inl (.inl (by rw [List.map_map]; exact e2)), ?_⟩
        refine ite2 (fun c => ?_) (fun _ => hN _ _ ⟨⟨_, rfl⟩, s2⟩)
        exfalso
        rw [List.all_map, Bool.eq_false_iff] at c
        exact c (List.all_eq_true.mpr fun _ _ => rfl)
    rintro σ' H1 ⟨⟨v2, rfl⟩, S1⟩
    refine tseq_split (fun σ' H' => False) (fun N hN => ?_) (fun _ _ h => h.elim)
    refine tfor_it (J := Ite K l) (H1 := H1) (n := ws.length) (G := fun H => SqL K H l (ws.map fun w => .str (S w))) (fun R hR => ?_) (hlen ▸ walk_enum) (fun i σ H' => (∃ v2 v3, σ = [some (.ref p), some (.ref l), v2, v3, none, none]) ∧ Same H0 H' ∧ i ≤ n) ⟨⟨_, _, rfl⟩, S1, Nat.zero_le _⟩ (fun _ _ _ _ h => .inl (.inl (h.2.1 _ _ hl))) ?_ ?_
    · walk_at "rd"
      exact ⟨⟨_, .inl (.inl (S1 _ _ hl))⟩, hR⟩
    · rintro i x σ H2 H2' hi ⟨⟨v2, v3, rfl⟩, S2, hin⟩ ⟨T0, x1, x2, rfl, hT0, rfl, hx1, hx2⟩
      dsimp only at hx2
      rw [List.getElem?_map] at hx2
      obtain ⟨u, hu, rfl⟩ := Option.map_eq_some_iff.mp hx2
      cases hx1
      obtain ⟨g1, g2⟩ := hw u (List.mem_of_getElem? hu)
      walk_at "rdh"
      refine ⟨_, .inl (.inl upd_same), rfl, _, _, rfl, _, _, rfl, rfl, p, dr, r, u, rfl, (S2.trans (same_new hT0)).trans (Same.refl _) _ _ hR, ok, by omega, fun H4 s4 => ⟨_, rfl, ?_⟩⟩
      have S4 := (S2.trans (same_new hT0)).trans s4
      rw [hcn i u hu hin]
      by_cases e : i = n
      · subst e
        rw [decide_eq_true rfl]
        refine ite2 (fun _ => ?_) (fun c => absurd rfl c)
        simp only [tMkO]
        walk_at "rd"
        intro b hb
        refine ⟨b, (i : Nat), rfl, upd_same, fun dx hdx ne => ⟨rfl, dx, upd_same, _, ?_, none_upd hdx, k _ dx (fun c o ec => ?_) upd_same⟩⟩
        · rw [upd_ne ne, upd_same]
        · have e4 := S4 _ _ ec
          have nb := ne_of_none e4 hb
          have nd := ne_of_none e4 (none_upd hdx)
          rw [upd_ne nd, del_ne nb, upd_ne nb, upd_ne nd, upd_ne nb]
          exact e4
      · rw [decide_eq_false e]
        exact ite2 (fun c => by cases c) (fun _ => ⟨⟨_, rfl⟩, S4, by omega⟩)
    · rintro σ H2 ⟨_, _, h⟩
      omega
/-- the count of the first word that can't be written -/
def sp_law_refused3 (a : Ad) : Sp := fun vs H Q _ => ∃ (p dr : Addr) (r : RS) (l : Addr) (ws : List Tx) (n : Nat), vs = [.ref p, .ref l] ∧ H p = some (.ins a.c_Rules dr (RS.f r)) ∧ r.Ok ∧ H l = some (.lst (ws.map fun w => .str (S w))) ∧ ws.length ≤ 8 ∧ (∀ w ∈ ws, w.all sgn = true ∧ w.length ≤ 12) ∧
  n < ws.length ∧ (∀ m w, ws[m]? = some w → m ≤ n → cannotT r w = decide (m = n)) ∧ ∀ H', Same H H' → Q (.int (n : Nat)) H'
theorem ok__law_refused (T : Txt K mg a) : FnOk P w K mg base CX0 7 a.f__law_refused a.d__law_refused P__law_refused (sp_law_refused3 a) := by
  refine T.F__law_refused.ok sc__law_refused (fun vs H Q E h => ?_) (fun cdv A outer s H vs Q E hr h => ?_)
  · obtain ⟨p, dr, r, l, ws, n, rfl, _⟩ := h
    rfl
  · obtain ⟨p, dr, r, l, ws, n, rfl, hR, ok, hl, hn, hw, nl, hcn, k⟩ := h
    have G_shortest := ok_shortestX (P := P) (w := w) (base := base) T
    have B_shortest := bi_shortest T
    refine ⟨_, (pss_cons (ps_try_as (i := 2) (Wout := fun _ _ _ _ => False) rfl rfl sc__law_refused.nd rfl rfl ⟨rfl, by decide, Or.inl T.eg_QuoteError.g⟩ takes0
        (fun W pn xe tk _ => pss_one (ps_expr (by exact (pe_callS G_shortest (hr.mono (by decide)) rfl T.f_shortest.g T.f_shortest.k B_shortest (fun σ => passAt tk σ) (by exact (pa_cons (pv 0) (pa_cons (pv 1) pa_nil)))))))
        (fun b oe cls d pn hz hf => pss_one (ps_ret (by exact (pe_ifExp (pt_val (pe_callB (call_isX hz hf) (by rfl) T.b_isinstance (by decide +kernel) (pa_cons (pv 2) (pa_cons (pe_glob (v := .ref a.c_NoWriting) rfl T.eg_NoWriting.g rfl) pa_nil)))) (pe_xf (err_NW T).xf T.at_NoWriting hz hf (pv 2)) (pe_un un_neg pe_int))))))
      (pss_one (ps_ret pe_non))), ?_⟩
    rw [show start N__law_refused [V.ref p, V.ref l] = [some (.ref p), some (.ref l), none] from rfl]
    walk_at "rd"
    simp only [tCallS]
    walk_at "rd"
    refine ⟨p, dr, r, l, ws, n, rfl, hR, ok, hl, hn, hw, nl, hcn, fun H' d s' e' => ?_⟩
    refine ⟨true, (err_QE T).clause T.es_NoWriting_QuoteError, fun _ b hb => ?_, fun q => nomatch q⟩
    walk_at "rd"
    refine ⟨a.c_NoWriting, .ref a.c_NoWriting, .ref a.c_NoWriting, true, rfl, err_NW T, rfl, fun u h => h, if_pos (beq_self_eq_true _), .inr ⟨d, _, rfl, e'⟩, true, rfl, ?_⟩
    refine ite2 (fun _ => ?_) (fun z => absurd rfl z)
    exact ⟨_, rfl, rfl, rfl, d, _, _, rfl, e', rfl, k H' s'⟩
end
end Qw

set_option Elab.async false
set_option linter.all false
set_option maxRecDepth 100000
set_option maxHeartbeats 4000000
namespace Qw
open PySem L2
local macro_rules | `(tactic| walk_at "rd") => `(tactic| simp only [rMinD, rRemD, tDGet, tDIn, tDNotIn, sDPut, tDNewT, tLstRg, tRg2, iEnum, iRng3, tRevL, rSlS, rSlL, gSub, rSetL, wipe, List.map_cons, List.map_nil, rAll, rAny, rIsi, tM1, tM0, iZipLT, iZip, iRng2, tLenSetS, rListStr, rMulS, rRep, rCntB, tRevS, rNeD, rEqD, tSeq, tNext, tAsg, tRet, tRetN, tDrop, tIfS, sFld, sFldAug, tVar, tC, tOp, tUn, tTest, tB, tAnd, tOr, tNot, tAndV, tOrV, tNotV, tIf, tTup, tLst, tCons, tNil, tCB, tCall, tMeth, tMake, tFld, rI, rI0, rU, rEq, rNe, rCat, gName, gTup, gCons, gNil, tPar, tPar3, tBM, tBM0, rAppend, rExtend, rPopAt, rIxL, rIxT, rIxS, tSl, rSlS, rSlL, tPart, tNoPart, iStr, iTup, iList, iRng1, tAug, ipI, L2.rAdd, L2.rSub, L2.rAddS, tChain, rIsB, rNotB, scal_ss, scal_ii, scal_bb, scal_nn, scal_in, scal_ni, tYes,
  cx_K, cx_N, List.getElem?_cons_zero, List.getElem?_cons_succ, List.set_cons_zero, List.set_cons_succ, List.nil_append, List.cons_append, List.append_nil, List.length_cons, List.length_nil, Nat.zero_add,
  Option.some.injEq, V.ref.injEq, V.int.injEq, V.str.injEq, V.bl.injEq, HO.ins.injEq, HO.lst.injEq, HO.tup.injEq, List.cons.injEq, exists_eq_left, exists_eq_left', exists_eq_right, exists_eq_right', and_true, true_and, exists_and_left, exists_and_right, and_assoc, decide_eq_true_eq, Bool.not_eq_true', decide_eq_false_iff_not, reduceCtorEq, exists_const, forall_const, if_true, if_false, false_and, and_false, ite_true, ite_false, Bool.true_eq_false, Bool.false_eq_true, Nat.reduceLeDiff, Nat.reduceAdd, small_line, small_lt, upd_ne, ne_eq, not_false_eq_true, Nat.zero_le, Prod.mk.injEq, upd_same, upd_upd, S_tl, S_len, S_app, S_one, S_inj,
  lk_breaks, lk_hard, lk_soft, lk_bend, lk_note, lk_rules, lk_state, lk_bent, lk_word, lk_begun, lk_opened, lk_place, pt_state, pt_bent, pt_word, pt_wordS, pt_wordN, pt_begun, pt_opened, pt_place, pt_place1, len_mf, litv_empty, litv_note, litv_nl, mf_inj, rf_inj, lkn_begin, lkn_ended, lkn_plain, lkn_quoted, lkn_step, lkn_fault, lkn_key, lkn_told, lkn_quotes, lkn_special, pt_open1, not_true_eq_false, not_false_eq_true])
local macro_rules | `(tactic| walk_at "rdh") => `(tactic| simp only [rMinD, rRemD, tDGet, tDIn, tDNotIn, sDPut, tDNewT, tLstRg, tRg2, iEnum, iRng3, tRevL, rSlS, rSlL, gSub, rSetL, wipe, List.map_cons, List.map_nil, rAll, rAny, rIsi, tM1, tM0, iZipLT, iZip, iRng2, tLenSetS, rListStr, rMulS, rRep, rCntB, tRevS, rNeD, rEqD, tSeq, tNext, tAsg, tRet, tRetN, tDrop, tIfS, sFld, sFldAug, tVar, tC, tOp, tUn, tTest, tB, tAnd, tOr, tNot, tAndV, tOrV, tNotV, tIf, tTup, tLst, tCons, tNil, tCB, tCall, tMeth, tMake, tFld, rI, rI0, rU, rEq, rNe, rCat, gName, gTup, gCons, gNil, tPar, tPar3, tBM, tBM0, rAppend, rExtend, rPopAt, rIxL, rIxT, rIxS, tSl, rSlS, rSlL, tPart, tNoPart, iStr, iTup, iList, iRng1, tAug, ipI, L2.rAdd, L2.rSub, L2.rAddS, tChain, rIsB, rNotB, scal_ss, scal_ii, scal_bb, scal_nn, scal_in, scal_ni, tYes,
  cx_K, cx_N, List.getElem?_cons_zero, List.getElem?_cons_succ, List.set_cons_zero, List.set_cons_succ, List.nil_append, List.cons_append, List.append_nil, List.length_cons, List.length_nil, Nat.zero_add,
  Option.some.injEq, V.ref.injEq, V.int.injEq, V.str.injEq, V.bl.injEq, HO.ins.injEq, HO.lst.injEq, HO.tup.injEq, List.cons.injEq, exists_eq_left, exists_eq_left', exists_eq_right, exists_eq_right', and_true, true_and, exists_and_left, exists_and_right, and_assoc, decide_eq_true_eq, Bool.not_eq_true', decide_eq_false_iff_not, reduceCtorEq, exists_const, forall_const, if_true, if_false, false_and, and_false, ite_true, ite_false, Bool.true_eq_false, Bool.false_eq_true, Nat.reduceLeDiff, Nat.reduceAdd, small_line, small_lt, upd_ne, ne_eq, not_false_eq_true, Nat.zero_le, Prod.mk.injEq, upd_same, upd_upd, S_tl, S_len, S_app, S_one, S_inj,
  lk_breaks, lk_hard, lk_soft, lk_bend, lk_note, lk_rules, lk_state, lk_bent, lk_word, lk_begun, lk_opened, lk_place, pt_state, pt_bent, pt_word, pt_wordS, pt_wordN, pt_begun, pt_opened, pt_place, pt_place1, len_mf, litv_empty, litv_note, litv_nl, mf_inj, rf_inj, lkn_begin, lkn_ended, lkn_plain, lkn_quoted, lkn_step, lkn_fault, lkn_key, lkn_told, lkn_quotes, lkn_special, pt_open1, not_true_eq_false, not_false_eq_true, *])
local macro_rules | `(tactic| walk_at "pl") => `(tactic| (first | decide | (refine Nat.lt_of_le_of_lt (length_putF _ _ _) ?_; repeat (first | decide | refine pl2 ?_))))
local macro_rules | `(tactic| walk_at "al") => `(tactic| (intro p hp; generalize hH : upd _ p _ = H1; obtain ⟨S, e⟩ := gen_new hH hp; clear hH))
local macro_rules | `(tactic| walk_at "rc") => `(tactic| simp only [rMinD, rRemD, tDGet, tDIn, tDNotIn, sDPut, tDNewT, tLstRg, tRg2, iEnum, iRng3, tRevL, rSlS, rSlL, gSub, rSetL, wipe, List.map_cons, List.map_nil, rAll, rAny, rIsi, tM1, tM0, iZipLT, iZip, iRng2, tLenSetS, rListStr, rMulS, rRep, rCntB, tRevS, rNeD, rEqD, tNext, tAsg, tRet, tRetN, tDrop, tIfS, sFld, sFldAug, tVar, tC, tOp, tUn, tTest, tB, tAnd, tOr, tNot, tAndV, tOrV, tNotV, tIf, tTup, tLst, tCons, tNil, tCB, tCall, tMeth, tMake, tFld, rI, rI0, rU, rEq, rNe, rCat, gName, gTup, gCons, gNil, tPar, tPar3, tBM, tBM0, rAppend, rExtend, rPopAt, rIxL, rIxT, rIxS, tSl, rSlS, rSlL, tPart, tNoPart, iStr, iTup, iList, iRng1, tAug, ipI, L2.rAdd, L2.rSub, L2.rAddS, tChain, rIsB, rNotB, scal_ss, scal_ii, scal_bb, scal_nn, scal_in, scal_ni, tYes,
  cx_K, cx_N, List.getElem?_cons_zero, List.getElem?_cons_succ, List.set_cons_zero, List.set_cons_succ, List.nil_append, List.cons_append, List.append_nil, List.length_cons, List.length_nil, Nat.zero_add,
  Option.some.injEq, V.ref.injEq, V.int.injEq, V.str.injEq, V.bl.injEq, HO.ins.injEq, HO.lst.injEq, HO.tup.injEq, List.cons.injEq, exists_eq_left, exists_eq_left', exists_eq_right, exists_eq_right', and_true, true_and, exists_and_left, exists_and_right, and_assoc, decide_eq_true_eq, Bool.not_eq_true', decide_eq_false_iff_not, reduceCtorEq, exists_const, forall_const, if_true, if_false, false_and, and_false, ite_true, ite_false, Bool.true_eq_false, Bool.false_eq_true, Nat.reduceLeDiff, Nat.reduceAdd, small_line, small_lt, upd_ne, ne_eq, not_false_eq_true, Nat.zero_le, Prod.mk.injEq, upd_same, upd_upd, S_tl, S_len, S_app, S_one, S_inj,
  lk_breaks, lk_hard, lk_soft, lk_bend, lk_note, lk_rules, lk_state, lk_bent, lk_word, lk_begun, lk_opened, lk_place, pt_state, pt_bent, pt_word, pt_wordS, pt_wordN, pt_begun, pt_opened, pt_place, pt_place1, len_mf, litv_empty, litv_note, litv_nl, mf_inj, rf_inj, lkn_begin, lkn_ended, lkn_plain, lkn_quoted, lkn_step, lkn_fault, lkn_key, lkn_told, lkn_quotes, lkn_special, pt_open1, not_true_eq_false, not_false_eq_true])
local macro_rules | `(tactic| walk_at "gt") => `(tactic| simp only [gTup, gCons, gNil, gName, List.set_cons_zero, List.set_cons_succ, Option.some.injEq, V.ref.injEq, V.int.injEq, V.str.injEq, HO.tup.injEq, List.cons.injEq, exists_eq_left, exists_eq_left', exists_eq_right, exists_eq_right', and_true, true_and, exists_and_left, exists_and_right, and_assoc, reduceCtorEq, exists_const])
/-! ### the shortest writing, looked at -/
/-- one of the others: told rules, words -/
def OthV (H : Hp) (v : V) (d : RS × List Tx) : Prop := ∃ t tp wl, v = .ref t ∧ H t = some (.tup [.ref tp, .ref wl]) ∧ H tp = some (.tup d.1.tup) ∧ H wl = some (.lst (d.2.map fun w => V.str (S w)))
theorem OthV.same {H H' : Hp} {v : V} {d : RS × List Tx} (h : OthV H v d) (s : Same H H') : OthV H' v d := by
  obtain ⟨t, tp, wl, e, h1, h2, h3⟩ := h
  exact ⟨t, tp, wl, e, s _ _ h1, s _ _ h2, s _ _ h3⟩
def FewW (ws : List Tx) : Prop := ws.length ≤ 8 ∧ ∀ w ∈ ws, w.all sgn = true ∧ w.length ≤ 12
theorem sum_cast {α : Type} (f : α → Nat) : ∀ l : List α, (l.map fun w => (f w : Int)).sum = ((l.map f).sum : Nat)
  | [] => rfl
  | w :: l => by
    rw [List.map_cons, List.map_cons, List.sum_cons, List.sum_cons, sum_cast f l]
    omega
theorem lk_WFw' (p q : Addr) : List.lookup ("words" : Str) (WF p q) = some (.ref p) := by kernel_rfl
/-- heights of which the outer list alone is changed -/
theorem hts_kp {H H' : Hp} {lh : Addr} {xs : List V} {hs : List (List (List Int))} (h1 : H lh = some (.lst xs)) (h2 : Paired (HtI H) xs hs) (k : Kp lh H H') : Paired (HtI H') xs hs := by
  have mem : ∀ {α β : Type} {F : α → β → Prop} {l : List α} {m : List β}, Paired F l m → ∀ a ∈ l, ∃ b, F a b := fun h a ha => by
    obtain ⟨i, hi⟩ := List.mem_iff_getElem?.mp ha
    obtain ⟨b, _, z⟩ := Paired.atL h hi
    exact ⟨b, z⟩
  have no : ∀ (row : List Int) (l : Addr), V.ref l ∈ xs → H lh ≠ some (.lst (row.map .int)) := fun row l hl z => by
    rw [h1] at z
    injection z with z
    injection z with z
    rw [z] at hl
    obtain ⟨_, _, e⟩ := List.mem_map.mp hl
    cases e
  have go : ∀ {ys : List V} {rs : List (List (List Int))}, (∀ y ∈ ys, y ∈ xs) → Paired (HtI H) ys rs → Paired (HtI H') ys rs := fun {ys rs} sub h => by
    induction h with
    | nil => exact .nil
    | cons h _ ih =>
      refine .cons ?_ (ih fun y hy => sub y (List.mem_cons_of_mem _ hy))
      obtain ⟨l, zs, rfl, e1, e2⟩ := h
      have ml := sub _ List.mem_cons_self
      have nl : l ≠ lh := by
        rintro rfl
        rw [h1] at e1
        injection e1 with e1
        injection e1 with e1
        subst e1
        obtain ⟨row, l3, e, e3⟩ := mem e2 _ ml
        cases e
        exact no row _ ml e3
      refine ⟨l, zs, rfl, k _ _ e1 nl, Paired.mapP e2 fun _ row ⟨l2, e, e3⟩ => ⟨l2, e, k _ _ e3 ?_⟩⟩
      rintro rfl
      exact no row _ ml e3
  exact go (fun _ hy => hy) h2
def badT (r : RS) (ws : List Tx) (i : Nat) : Bool := cannotT r (ws.getD i [])
def wrongT (r : RS) (ws : List Tx) : List Nat := (List.range ws.length).filter (badT r ws)
theorem getD_some {ws : List Tx} {i : Nat} {u : Tx} (h : ws[i]? = some u) : ws.getD i [] = u := by rw [List.getD_eq_getElem?_getD, h]; rfl
theorem wrong_nil {r : RS} {ws : List Tx} (h : wrongT r ws = []) : ∀ w ∈ ws, cannotT r w = false := fun w hw => by
  obtain ⟨i, hi⟩ := List.mem_iff_getElem?.mp hw
  have li := (List.getElem?_eq_some_iff.mp hi).1
  have := List.filter_eq_nil_iff.mp h i (List.mem_range.mpr li)
  rw [badT, getD_some hi] at this
  simpa using this
theorem wrong_cons {r : RS} {ws : List Tx} {n : Nat} {l : List Nat} (h : wrongT r ws = n :: l) : n < ws.length ∧ ∀ m w, ws[m]? = some w → m ≤ n → cannotT r w = decide (m = n) := by
  obtain ⟨l1, l2, e, h1, h2, _⟩ := List.filter_eq_cons_iff.mp h
  have len := congrArg List.length e
  rw [List.length_range, List.length_append, List.length_cons] at len
  have en : n = l1.length := by
    have := congrArg (fun l => l[l1.length]?) e
    simp only [List.getElem?_append_right (Nat.le_refl l1.length), Nat.sub_self, List.getElem?_cons_zero] at this
    rw [List.getElem?_range (by omega)] at this
    exact (Option.some.inj this).symm
  refine ⟨by omega, fun m w hm le => ?_⟩
  by_cases e2 : m = n
  · subst e2
    rw [decide_eq_true rfl]
    rw [badT, getD_some hm] at h2
    exact h2
  · rw [decide_eq_false e2]
    have ml : m < l1.length := by omega
    have em : l1[m]? = some m := by
      have := congrArg (fun l => l[m]?) e
      simp only [List.getElem?_append_left ml] at this
      rw [← this, List.getElem?_range (by omega)]
    have := h1 m (List.mem_of_getElem? em)
    rw [badT, getD_some hm] at this
    simpa using this
theorem shown_int {n : Nat} (h : n ≤ 1000) : (PyData.list [.int (n : Nat)]).showable = true ∧ (PyData.list [.int (n : Nat)]).hasDict = false ∧ (PyData.list [.int (n : Nat)]).depth ≤ 32 ∧ (PyData.list [.int (n : Nat)]).shown.length ≤ sizeLine := by
  have t : tame (PyData.list [.int (n : Nat)]) = true := isD_tame (l := [n]) (fun m hm => by rw [List.mem_singleton.mp hm]; omega)
  have d : (PyData.list [.int (n : Nat)]).depth ≤ 32 := isD_depth [n]
  refine ⟨(tame_has _ t).2.1, (tame_has _ t).2.2.1, d, shown_of t d ?_⟩
  have := int_weight (i := (n : Nat)) (by unfold okI; omega)
  rw [PyData.weight]
  simp only [PyData.weightAll]
  omega
theorem sum_b {f : Tx → Nat} {b : Nat} : ∀ {ws : List Tx}, (∀ w ∈ ws, f w ≤ b) → (ws.map f).sum ≤ b * ws.length
  | [], _ => Nat.zero_le _
  | w :: ws, h => by
    have h1 := h w List.mem_cons_self
    have h2 := sum_b (ws := ws) fun x hx => h x (List.mem_cons_of_mem _ hx)
    rw [List.map_cons, List.sum_cons, List.length_cons, Nat.mul_succ]
    omega
theorem hgt_b {r : RS} {w : Tx} (wl : w.length ≤ 12) (cn : cannotT r w = false) : (hgtT r w).length ≤ 13 ∧ ∀ row ∈ hgtT r w, row.length = r.sts.length ∧ ∀ n ∈ row, n ≤ 49 := by
  unfold hgtT
  split
  · exact ⟨Nat.zero_le _, fun _ z => (nomatch z)⟩
  · rename_i ne
    refine ⟨by simp only [rowsT, List.length_map, List.length_range]; omega, fun row hrow => ?_⟩
    obtain ⟨i, _, rfl⟩ := List.mem_map.mp hrow
    refine ⟨cur_len' _ _, fun n hn => ?_⟩
    obtain ⟨k, hk, rfl⟩ := mem_gt hn
    rw [cur_len'] at hk
    have h1 := cur_one r (w.take i) hk
    have h2 := cur_low (r := r) _ (w.take i) rfl fun c hc => can_of cn ne c (List.mem_of_mem_take hc)
    have h3 : (w.take i).length ≤ 12 := by rw [List.length_take]; omega
    omega
theorem hs_b {r : RS} {ws : List Tx} (wg : ∀ w ∈ ws, w.all sgn = true ∧ w.length ≤ 12 ∧ cannotT r w = false) : ∀ rows ∈ ws.map (fun w => toI (hgtT r w)), rows.length ≤ 13 ∧ ∀ row ∈ rows, row.length = r.sts.length ∧ ∀ x ∈ row, x.natAbs ≤ 49 := fun rows hr => by
  obtain ⟨w, hw, rfl⟩ := List.mem_map.mp hr
  obtain ⟨h1, h2⟩ := hgt_b (r := r) (wg w hw).2.1 (wg w hw).2.2
  refine ⟨by rw [toI, List.length_map]; exact h1, fun row hrow => ?_⟩
  obtain ⟨row0, h0, rfl⟩ := List.mem_map.mp hrow
  obtain ⟨h3, h4⟩ := h2 row0 h0
  refine ⟨by rw [List.length_map]; exact h3, fun x hx => ?_⟩
  obtain ⟨n, hn, rfl⟩ := List.mem_map.mp hx
  have := h4 n hn
  omega
theorem wr_short {r : RS} (c : Nat) {ts ws : List Tx} (h : Paired (WrT r) ts ws) (n : ws.length ≤ 8) (g : ∀ w ∈ ws, w.length ≤ 12 ∧ cannotT r w = false) : (joinT c ts).length ≤ 391 := by
  rw [wr_len0 c h]
  have := sum_b (f := fun w => leastT r w + 1) (b := 49) (ws := ws) fun w hw => by
    obtain ⟨g1, g2⟩ := g w hw
    unfold leastT
    split
    · decide
    · rename_i ne
      have h2 := cur_low (r := r) _ w rfl fun c hc => can_of g2 ne c hc
      omega
  have h3 : 49 * ws.length ≤ 49 * 8 := Nat.mul_le_mul_left _ n
  omega
theorem shows_long {r : RS} {t : Tx} {hs : List (List (List Int))} {ws : List Tx} {rp : Addr} (h : hs.length ≠ ws.length) : showsT r t hs ws rp = false := by
  unfold showsT
  split
  · rfl
  · simp [shapedT, h]
section
variable {P : Program} {w : World} {K : PySem.W.Frag} {mg : Str → Option Value} {base : Heap} {a : Ad}
def sp_law_right3 : Sp := fun vs H Q _ => ∃ (tp : Addr) (r : RS) (wl : Addr) (ws : List Tx) (ol : Addr) (os : List V) (ds : List (RS × List Tx)), vs = [.ref tp, .ref wl, .ref ol] ∧ H tp = some (.tup r.tup) ∧ r.Ok ∧ H wl = some (.lst (ws.map fun w => V.str (S w))) ∧ FewW ws ∧
  H ol = some (.lst os) ∧ Paired (OthV H) os ds ∧ (∀ d ∈ ds, d.1.Ok ∧ FewW d.2) ∧ ds.length ≤ 3 ∧ ∀ H', Same H H' → Q (.bl true) H'
theorem ok__law_right (T : Txt K mg a) : FnG P w K mg base 8 a.f__law_right a.d__law_right P__law_right sp_law_right3 := by
  refine fnG_of T.F__law_right sc__law_right (fun vs H Q E h => ?_) (fun cdv A outer s H vs Q E hfr hr h => ?_)
  · obtain ⟨tp, r, wl, ws, ol, os, ds, rfl, _⟩ := h
    rfl
  · obtain ⟨tp, r, wl, ws, ol, os, ds, rfl, ht, ok, hw, fw, ho, hd, hdo, dl, k⟩ := h
    have G__law_rules := ok__law_rules (P := P) (w := w) (base := base) T
    have B__law_rules := bi__law_rules T
    have G__law_writable := ok__law_writable (P := P) (w := w) (base := base) T
    have B__law_writable := bi__law_writable T
    have G__law_refused := ok__law_refused (P := P) (w := w) (base := base) T
    have B__law_refused := bi__law_refused T
    have G_shortest := ok_shortest (P := P) (w := w) (base := base) T
    have B_shortest := bi_shortest T
    have G__law_least := ok__law_least (P := P) (w := w) (base := base) T
    have B__law_least := bi__law_least T
    have G__law_due := ok__law_due (P := P) (w := w) (base := base) T
    have B__law_due := bi__law_due T
    have G_split := ok_split (P := P) (w := w) (base := base) T
    have B_split := bi_split T
    have G_Shortest_shows := ok_Shortest_shows (P := P) (w := w) (base := base) T
    have B_Shortest_shows := bi_Shortest_shows T
    refine ⟨_,
(pss_cons (ps_par (i := 3) (j := 4) (by rfl) sc__law_right.nd rfl rfl (by decide) rfl rfl (pa_cons (pe_call G__law_rules (hr.mono (by decide)) rfl T.f__law_rules.g T.f__law_rules.k B__law_rules .nil pass0 (pa_cons (pv 0) pa_nil)) (pa_cons (pe_callTy call_list_of (by rfl) T.b_list (by decide +kernel) (pa_cons (pv 1) pa_nil)) pa_nil)) (by rfl))
    (pss_cons (ps_setLc (i := 5) (own := [("_law_at", 10), ("_law_word_here", 11)]) (g := gTup _ 2 (gCons (gName 10) (gCons (gName 11) (gNil)))) rfl sc__law_right.nd rfl rfl (sw_true rfl rfl rfl (by decide +kernel)) (pi_enum (by rfl) T.b_enumerate (pa_cons (pv 1) pa_nil)) (blkOk_by (own := [("_law_at", 10), ("_law_word_here", 11)]) (N := N__law_right) (sc := defScope st__law_right) (by decide +kernel)) (fun _ _ _ _ _ => (pg_tup rfl (pgs_cons (pg_name (i := 10) sc__law_right.nd rfl (by first | exact Or.inl rfl | exact Or.inr rfl)) (pgs_cons (pg_name (i := 11) sc__law_right.nd rfl (by first | exact Or.inl rfl | exact Or.inr rfl)) pgs_nil)))) (fun _ _ _ _ _ => (pts_one (pt_not (pt_val (pe_call G__law_writable (hr.mono (by decide)) rfl T.f__law_writable.g T.f__law_writable.k B__law_writable .nil pass0 (pa_cons (pv 0) (pa_cons (pv 11) pa_nil))))))) (fun _ _ _ _ _ => (pv 10)))
    (pss_cons (ps_if (pt_cmpR (op_neD hr.units) (pv 5) (pe_lst pa_nil) (nomark _)) (pss_one (ps_ret (pe_and (pe_cmpR op_eq (pe_callTy (call_str_data hfr hr.units) (by rfl) T.b_str (by decide +kernel) (pa_cons (pe_lst (pa_cons (pe_call G__law_refused (hr.mono (by decide)) rfl T.f__law_refused.g T.f__law_refused.k B__law_refused .nil pass0 (pa_cons (pv 3) (pa_cons (pv 4) pa_nil))) pa_nil)) pa_nil)) (pe_callTy (call_str_data hfr hr.units) (by rfl) T.b_str (by decide +kernel) (pa_cons (pe_lst (pa_cons (pe_ix ix_list (pv 5) pe_int (fun _ _ => rfl)) pa_nil)) pa_nil)) (nomark _)) (pe_one (pe_cmpR (op_eqD hr.units) (pv 4) (pv 1) (nomark _)))))) pss_nil)
    (pss_cons (ps_set (i := 6) sc__law_right.nd rfl (by first | exact Or.inl rfl | exact Or.inr rfl) (pe_call G_shortest (hr.mono (by decide)) rfl T.f_shortest.g T.f_shortest.k B_shortest .nil pass0 (pa_cons (pv 3) (pa_cons (pv 4) pa_nil))))
    (pss_cons (ps_if (PW.pt (pw_or (pt_not (pt_val (pe_callB (call_isi) (by rfl) T.b_isinstance (by decide +kernel) (pa_cons (pv 6) (pa_cons (pe_glob (v := .ref a.c_Answer) rfl T.c_Answer.g rfl) pa_nil))))) (pw_or (pt_not (pt_val (pe_callB (call_isi) (by rfl) T.b_isinstance (by decide +kernel) (pa_cons (pv 6) (pa_cons (pe_glob (v := .ref a.c_Shortest) rfl T.c_Shortest.g rfl) pa_nil))))) (pw_or1 (pt_cmpR (op_neD hr.units) (pv 4) (pv 1) (nomark _)))))) (pss_one (ps_ret pe_bl)) pss_nil)
    (pss_cons (ps_set (i := 7) sc__law_right.nd rfl (by first | exact Or.inl rfl | exact Or.inr rfl) (pe_op op_add (pe_callB ((cr_sum rfl)) (by rfl) T.b_sum (by decide +kernel) (pa_cons (pe_lc (own := [("_law_word_here", 11)]) (g := gName 11) (tt := tYes) rfl sc__law_right.nd (pi_list (pv 1)) (blkOk_by (own := [("_law_word_here", 11)]) (N := N__law_right) (sc := defScope st__law_right) (by decide +kernel)) (fun _ _ _ _ _ => (pg_name (i := 11) sc__law_right.nd rfl (by first | exact Or.inl rfl | exact Or.inr rfl))) (fun _ _ _ _ _ => pts_nil) (fun _ _ _ _ _ => (pe_call G__law_least (hr.mono (by decide)) rfl T.f__law_least.g T.f__law_least.k B__law_least .nil pass0 (pa_cons (pv 0) (pa_cons (pv 11) pa_nil))))) pa_nil)) (pe_callB ((call_max2 rfl)) (by rfl) T.b_max (by decide +kernel) (pa_cons pe_int (pa_cons (pe_op op_sub (pe_callB call_len_seq (by rfl) T.b_len PySem.boot_len (pa_cons (pv 1) pa_nil)) pe_int) pa_nil)))))
    (pss_cons (ps_if (PW.pt (pw_or (pt_cmpR op_ne (pe_callB call_len_str (by rfl) T.b_len PySem.boot_len (pa_cons (pe_fld (pv 6) rfl) pa_nil)) (pv 7) (nomark _)) (pw_or1 (pt_not (pt_val (pe_call G__law_due (hr.mono (by decide)) rfl T.f__law_due.g T.f__law_due.k B__law_due .nil pass0 (pa_cons (pv 0) (pa_cons (pv 1) (pa_cons (pe_fld (pv 6) rfl) (pa_cons (pe_fld (pv 6) rfl) pa_nil)))))))))) (pss_one (ps_ret pe_bl)) pss_nil)
    (pss_cons (ps_if (PW.pt (pw_or (pt_cmpR op_notBl (pe_meth (pv 6) T.c_Shortest.cl T.m_Shortest_shows G_Shortest_shows (hr.mono (by decide)) B_Shortest_shows .nil pass0 (pa_cons (pv 3) (pa_cons (pv 1) pa_nil))) pe_bl (nomark _)) (pw_or1 (pt_cmpR (op_neD hr.units) (pe_fld (pe_call G_split (hr.mono (by decide)) rfl T.f_split.g T.f_split.k B_split .nil pass0 (pa_cons (pv 3) (pa_cons (pe_fld (pv 6) rfl) pa_nil))) rfl) (pv 1) (nomark _))))) (pss_one (ps_ret pe_bl)) pss_nil)
    (pss_cons (ps_for PassesOwn.never rfl (pi_list (pv 2)) (pg_tup rfl (pgs_cons (pg_name (i := 8) sc__law_right.nd rfl (by first | exact Or.inl rfl | exact Or.inr rfl)) (pgs_cons (pg_name (i := 9) sc__law_right.nd rfl (by first | exact Or.inl rfl | exact Or.inr rfl)) pgs_nil)))
    (pss_one (ps_if (pt_cmpR op_ne (pe_callTy (call_str_data hfr hr.units) (by rfl) T.b_str (by decide +kernel) (pa_cons (pe_lst (pa_cons (pe_meth (pv 6) T.c_Shortest.cl T.m_Shortest_shows G_Shortest_shows (hr.mono (by decide)) B_Shortest_shows .nil pass0 (pa_cons (pe_call G__law_rules (hr.mono (by decide)) rfl T.f__law_rules.g T.f__law_rules.k B__law_rules .nil pass0 (pa_cons (pv 8) pa_nil)) (pa_cons (pv 9) pa_nil))) pa_nil)) pa_nil)) (pe_callTy (call_str_data hfr hr.units) (by rfl) T.b_str (by decide +kernel) (pa_cons (pe_lst (pa_cons (pe_call G__law_due (hr.mono (by decide)) rfl T.f__law_due.g T.f__law_due.k B__law_due .nil pass0 (pa_cons (pv 8) (pa_cons (pv 9) (pa_cons (pe_fld (pv 6) rfl) (pa_cons (pe_fld (pv 6) rfl) pa_nil))))) pa_nil)) pa_nil)) (nomark _)) (pss_one (ps_ret pe_bl)) pss_nil)))
    (pss_cons (ps_expr (pe_bm PySem.F.plainAttrs_list PySem.F.slot_list_append PySem.F.type_list_append mt_append (pe_fld (pv 6) rfl) (pa_cons (pe_lst pa_nil) pa_nil)))
    (pss_one (ps_ret (pe_and (pe_cmpR op_isBl (pe_meth (pv 6) T.c_Shortest.cl T.m_Shortest_shows G_Shortest_shows (hr.mono (by decide)) B_Shortest_shows .nil pass0 (pa_cons (pv 3) (pa_cons (pv 1) pa_nil))) pe_bl (nomark _)) (pe_one (pe_cmpR op_eq (pe_callB call_len_seq (by rfl) T.b_len PySem.boot_len (pa_cons (pe_fld (pe_call G_shortest (hr.mono (by decide)) rfl T.f_shortest.g T.f_shortest.k B_shortest .nil pass0 (pa_cons (pv 3) (pa_cons (pv 1) pa_nil))) rfl) pa_nil)) (pe_callB call_len_seq (by rfl) T.b_len PySem.boot_len (pa_cons (pv 1) pa_nil)) (nomark _))))))))))))))))
      , ?_⟩
    rw [show start N__law_right [V.ref tp, V.ref wl, V.ref ol] = [some (.ref tp), some (.ref wl), some (.ref ol), none, none, none, none, none, none, none, none, none] from rfl]
    have hlen : (ws.map fun w => V.str (S w)).length = ws.length := List.length_map _
    obtain ⟨wn, wg⟩ := fw
    refine tseq_split (fun σ' H' => ∃ rp dr hl, σ' = [some (.ref tp), some (.ref wl), some (.ref ol), some (.ref rp), some (.ref hl), none, none, none, none, none, none, none] ∧ Same H H' ∧ H' rp = some (.ins a.c_Rules dr r.f) ∧ H' hl = some (.lst (ws.map fun w => V.str (S w)))) (fun N hN => ?_) ?_
    · walk_at "rd"
      exact ⟨tp, r, rfl, ht, ok, fun p dx H' hp e1 s1 => ⟨_, .inl (.inl (.inl (s1 _ _ hw))), fun l hl => hN _ _ ⟨p, dx, l, rfl, s1.trans (same_new hl), same_new hl _ _ e1, upd_same⟩⟩⟩
    rintro σ1 H1 ⟨rp, dr, hl, rfl, s1, hR, hh⟩
    have ht1 := s1 _ _ ht
    have hw1 := s1 _ _ hw
    refine tseq_split (fun σ' H' => ∃ wr, σ' = [some (.ref tp), some (.ref wl), some (.ref ol), some (.ref rp), some (.ref hl), some (.ref wr), none, none, none, none, none, none] ∧ Same H1 H' ∧ H' wr = some (.lst ((wrongT r ws).map fun i => V.int (i : Nat)))) (fun N hN => ?_) ?_
    · walk_at "rd"
      refine tlc_all (ι := Unit) (C := fun _ => True) (J := fun _ => Ite K wl) (H1 := fun _ => H1) (fun R hR => ?_) fun _ _ D hD => ?_
      · walk_at "rd"
        exact ⟨⟨_, .inl (.inl hw1)⟩, hR () trivial⟩
      refine lc_filt (List.range ws.length) (badT r ws) (fun i => .int (i : Nat)) (G := fun H => SqL K H wl (ws.map fun w => .str (S w))) (by rw [List.length_range]; exact hlen ▸ walk_enum) (by rw [List.length_range]; omega) hD (fun H s => .inl (.inl (s _ _ hw1))) ?_ ?_
      · rintro R R' i a' x H2 H2' ha' s2 ⟨T0, x1, x2, rfl, hT0, rfl, hx1, hx2⟩ hk1 hk2
        dsimp only at hx2
        rw [List.getElem?_map] at hx2
        obtain ⟨u, hu, rfl⟩ := Option.map_eq_some_iff.mp hx2
        cases hx1
        obtain ⟨g1, g2⟩ := wg u (List.mem_of_getElem? hu)
        have ui := (List.getElem?_eq_some_iff.mp hu).1
        rw [List.getElem?_range ui] at ha'
        cases ha'
        walk_at "rdh"
        refine ⟨_, .inl (.inl upd_same), rfl, _, _, rfl, _, _, rfl, rfl, tp, r, u, rfl, (s2.trans (same_new hT0)) _ _ ht1, ok, by omega, fun H4 s4 => ⟨_, rfl, ?_⟩⟩
        have g := (same_new (o := HO.tup [V.int (i : Nat), V.str (S u)]) hT0).trans s4
        have eb : badT r ws i = cannotT r u := by rw [badT, getD_some hu]
        cases hc : cannotT r u with
        | true => exact ite2 (fun _ => hk1 _ g (eb.trans hc)) (fun z => absurd rfl z)
        | false => exact ite2 (fun z => by cases z) (fun _ => hk2 _ g (eb.trans hc))
      · intro G g e
        exact hN _ _ ⟨D, rfl, g, e⟩
    rintro σ2 H2 ⟨wr, rfl, s2, ew⟩
    have ht2 := s2 _ _ ht1
    have hw2 := s2 _ _ hw1
    have hR2 := s2 _ _ hR
    have hh2 := s2 _ _ hh
    have wsm : ∀ m ∈ wrongT r ws, m ≤ 100000 := fun m hm => by
      have := List.mem_range.mp (List.mem_filter.mp hm).1
      omega
    have tws : tame (wsD ws) = true := wsD_tame fun t ht => ok8_of (wg t ht).1
    have sws : SeqAt.shaped (wsD ws) = true := shaped_of tws (Nat.le_trans (wsD_depth ws) (by decide))
    refine tseq_split (fun σ' H' => σ' = [some (.ref tp), some (.ref wl), some (.ref ol), some (.ref rp), some (.ref hl), some (.ref wr), none, none, none, none, none, none] ∧ Same H2 H' ∧ (∀ w ∈ ws, cannotT r w = false)) (fun N hN => ?_) ?_
    · walk_at "rd"
      intro p0 hp0
      have sp := same_new (o := HO.lst []) hp0
      refine ⟨isD (wrongT r ws), dp_is (sp _ _ ew), .list [], .lst (.inl (.inl upd_same)) .nil, shaped_of (isD_tame wsm) (isD_depth _), by decide, ?_⟩
      rw [eqv_dec (p := wrongT r ws = []) (isD_tame wsm) (by simp [tame, tameAll]) (by rw [show PyData.list [] = isD [] from rfl, isD_inj])]
      cases hW : wrongT r ws with
      | nil =>
        refine ite2 (fun z => by cases z) (fun _ => hN _ _ ⟨rfl, sp, wrong_nil hW⟩)
      | cons n l =>
        obtain ⟨n1, n2⟩ := wrong_cons hW
        refine ite2 (fun _ => ?_) (fun z => absurd rfl z)
        refine ⟨rp, dr, r, hl, ws, n, rfl, sp _ _ hR2, ok, sp _ _ hh2, wn, wg, n1, n2, fun H4 s4 p hp => ?_⟩
        have sh := shown_int (n := n) (by omega)
        refine ⟨.list [.int (n : Nat)], .lst (.inl (.inl upd_same)) (.cons (.int _) .nil), sh.1, sh.2.1, sh.2.2.1, sh.2.2.2, _, .inl (.inl ((same_new hp) _ _ (s4 _ _ (sp _ _ ew)))), .int (n : Nat), ?_, fun p1 hp1 => ⟨.list [.int (n : Nat)], .lst (.inl (.inl upd_same)) (.cons (.int _) .nil), sh.1, sh.2.1, sh.2.2.1, sh.2.2.2, ?_⟩⟩
        · rw [hW]
          exact atI_nat (j := 0) rfl
        refine ite2 (fun _ => ?_) (fun z => absurd rfl z)
        have g := (sp.trans s4).trans ((same_new (o := HO.lst [V.int (n : Nat)]) hp).trans (same_new (o := HO.lst [V.int (n : Nat)]) hp1))
        refine ⟨wsD ws, dp_ws (.inl (.inl (g _ _ hh2))), wsD ws, dp_ws (.inl (.inl (g _ _ hw2))), sws, sws, ?_⟩
        rw [(eqv_iff _ _ tws tws).mpr rfl]
        exact k _ ((s1.trans s2).trans g)
    rintro σ3 H3 ⟨rfl, s3, cn⟩
    have hR3 := s3 _ _ hR2
    have hh3 := s3 _ _ hh2
    obtain ⟨b0, hb0⟩ : ∃ b0, b0 = r.breaks.headD 0 := ⟨_, rfl⟩
    have bm : b0 ∈ r.breaks := by
      cases e : r.breaks with
      | nil => exact absurd e ok.ne
      | cons x y => rw [hb0, e]; exact List.mem_cons_self
    refine tseq_split (fun σ' H' => ∃ q dx lh xs ts, σ' = [some (.ref tp), some (.ref wl), some (.ref ol), some (.ref rp), some (.ref hl), some (.ref wr), some (.ref q), none, none, none, none, none] ∧ Same H3 H' ∧ H3 q = none ∧ H3 lh = none ∧
      Sho a H' q dx lh (joinT b0 ts) xs (ws.map fun w => toI (hgtT r w)) ∧ Paired (WrT r) ts ws) (fun N hN => ?_) ?_
    · walk_at "rd"
      refine ⟨rp, dr, r, hl, ws, rfl, hR3, ok, hh3, wn, fun w hw => ⟨(wg w hw).1, (wg w hw).2, cn w hw⟩, fun ts q H' dx l' xs' h1 h2 h3 s4 h5 h6 h7 => hN _ _ ⟨q, dx, l', xs', ts, rfl, s4, h2, h3, ⟨by rw [h5, hb0]; rfl, h6, ?_⟩, h1⟩⟩
      have := Paired.mapR2 toI (Paired.mapP h7 fun _ _ z => ht_to z)
      rw [List.map_map] at this
      exact this
    rintro σ4 H4 ⟨q, dx, lh, xs, ts, rfl, s4, q0, l0, sh4, wr4⟩
    have gall : ∀ w ∈ ws, w.all sgn = true ∧ w.length ≤ 12 ∧ cannotT r w = false := fun w hw => ⟨(wg w hw).1, (wg w hw).2, cn w hw⟩
    have wb : WsB ws := ⟨by omega, fun w hw => by have := (wg w hw).2; omega, fun w hw => ok8_of (wg w hw).1⟩
    have bsg : ∀ c ∈ r.every, sgn c = true := fun c hc => List.all_eq_true.mp ok.sg c hc
    have sb0 : sgn b0 = true := bsg b0 (List.mem_append_left _ bm)
    have tsg := wr_signs sb0 wr4 fun w hw => (wg w hw).1
    have tl := wr_short b0 wr4 wn fun w hw => ⟨(wg w hw).2, cn w hw⟩
    have t8 : ok8 (joinT b0 ts) := ok8_of tsg
    have own := shows_own bm wr4 rp
    have hsb : HsB (ws.map fun w => toI (hgtT r w)) ∧ ∀ rows ∈ ws.map (fun w => toI (hgtT r w)), SmI rows := by
      have hql := r.quotes_len ok
      have hb := hs_b gall
      exact ⟨⟨by rw [List.length_map]; omega, fun rows hr => by have := (hb rows hr).1; omega, fun rows hr row hw => by have := ((hb rows hr).2 row hw).1; rw [sts_len] at this; omega⟩, fun rows hr row hw x hx => by have := ((hb rows hr).2 row hw).2 x hx; omega⟩
    have len0 := wr_len0 b0 wr4
    have rd4 := read_wr bm wr4 rp
    have hsl : (ws.map fun w => toI (hgtT r w)).length = ws.length := List.length_map _
    have cS := T.c_Shortest.cl
    have nT := T.n_Shortest_text
    have nH := T.n_Shortest_heights
    have nW := T.n_Words_words
    have cW := T.c_Words.cl
    generalize ws.map (fun w => toI (hgtT r w)) = hs at *
    generalize joinT b0 ts = tx at *
    have S4 := ((s1.trans s2).trans s3).trans s4
    have ht4 := S4 _ _ ht
    have hw4 := S4 _ _ hw
    have hR4 := s4 _ _ hR3
    have hh4 := s4 _ _ hh3
    refine tseq_split (fun σ' H' => σ' = [some (.ref tp), some (.ref wl), some (.ref ol), some (.ref rp), some (.ref hl), some (.ref wr), some (.ref q), none, none, none, none, none] ∧ H' = H4) (fun N hN => ?_) ?_
    · walk_at "rd"
      have tyq : TyX K H4 (.ref q) (.ref a.c_Shortest) := .base (.ins sh4.h1 cS T.i_Shortest.ha T.i_Shortest.hn T.i_Shortest.ht T.i_Shortest.hm)
      refine ⟨_, _, .own _, tyq, _, T.k_SA, ite2 (fun z => by cases z) (fun _ => ?_)⟩
      refine ⟨_, _, .own _, tyq, _, T.k_SS, ite2 (fun z => by cases z) (fun _ => ?_)⟩
      refine ⟨wsD ws, dp_ws (.inl (.inl hh4)), wsD ws, dp_ws (.inl (.inl hw4)), sws, sws, ?_⟩
      rw [(eqv_iff _ _ tws tws).mpr rfl]
      exact ite2 (fun z => by cases z) (fun _ => hN _ _ ⟨rfl, rfl⟩)
    rintro σ5 H5 ⟨rfl, rfl⟩
    refine tseq_split (fun σ' H' => σ' = [some (.ref tp), some (.ref wl), some (.ref ol), some (.ref rp), some (.ref hl), some (.ref wr), some (.ref q), some (.int (tx.length : Nat)), none, none, none, none] ∧ Same H5 H') (fun N hN => ?_) ?_
    · walk_at "rd"
      refine tlc_map ws (fun w => .int (leastT r w : Nat)) (J := Itl K wl) (H1 := H5) (G := fun H => SqL K H wl (ws.map fun w => .str (S w))) (fun R hR => ?_) (hlen ▸ walk_list) (by omega) (fun H s => .inl (.inl (s _ _ hw4))) ?_ ?_
      · walk_at "rd"
        exact ⟨⟨_, .inl (.inl hw4)⟩, hR⟩
      · rintro R R' j u x G G' hj g ⟨rfl, hx⟩ hk
        rw [List.getElem?_map, hj] at hx
        cases hx
        obtain ⟨g1, g2, g3⟩ := gall u (List.mem_of_getElem? hj)
        walk_at "rdh"
        exact ⟨tp, r, u, rfl, g _ _ ht4, ok, g2, g3, fun G4 g4 => hk _ g4⟩
      · intro D G hD g e
        have e2 : (ws.map fun w => V.int (leastT r w : Nat)) = (ws.map fun w => (leastT r w : Int)).map V.int := by rw [List.map_map]; rfl
        rw [e2] at e
        refine ⟨D, _, rfl, .inl (.inl e), _, .inl (.inl (.inl (g _ _ hw4))), _, rfl, ?_⟩
        have tot : (ws.map fun w => (leastT r w : Int)).sum + (if ((ws.map fun w => V.str (S w)).length : Int) - 1 > 0 then ((ws.map fun w => V.str (S w)).length : Int) - 1 else 0) = (tx.length : Nat) := by
          rw [hlen, len0, sum_succ]
          rw [sum_cast]
          by_cases z : ws.length = 0
          · rw [List.eq_nil_of_length_eq_zero z]
            simp
          · split <;> omega
        rw [tot]
        exact hN _ _ ⟨rfl, g⟩
    rintro σ6 H6 ⟨rfl, s6⟩
    have sh6 := sh4.same s6
    have ht6 := s6 _ _ ht4
    have hw6 := s6 _ _ hw4
    refine tseq_split (fun σ' H' => σ' = [some (.ref tp), some (.ref wl), some (.ref ol), some (.ref rp), some (.ref hl), some (.ref wr), some (.ref q), some (.int (tx.length : Nat)), none, none, none, none] ∧ Same H6 H') (fun N hN => ?_) ?_
    · walk_at "rd"
      refine ⟨_, _, _, sh6.h1, cS, nT, _, lk_ShoT _ _, S tx, rfl, line_le (by rw [S_len]; omega), ite2 (fun z => absurd (by rw [S_len]) z) (fun _ => ?_)⟩
      refine ⟨_, _, _, sh6.h1, cS, nT, _, lk_ShoT _ _, _, _, _, sh6.h1, cS, nH, _, lk_ShoH _ _, tp, r, wl, ws, tx, lh, xs, hs, rp, rfl, ht6, ok, hw6, wb, by omega, t8, sh6.h2, sh6.h3, hsb.1, hsb.2, fun G g => ⟨_, rfl, ?_⟩⟩
      rw [own]
      exact ite2 (fun z => by cases z) (fun _ => hN _ _ ⟨rfl, g⟩)
    rintro σ7 H7 ⟨rfl, s7⟩
    have sh7 := sh6.same s7
    have hR7 := s7 _ _ (s6 _ _ hR4)
    have hw7 := s7 _ _ hw6
    refine tseq_split (fun σ' H' => σ' = [some (.ref tp), some (.ref wl), some (.ref ol), some (.ref rp), some (.ref hl), some (.ref wr), some (.ref q), some (.int (tx.length : Nat)), none, none, none, none] ∧ Same H7 H') (fun N hN => ?_) ?_
    · walk_at "rd"
      refine ⟨_, _, sh7.h1, lkn_ShoW _ _, q, dx, lh, tx, xs, hs, rp, dr, r, wl, ws, rfl, sh7, hsb.1, by omega, t8, hR7, ok, hw7, wb, fun G g => ⟨_, rfl, ?_⟩⟩
      rw [own]
      refine ite2 (fun z => absurd rfl z) (fun _ => ?_)
      have shg := sh7.same g
      refine ⟨_, _, _, shg.h1, cS, nT, _, lk_ShoT _ _, rp, dr, r, tx, rfl, g _ _ hR7, few_quotes ok, by omega, tsg, fun p G2 _ g2 an => ?_⟩
      rw [rd4.1] at an
      obtain ⟨dw, l1, l2, ys, a1, a2, a3, a4, _⟩ := an
      rw [rd4.2] at a2
      refine ⟨p, rfl, _, _, _, a1, cW, nW, _, lk_WFw' _ _, wsD ws, dp_ws (.inl (.inl a2)), wsD ws, dp_ws (.inl (.inl (g2 _ _ (g _ _ hw7)))), sws, sws, ?_⟩
      rw [(eqv_iff _ _ tws tws).mpr rfl]
      exact ite2 (fun z => by cases z) (fun _ => hN _ _ ⟨rfl, g.trans g2⟩)
    rintro σ8 H8 ⟨rfl, s8⟩
    refine tseq_split (fun σ' H' => (∃ v8 v9, σ' = [some (.ref tp), some (.ref wl), some (.ref ol), some (.ref rp), some (.ref hl), some (.ref wr), some (.ref q), some (.int (tx.length : Nat)), v8, v9, none, none]) ∧ Same H8 H') (fun N hN => ?_) ?_
    · have sh8 := sh7.same s8
      have S8 := ((S4.trans s6).trans s7).trans s8
      have ho8 := S8 _ _ ho
      refine tfor_it (J := Itl K ol) (H1 := H8) (n := os.length) (G := fun H => SqL K H ol os) (fun R hR => ?_) walk_list (fun j σ H' => (∃ v8 v9, σ = [some (.ref tp), some (.ref wl), some (.ref ol), some (.ref rp), some (.ref hl), some (.ref wr), some (.ref q), some (.int (tx.length : Nat)), v8, v9, none, none]) ∧ Same H8 H') ⟨⟨_, _, rfl⟩, Same.refl _⟩ (fun j σ H' _ h => .inl (.inl (h.2 _ _ ho8))) ?_ ?_
      · walk_at "rd"
        exact ⟨⟨_, .inl (.inl ho8)⟩, hR⟩
      · rintro j x σ G G' hj ⟨⟨v8, v9, rfl⟩, g⟩ ⟨rfl, hx⟩
        obtain ⟨d, hdj, ov⟩ := Paired.atL hd hx
        obtain ⟨t, tp1, wl1, rfl, o1, o2, o3⟩ := ov.same (S8.trans g)
        obtain ⟨ok1, fw1⟩ := hdo d (List.mem_of_getElem? hdj)
        walk_at "rdh"
        have shg := sh8.same g
        have wb1 : WsB d.2 := ⟨by have := fw1.1; omega, fun w hw => by have := (fw1.2 w hw).2; omega, fun w hw => ok8_of (fw1.2 w hw).1⟩
        refine ⟨_, .inl (.inl o1), rfl, _, _, rfl, _, _, rfl, rfl, _, _, shg.h1, lkn_ShoW _ _, tp1, d.1, rfl, o2, ok1, fun p1 d1 G1 _ e1 g1 => ?_⟩
        refine ⟨q, dx, lh, tx, xs, hs, p1, d1, d.1, wl1, d.2, rfl, shg.same g1, hsb.1, by omega, t8, e1, ok1, g1 _ _ o3, wb1, fun G2 g2 p2 hp2 => ?_⟩
        have shb := shown_bool (showsT d.1 tx hs d.2 p1)
        have g3 := (g1.trans g2).trans (same_new (o := HO.lst [V.bl (showsT d.1 tx hs d.2 p1)]) hp2)
        have sg3 := shg.same g3
        refine ⟨.list [.bool _], .lst (.inl (.inl upd_same)) (.cons (.bl _) .nil), shb.1, shb.2.1, shb.2.2.1, shb.2.2.2, _, _, _, sg3.h1, cS, nT, _, lk_ShoT _ _, _, _, _, sg3.h1, cS, nH, _, lk_ShoH _ _, tp1, d.1, wl1, d.2, tx, lh, xs, hs, p1, rfl, g3 _ _ o2, ok1, g3 _ _ o3, wb1, by omega, t8, sg3.h2, sg3.h3, hsb.1, hsb.2, fun G3 g4 p3 hp3 => ?_⟩
        refine ⟨.list [.bool _], .lst (.inl (.inl upd_same)) (.cons (.bl _) .nil), shb.1, shb.2.1, shb.2.2.1, shb.2.2.2, ite2 (fun z => absurd rfl z) (fun _ => ?_)⟩
        exact ⟨⟨_, rfl⟩, g.trans (g3.trans (g4.trans (same_new hp3)))⟩
      · rintro σ G ⟨⟨v8, v9, rfl⟩, g⟩
        exact hN _ _ ⟨⟨_, _, rfl⟩, g⟩
    rintro σ9 H9 ⟨⟨v8, v9, rfl⟩, s9⟩
    have sh9 := (sh7.same s8).same s9
    have S9 := (((S4.trans s6).trans s7).trans s8).trans s9
    have hw9 := S9 _ _ hw
    have hR9 := s9 _ _ (s8 _ _ hR7)
    walk_at "rd"
    refine ⟨_, _, _, sh9.h1, cS, nH, _, lk_ShoH _ _, .inl ⟨rfl, _, .inl (.inl sh9.h2)⟩, fun p hp => ⟨lh, rfl, xs, (same_new hp) _ _ sh9.h2, ?_, ?_⟩⟩
    · have := sh9.h3.length
      exact Nat.lt_of_le_of_lt (show xs.length ≤ 1000 by omega) (by decide)
    have nlq : q ≠ lh := ne_of sh9.h1 sh9.h2 fun z => by cases z
    have l3 : ∀ {b : Addr} {o : HO}, H3 b = some o → b ≠ lh := fun e => ne_of_none e l0
    have lH : H lh = none := ((s1.trans s2).trans s3).free l0
    have sp := same_new (o := HO.lst []) hp
    have kl : Kp lh (upd H9 p (HO.lst [])) (upd (upd H9 p (HO.lst [])) lh (HO.lst (xs ++ [V.ref p]))) := kp_upd
    have shp := sh9.same sp
    have npl : p ≠ lh := fun z => by rw [z, sh9.h2] at hp; cases hp
    have eL : upd (upd H9 p (HO.lst [])) lh (HO.lst (xs ++ [V.ref p])) lh = some (HO.lst (xs ++ [V.ref p])) := upd_same
    have eP : upd (upd H9 p (HO.lst [])) lh (HO.lst (xs ++ [V.ref p])) p = some (HO.lst []) := (upd_ne npl).trans upd_same
    have sG : Same H (upd (upd H9 p (HO.lst [])) lh (HO.lst (xs ++ [V.ref p]))) := (S9.trans sp).mut lH
    have hRG := kl _ _ (sp _ _ hR9) (l3 hR3)
    have hwG := kl _ _ (sp _ _ hw9) (l3 ((s1.trans (s2.trans s3)) _ _ hw))
    have h3G : Paired (HtI (upd (upd H9 p (HO.lst [])) lh (HO.lst (xs ++ [V.ref p])))) (xs ++ [V.ref p]) (hs ++ [[]]) := Paired.app (hts_kp shp.h2 shp.h3 kl) (.cons ⟨p, [], rfl, eP, .nil⟩ .nil)
    have h1G := kl _ _ shp.h1 nlq
    generalize upd (upd H9 p (HO.lst [])) lh (HO.lst (xs ++ [V.ref p])) = G at *
    have hb2 : HsB (hs ++ [[]]) := by
      refine ⟨by rw [List.length_append]; simp only [List.length_cons, List.length_nil]; omega, fun rows hr => ?_, fun rows hr => ?_⟩
      · rcases List.mem_append.mp hr with hr | hr
        · exact hsb.1.m rows hr
        · rw [List.mem_singleton.mp hr]; exact Nat.zero_le _
      · rcases List.mem_append.mp hr with hr | hr
        · exact hsb.1.l rows hr
        · rw [List.mem_singleton.mp hr]; exact fun _ z => (nomatch z)
    refine ⟨_, _, h1G, lkn_ShoW _ _, q, dx, lh, tx, _, _, rp, dr, r, wl, ws, rfl, ⟨h1G, eL, h3G⟩, hb2, by omega, t8, hRG, ok, hwG, wb, fun G2 g2 => ⟨_, rfl, ?_⟩⟩
    rw [shows_long (by rw [List.length_append]; simp only [List.length_cons, List.length_nil]; omega)]
    refine ite2 (fun _ => ?_) (fun z => absurd rfl z)
    refine ⟨rp, dr, r, wl, ws, rfl, g2 _ _ hRG, ok, g2 _ _ hwG, wn, gall, fun ts' q' G3 dx' l' xs' h1' _ _ g3 h5 h6 h7 => ?_⟩
    refine ⟨q', rfl, _, _, _, h5, cS, nH, _, lk_ShoH _ _, l', rfl, _, .inl (.inl (.inl h6)), _, .inl (.inl (.inl (g3 _ _ (g2 _ _ hwG)))), ?_⟩
    have e7 := h7.length
    rw [List.length_map] at e7
    rw [hlen, e7, decide_eq_true rfl]
    exact k _ (sG.trans (g2.trans g3))
end
end Qw

set_option Elab.async false
set_option linter.all false
set_option maxRecDepth 100000
set_option maxHeartbeats 4000000
namespace Qw
open PySem L2
local macro_rules | `(tactic| walk_at "rd") => `(tactic| simp only [rMinD, rRemD, tDGet, tDIn, tDNotIn, sDPut, tDNewT, tLstRg, tRg2, iEnum, iRng3, tRevL, rSlS, rSlL, gSub, rSetL, wipe, List.map_cons, List.map_nil, rAll, rAny, rIsi, tM1, tM0, iZipLT, iZip, iRng2, tLenSetS, rListStr, rMulS, rRep, rCntB, tRevS, rNeD, rEqD, tSeq, tNext, tAsg, tRet, tRetN, tDrop, tIfS, sFld, sFldAug, tVar, tC, tOp, tUn, tTest, tB, tAnd, tOr, tNot, tAndV, tOrV, tNotV, tIf, tTup, tLst, tCons, tNil, tCB, tCall, tMeth, tMake, tFld, rI, rI0, rU, rEq, rNe, rCat, gName, gTup, gCons, gNil, tPar, tPar3, tBM, tBM0, rAppend, rExtend, rPopAt, rIxL, rIxT, rIxS, tSl, rSlS, rSlL, tPart, tNoPart, iStr, iTup, iList, iRng1, tAug, ipI, L2.rAdd, L2.rSub, L2.rAddS, tChain, rIsB, rNotB, scal_ss, scal_ii, scal_bb, scal_nn, scal_in, scal_ni, tYes,
  cx_K, cx_N, List.getElem?_cons_zero, List.getElem?_cons_succ, List.set_cons_zero, List.set_cons_succ, List.nil_append, List.cons_append, List.append_nil, List.length_cons, List.length_nil, Nat.zero_add,
  Option.some.injEq, V.ref.injEq, V.int.injEq, V.str.injEq, V.bl.injEq, HO.ins.injEq, HO.lst.injEq, HO.tup.injEq, List.cons.injEq, exists_eq_left, exists_eq_left', exists_eq_right, exists_eq_right', and_true, true_and, exists_and_left, exists_and_right, and_assoc, decide_eq_true_eq, Bool.not_eq_true', decide_eq_false_iff_not, reduceCtorEq, exists_const, forall_const, if_true, if_false, false_and, and_false, ite_true, ite_false, Bool.true_eq_false, Bool.false_eq_true, Nat.reduceLeDiff, Nat.reduceAdd, small_line, small_lt, upd_ne, ne_eq, not_false_eq_true, Nat.zero_le, Prod.mk.injEq, upd_same, upd_upd, S_tl, S_len, S_app, S_one, S_inj,
  lk_breaks, lk_hard, lk_soft, lk_bend, lk_note, lk_rules, lk_state, lk_bent, lk_word, lk_begun, lk_opened, lk_place, pt_state, pt_bent, pt_word, pt_wordS, pt_wordN, pt_begun, pt_opened, pt_place, pt_place1, len_mf, litv_empty, litv_note, litv_nl, mf_inj, rf_inj, lkn_begin, lkn_ended, lkn_plain, lkn_quoted, lkn_step, lkn_fault, lkn_key, lkn_told, lkn_quotes, lkn_special, pt_open1, not_true_eq_false, not_false_eq_true])
local macro_rules | `(tactic| walk_at "rdh") => `(tactic| simp only [rMinD, rRemD, tDGet, tDIn, tDNotIn, sDPut, tDNewT, tLstRg, tRg2, iEnum, iRng3, tRevL, rSlS, rSlL, gSub, rSetL, wipe, List.map_cons, List.map_nil, rAll, rAny, rIsi, tM1, tM0, iZipLT, iZip, iRng2, tLenSetS, rListStr, rMulS, rRep, rCntB, tRevS, rNeD, rEqD, tSeq, tNext, tAsg, tRet, tRetN, tDrop, tIfS, sFld, sFldAug, tVar, tC, tOp, tUn, tTest, tB, tAnd, tOr, tNot, tAndV, tOrV, tNotV, tIf, tTup, tLst, tCons, tNil, tCB, tCall, tMeth, tMake, tFld, rI, rI0, rU, rEq, rNe, rCat, gName, gTup, gCons, gNil, tPar, tPar3, tBM, tBM0, rAppend, rExtend, rPopAt, rIxL, rIxT, rIxS, tSl, rSlS, rSlL, tPart, tNoPart, iStr, iTup, iList, iRng1, tAug, ipI, L2.rAdd, L2.rSub, L2.rAddS, tChain, rIsB, rNotB, scal_ss, scal_ii, scal_bb, scal_nn, scal_in, scal_ni, tYes,
  cx_K, cx_N, List.getElem?_cons_zero, List.getElem?_cons_succ, List.set_cons_zero, List.set_cons_succ, List.nil_append, List.cons_append, List.append_nil, List.length_cons, List.length_nil, Nat.zero_add,
  Option.some.injEq, V.ref.injEq, V.int.injEq, V.str.injEq, V.bl.injEq, HO.ins.injEq, HO.lst.injEq, HO.tup.injEq, List.cons.injEq, exists_eq_left, exists_eq_left', exists_eq_right, exists_eq_right', and_true, true_and, exists_and_left, exists_and_right, and_assoc, decide_eq_true_eq, Bool.not_eq_true', decide_eq_false_iff_not, reduceCtorEq, exists_const, forall_const, if_true, if_false, false_and, and_false, ite_true, ite_false, Bool.true_eq_false, Bool.false_eq_true, Nat.reduceLeDiff, Nat.reduceAdd, small_line, small_lt, upd_ne, ne_eq, not_false_eq_true, Nat.zero_le, Prod.mk.injEq, upd_same, upd_upd, S_tl, S_len, S_app, S_one, S_inj,
  lk_breaks, lk_hard, lk_soft, lk_bend, lk_note, lk_rules, lk_state, lk_bent, lk_word, lk_begun, lk_opened, lk_place, pt_state, pt_bent, pt_word, pt_wordS, pt_wordN, pt_begun, pt_opened, pt_place, pt_place1, len_mf, litv_empty, litv_note, litv_nl, mf_inj, rf_inj, lkn_begin, lkn_ended, lkn_plain, lkn_quoted, lkn_step, lkn_fault, lkn_key, lkn_told, lkn_quotes, lkn_special, pt_open1, not_true_eq_false, not_false_eq_true, *])
local macro_rules | `(tactic| walk_at "pl") => `(tactic| (first | decide | (refine Nat.lt_of_le_of_lt (length_putF _ _ _) ?_; repeat (first | decide | refine pl2 ?_))))
local macro_rules | `(tactic| walk_at "al") => `(tactic| (intro p hp; generalize hH : upd _ p _ = H1; obtain ⟨S, e⟩ := gen_new hH hp; clear hH))
local macro_rules | `(tactic| walk_at "rc") => `(tactic| simp only [rMinD, rRemD, tDGet, tDIn, tDNotIn, sDPut, tDNewT, tLstRg, tRg2, iEnum, iRng3, tRevL, rSlS, rSlL, gSub, rSetL, wipe, List.map_cons, List.map_nil, rAll, rAny, rIsi, tM1, tM0, iZipLT, iZip, iRng2, tLenSetS, rListStr, rMulS, rRep, rCntB, tRevS, rNeD, rEqD, tNext, tAsg, tRet, tRetN, tDrop, tIfS, sFld, sFldAug, tVar, tC, tOp, tUn, tTest, tB, tAnd, tOr, tNot, tAndV, tOrV, tNotV, tIf, tTup, tLst, tCons, tNil, tCB, tCall, tMeth, tMake, tFld, rI, rI0, rU, rEq, rNe, rCat, gName, gTup, gCons, gNil, tPar, tPar3, tBM, tBM0, rAppend, rExtend, rPopAt, rIxL, rIxT, rIxS, tSl, rSlS, rSlL, tPart, tNoPart, iStr, iTup, iList, iRng1, tAug, ipI, L2.rAdd, L2.rSub, L2.rAddS, tChain, rIsB, rNotB, scal_ss, scal_ii, scal_bb, scal_nn, scal_in, scal_ni, tYes,
  cx_K, cx_N, List.getElem?_cons_zero, List.getElem?_cons_succ, List.set_cons_zero, List.set_cons_succ, List.nil_append, List.cons_append, List.append_nil, List.length_cons, List.length_nil, Nat.zero_add,
  Option.some.injEq, V.ref.injEq, V.int.injEq, V.str.injEq, V.bl.injEq, HO.ins.injEq, HO.lst.injEq, HO.tup.injEq, List.cons.injEq, exists_eq_left, exists_eq_left', exists_eq_right, exists_eq_right', and_true, true_and, exists_and_left, exists_and_right, and_assoc, decide_eq_true_eq, Bool.not_eq_true', decide_eq_false_iff_not, reduceCtorEq, exists_const, forall_const, if_true, if_false, false_and, and_false, ite_true, ite_false, Bool.true_eq_false, Bool.false_eq_true, Nat.reduceLeDiff, Nat.reduceAdd, small_line, small_lt, upd_ne, ne_eq, not_false_eq_true, Nat.zero_le, Prod.mk.injEq, upd_same, upd_upd, S_tl, S_len, S_app, S_one, S_inj,
  lk_breaks, lk_hard, lk_soft, lk_bend, lk_note, lk_rules, lk_state, lk_bent, lk_word, lk_begun, lk_opened, lk_place, pt_state, pt_bent, pt_word, pt_wordS, pt_wordN, pt_begun, pt_opened, pt_place, pt_place1, len_mf, litv_empty, litv_note, litv_nl, mf_inj, rf_inj, lkn_begin, lkn_ended, lkn_plain, lkn_quoted, lkn_step, lkn_fault, lkn_key, lkn_told, lkn_quotes, lkn_special, pt_open1, not_true_eq_false, not_false_eq_true])
local macro_rules | `(tactic| walk_at "gt") => `(tactic| simp only [gTup, gCons, gNil, gName, List.set_cons_zero, List.set_cons_succ, Option.some.injEq, V.ref.injEq, V.int.injEq, V.str.injEq, HO.tup.injEq, List.cons.injEq, exists_eq_left, exists_eq_left', exists_eq_right, exists_eq_right', and_true, true_and, exists_and_left, exists_and_right, and_assoc, reduceCtorEq, exists_const])
theorem lc_P {α : Type} {J : It} {G : Hp → Prop} {Y : Nat → Hp → V → Hp → Prop} {g : TG} {tt : TT} {te : TE} {vs : List Nat} {σ : St} {H1 : Hp} {D : Addr} {Qd : Hp → Prop}
    (as : List α) (P : Nat → List V → Hp → Prop) (w : Walk J as.length G Y) (hz : as.length ≤ 1000000) (start : P 0 [] (upd H1 D (.lst [])))
    (hG : ∀ i acc H, P i acc H → H D = some (.lst acc) → G H)
    (hs : ∀ (R : VK) (R' : Hp → Prop) i a x H H' acc, as[i]? = some a → P i acc H → H D = some (.lst acc) → Y i H x H' → (∀ y H4, H4 D = some (.lst acc) → P (i + 1) (acc ++ [y]) (upd H4 D (.lst (acc ++ [y]))) → R y H4) →
      g x (wipe σ vs) H' fun σ2 H2 => wipe σ2 vs = wipe σ vs ∧ tt σ2 H2 fun b H3 => if b = true then te σ2 H3 R else R' H3)
    (hd : ∀ H ys, P as.length ys H → H D = some (.lst ys) → Qd H) :
    ∃ W : Nat → Nat → Hp → Prop, (∃ m, W 0 m (upd H1 D (.lst []))) ∧ ∀ i m H, W i m H →
      (J.stop i H ∧ Qd H) ∨ (J.go i H ∧ ∃ Nx : Hp → Prop, (∀ H', Nx H' → ∃ m', m' < m ∧ W (i + 1) m' H') ∧ ∀ x H', J.yld i H x H' → g x (wipe σ vs) H' fun σ2 H2 => wipe σ2 vs = wipe σ vs ∧ tt σ2 H2 fun b H3 =>
        if b = true then te σ2 H3 fun y H4 => ∃ acc, H4 D = some (.lst acc) ∧ acc.length < sizeLine ∧ Nx (upd H4 D (.lst (acc ++ [y]))) else Nx H3) := by
  refine lc_it w (fun i H => ∃ acc, acc.length = i ∧ H D = some (.lst acc) ∧ P i acc H) ⟨[], rfl, upd_same, start⟩ (fun _ H _ ⟨acc, _, h1, h2⟩ => hG _ acc H h2 h1) ?_ fun H ⟨acc, _, h1, h2⟩ => hd H acc h2 h1
  rintro i x H H' hi ⟨acc, l1, p1, p2⟩ y
  obtain ⟨a, ha⟩ : ∃ a, as[i]? = some a := ⟨as[i], List.getElem?_eq_getElem hi⟩
  refine hs _ _ i a x H H' acc ha p2 p1 y fun z H4 h4 p4 => ⟨acc, h4, ?_, acc ++ [z], by simp [l1], upd_same, p4⟩
  rw [l1]
  exact Nat.lt_of_lt_of_le (show i < 1000001 by omega) (by decide)
/-- not the state's list -/
theorem ne_st {K : PySem.W.Frag} {ns : List Int} {H : Hp} {st l : Addr} {xs : List V} (T : Stt K ns H st) (h : H l = some (.lst xs)) (hx : ∀ a b c, xs ≠ [.ref a, .int b, .int c]) : l ≠ st := by
  obtain ⟨scr, b, n, h1, _⟩ := T
  rintro rfl
  rw [h1] at h
  injection h with h
  injection h with h
  exact hx _ _ _ h.symm
theorem strs_ne (ws : List Tx) : ∀ a b c, (ws.map fun w => V.str (S w)) ≠ [.ref a, .int b, .int c] := fun a b c z => by
  cases ws with
  | nil => cases z
  | cons w ws => injection z with z _; cases z
theorem ifS_cut {tt : TT} {b1 b2 : TS} {k : _} {σ : St} {H : Hp} (M : Bool → Hp → Prop) (h1 : ∀ R : Bool → Hp → Prop, (∀ b H', M b H' → R b H') → tt σ H R) (h2 : ∀ H', M true H' → b1 k σ H') (h3 : ∀ H', M false H' → b2 k σ H') : tIfS tt b1 b2 k σ H := by
  refine h1 _ fun b H' m => ?_
  cases b
  · exact h3 H' m
  · exact h2 H' m
/-- what stays through a turn -/
structure C3 (K : PySem.W.Frag) (ns : List Int) (st tp tp' pt : Addr) (r r' : RS) (ml : List V) (H0 H : Hp) : Prop where
  k : Kp st H0 H
  T : Stt K ns H st
  t : H tp = some (.tup r.tup)
  t' : H tp' = some (.tup r'.tup)
  p : H pt = some (.tup ml)
theorem C3.same {K : PySem.W.Frag} {ns : List Int} {st tp tp' pt : Addr} {r r' : RS} {ml : List V} {H0 H H' : Hp} (c : C3 K ns st tp tp' pt r r' ml H0 H) (s : Same H H') : C3 K ns st tp tp' pt r r' ml H0 H' :=
  ⟨c.k.trans (s.kp st), c.T.same s, s _ _ c.t, s _ _ c.t', s _ _ c.p⟩
theorem C3.kp {K : PySem.W.Frag} {ns : List Int} {st tp tp' pt : Addr} {r r' : RS} {ml : List V} {H0 H H' : Hp} (c : C3 K ns st tp tp' pt r r' ml H0 H) (k : Kp st H H') (T : Stt K ns H' st) : C3 K ns st tp tp' pt r r' ml H0 H' :=
  have tk := k.tk c.T.has.choose_spec (fun _ z => by cases z)
  ⟨c.k.trans k, T, tk _ _ c.t, tk _ _ c.t', tk _ _ c.p⟩
theorem C3.mut {K : PySem.W.Frag} {ns : List Int} {st tp tp' pt D : Addr} {r r' : RS} {ml acc o : List V} {H0 H : Hp} (c : C3 K ns st tp tp' pt r r' ml H0 H) (d0 : H0 D = none) (n : D ≠ st) (h : H D = some (.lst acc)) : C3 K ns st tp tp' pt r r' ml H0 (upd H D (.lst o)) :=
  have ne : ∀ {b : Addr} {ys : List V}, H b = some (.tup ys) → b ≠ D := fun e z => by rw [z, h] at e; cases e
  ⟨c.k.mut d0, c.T.kp kp_upd h (fun _ _ z => nomatch z) (Ne.symm n), (upd_ne (ne c.t)).trans c.t, (upd_ne (ne c.t')).trans c.t', (upd_ne (ne c.p)).trans c.p⟩
theorem eQ1 : Str.ofString "'" = S [39] := by kernel_rfl
theorem eQ2 : Str.ofString "\"" = S [34] := by kernel_rfl
theorem eSp : Str.ofString " " = S [32] := by kernel_rfl
theorem eBd : Str.ofString "\\" = S [92] := by kernel_rfl
theorem eNt : Str.ofString "#" = S [35] := by kernel_rfl
theorem eP6 : Str.ofString "'\"" = S [39, 34] := by kernel_rfl
theorem eA : Str.ofString "a" = S [97] := by kernel_rfl
theorem eB : Str.ofString "b" = S [98] := by kernel_rfl
theorem eAB : Str.ofString "a b" = S [97, 32, 98] := by kernel_rfl
theorem eTw : Str.ofString "  " = S [32, 32] := by kernel_rfl
theorem eAb : Str.ofString "a\\b" = S [97, 92, 98] := by kernel_rfl
def wideW : List Tx := List.replicate 8 (List.replicate 6 [39, 34]).flatten
def lenU (r : RS) (ws : List Tx) : Nat := (ws.map fun w => leastT r w + 1).sum - 1
def wssT : List (List Tx) := [[], [[]], [[97], [98]], [[97, 32, 98]], [[32, 32]], [[39]], [[35]], [[97, 92, 98]]]
def WlV (H : Hp) (v : V) (ws : List Tx) : Prop := ∃ l, v = .ref l ∧ H l = some (.lst (ws.map fun w => V.str (S w)))
theorem WlV.same {H H' : Hp} {v : V} {ws : List Tx} (h : WlV H v ws) (s : Same H H') : WlV H' v ws := by
  obtain ⟨l, e, h⟩ := h
  exact ⟨l, e, s _ _ h⟩
def wideR : RS := ⟨[10], [39], [34], [], []⟩
theorem wide_ok : wideR.Ok := ⟨by decide, by decide, by decide, by decide, by decide, by decide, by decide, by decide⟩
theorem wide_can : ∀ w ∈ wideW, w.all sgn = true ∧ w.length ≤ 12 ∧ cannotT wideR w = false := by decide +kernel
theorem wide_len : lenU wideR wideW = 295 := by decide +kernel
theorem wss_can : ∀ ws ∈ wssT, ws.length ≤ 8 ∧ ∀ w ∈ ws, w.all sgn = true ∧ w.length ≤ 12 ∧ cannotT usual w = false := by decide +kernel
theorem wss_len : wssT.map (lenU usual) = [0, 2, 3, 4, 4, 2, 2, 4] := by decide +kernel
section
variable {P : Program} {w : World} {K : PySem.W.Frag} {mg : Str → Option Value} {base : Heap} {a : Ad}
def sp_law (K : PySem.W.Frag) : Sp := fun vs H Q _ => ∃ (ns : List Int) (p : Addr), vs = [.ref p] ∧ Only H ∧ SqL K H p (ns.map V.int) ∧ ns.length ≤ 63 ∧ ∀ H', Q (.bl true) H'
theorem ok_law (T : Txt K mg a) : FnG P w K mg base 9 a.f_law a.d_law P_law (sp_law K) := by
  refine fnG_of T.F_law sc_law (fun vs H Q E h => ?_) (fun cdv A outer s H vs Q E hfr hr h => ?_)
  · obtain ⟨ns, p, rfl, _⟩ := h
    rfl
  · obtain ⟨ns, p, rfl, hO, hp, hl, q⟩ := h
    have G__law_told := ok__law_told (P := P) (w := w) (base := base) T
    have B__law_told := bi__law_told T
    have G__law_next := ok__law_next (P := P) (w := w) (base := base) T
    have B__law_next := bi__law_next T
    have G__law_drawn_word := ok__law_drawn_word (P := P) (w := w) (base := base) T
    have B__law_drawn_word := bi__law_drawn_word T
    have G__law_writable := ok__law_writable (P := P) (w := w) (base := base) T
    have B__law_writable := bi__law_writable T
    have G__law_right := ok__law_right (P := P) (w := w) (base := base) T
    have B__law_right := bi__law_right T
    have G_shortest := ok_shortest (P := P) (w := w) (base := base) T
    have B_shortest := bi_shortest T
    have G__law_rules := ok__law_rules (P := P) (w := w) (base := base) T
    have B__law_rules := bi__law_rules T
    have G_Rules_init := ok_Rules_init (P := P) (w := w) (base := base) T
    have B_Rules_init := bi_Rules_init T
    obtain ⟨Ds_Rules_init0, D_Rules_init0, B_Rules_init0⟩ := bi_Rules_init0 T
    refine ⟨_,
(pss_cons (ps_for PassesOwn.never rfl (pi_range3 rfl T.b_range (pa_cons pe_int (pa_cons (pe_callB ((call_max2 rfl)) (by rfl) T.b_max (by decide +kernel) (pa_cons pe_int (pa_cons (pe_callB ((call_min2 rfl)) (by rfl) T.b_min (by decide +kernel) (pa_cons pe_int (pa_cons (pe_callB call_len_seq (by rfl) T.b_len PySem.boot_len (pa_cons (pv 0) pa_nil)) pa_nil))) pa_nil))) (pa_cons pe_int pa_nil)))) (pg_name (i := 1) sc_law.nd rfl (by first | exact Or.inl rfl | exact Or.inr rfl))
    (pss_cons (ps_set (i := 2) sc_law.nd rfl (by first | exact Or.inl rfl | exact Or.inr rfl) (pe_lst (pa_cons (pv 0) (pa_cons (pv 1) (pa_cons pe_int pa_nil)))))
    (pss_cons (ps_asg (pe_tup (pa_cons (pe_call G__law_told (hr.mono (by decide)) rfl T.f__law_told.g T.f__law_told.k B__law_told .nil pass0 (pa_cons (pv 2) pa_nil)) (pa_cons (pe_call G__law_told (hr.mono (by decide)) rfl T.f__law_told.g T.f__law_told.k B__law_told .nil pass0 (pa_cons (pv 2) pa_nil)) pa_nil))) (pg_tup rfl (pgs_cons (pg_name (i := 3) sc_law.nd rfl (by first | exact Or.inl rfl | exact Or.inr rfl)) (pgs_cons (pg_name (i := 4) sc_law.nd rfl (by first | exact Or.inl rfl | exact Or.inr rfl)) pgs_nil))))
    (pss_one (ps_for PassesOwn.never rfl (pi_tup (pe_tup (pa_cons pe_int (pa_cons pe_int (pa_cons pe_int pa_nil))))) (pg_name (i := 5) sc_law.nd rfl (by first | exact Or.inl rfl | exact Or.inr rfl))
    (pss_cons (ps_setLc (i := 6) (own := [("_law_k", 11)]) (g := gName 11) (tt := tYes) rfl sc_law.nd rfl rfl (sw_true rfl rfl rfl (by decide +kernel)) (pi_range1 rfl T.b_range (pa_cons (pe_call G__law_next (hr.mono (by decide)) rfl T.f__law_next.g T.f__law_next.k B__law_next .nil pass0 (pa_cons (pv 2) (pa_cons pe_int pa_nil))) pa_nil)) (blkOk_by (own := [("_law_k", 11)]) (N := N_law) (sc := defScope st_law) (by decide +kernel)) (fun _ _ _ _ _ => (pg_name (i := 11) sc_law.nd rfl (by first | exact Or.inl rfl | exact Or.inr rfl))) (fun _ _ _ _ _ => pts_nil) (fun _ _ _ _ _ => (pe_call G__law_drawn_word (hr.mono (by decide)) rfl T.f__law_drawn_word.g T.f__law_drawn_word.k B__law_drawn_word .nil pass0 (pa_cons (pv 2) (pa_cons (pv 3) (pa_cons (pv 5) pa_nil))))))
    (pss_cons (ps_setLc (i := 7) (own := [("_law_word_here", 12)]) (g := gName 12) rfl sc_law.nd rfl rfl (sw_true rfl rfl rfl (by decide +kernel)) (pi_list (pv 6)) (blkOk_by (own := [("_law_word_here", 12)]) (N := N_law) (sc := defScope st_law) (by decide +kernel)) (fun _ _ _ _ _ => (pg_name (i := 12) sc_law.nd rfl (by first | exact Or.inl rfl | exact Or.inr rfl))) (fun _ _ _ _ _ => (pts_one (pt_val (pe_call G__law_writable (hr.mono (by decide)) rfl T.f__law_writable.g T.f__law_writable.k B__law_writable .nil pass0 (pa_cons (pv 3) (pa_cons (pv 12) pa_nil)))))) (fun _ _ _ _ _ => (pv 12)))
    (pss_one (ps_for PassesOwn.never rfl (pi_tup (pe_tup (pa_cons (pv 6) (pa_cons (pv 7) pa_nil)))) (pg_name (i := 8) sc_law.nd rfl (by first | exact Or.inl rfl | exact Or.inr rfl))
    (pss_one (ps_if (pt_not (pt_val (pe_callG G__law_right hfr (hr.mono (by decide)) rfl T.f__law_right.g T.f__law_right.k B__law_right (pa_cons (pv 3) (pa_cons (pv 8) (pa_cons (pe_lst (pa_cons (pe_tup (pa_cons (pv 3) (pa_cons (pe_slice sl_list (pv 8) (po_some pe_int) po_none) pa_nil))) (pa_cons (pe_tup (pa_cons (pv 4) (pa_cons (pv 8) pa_nil))) (pa_cons (pe_tup (pa_cons (pv 3) (pa_cons (pe_revL (pv 8)) pa_nil))) pa_nil)))) pa_nil)))))) (pss_one (ps_ret pe_bl)) pss_nil)))))))))))
    (pss_cons (ps_set (i := 9) sc_law.nd rfl (by first | exact Or.inl rfl | exact Or.inr rfl) (pe_tup (pa_cons pe_str (pa_cons pe_str (pa_cons pe_str (pa_cons pe_str (pa_cons pe_str pa_nil)))))))
    (pss_cons (ps_if (PW.pt (pw_or (pt_not (pt_val (pe_callG G__law_right hfr (hr.mono (by decide)) rfl T.f__law_right.g T.f__law_right.k B__law_right (pa_cons (pv 9) (pa_cons (pe_op op_rep (pe_lst (pa_cons (pe_op op_mul_str pe_str pe_int) pa_nil)) pe_int) (pa_cons (pe_lst pa_nil) pa_nil)))))) (pw_or1 (pt_cmpR op_ne (pe_callB call_len_str (by rfl) T.b_len PySem.boot_len (pa_cons (pe_fld (pe_call G_shortest (hr.mono (by decide)) rfl T.f_shortest.g T.f_shortest.k B_shortest .nil pass0 (pa_cons (pe_call G__law_rules (hr.mono (by decide)) rfl T.f__law_rules.g T.f__law_rules.k B__law_rules .nil pass0 (pa_cons (pv 9) pa_nil)) (pa_cons (pe_op op_rep (pe_lst (pa_cons (pe_op op_mul_str pe_str pe_int) pa_nil)) pe_int) pa_nil))) rfl) pa_nil)) pe_int (nomark _))))) (pss_one (ps_ret pe_bl)) pss_nil)
    (pss_cons (ps_setLc (i := 10) (own := [("_law_words", 6)]) (g := gName 6) (tt := tYes) rfl sc_law.nd rfl rfl (sw_true rfl rfl rfl (by decide +kernel)) (pi_tup (pe_tup (pa_cons (pe_lst pa_nil) (pa_cons (pe_lst (pa_cons pe_str pa_nil)) (pa_cons (pe_lst (pa_cons pe_str (pa_cons pe_str pa_nil))) (pa_cons (pe_lst (pa_cons pe_str pa_nil)) (pa_cons (pe_lst (pa_cons pe_str pa_nil)) (pa_cons (pe_lst (pa_cons pe_str pa_nil)) (pa_cons (pe_lst (pa_cons pe_str pa_nil)) (pa_cons (pe_lst (pa_cons pe_str pa_nil)) pa_nil)))))))))) (blkOk_by (own := [("_law_words", 6)]) (N := N_law) (sc := defScope st_law) (by decide +kernel)) (fun _ _ _ _ _ => (pg_name (i := 6) sc_law.nd rfl (by first | exact Or.inl rfl | exact Or.inr rfl))) (fun _ _ _ _ _ => pts_nil) (fun _ _ _ _ _ => (pe_fldK (K := K) rfl (pe_call G_shortest (hr.mono (by decide)) rfl T.f_shortest.g T.f_shortest.k B_shortest .nil pass0 (pa_cons (pe_make0 T.c_Rules.mc G_Rules_init (hr.mono (by decide)) rfl T.c_Rules.g B_Rules_init0 D_Rules_init0 pass0) (pa_cons (pv 6) pa_nil))) rfl)))
    (pss_one (ps_ret (pe_cmpR (op_eqD hr.units) (pe_lc (own := [("_law_text_here", 13)]) (g := gName 13) (tt := tYes) rfl sc_law.nd (pi_list (pv 10)) (blkOk_by (own := [("_law_text_here", 13)]) (N := N_law) (sc := defScope st_law) (by decide +kernel)) (fun _ _ _ _ _ => (pg_name (i := 13) sc_law.nd rfl (by first | exact Or.inl rfl | exact Or.inr rfl))) (fun _ _ _ _ _ => pts_nil) (fun _ _ _ _ _ => (pe_callB call_len_str (by rfl) T.b_len PySem.boot_len (pa_cons (pv 13) pa_nil)))) (pe_lst (pa_cons pe_int (pa_cons pe_int (pa_cons pe_int (pa_cons pe_int (pa_cons pe_int (pa_cons pe_int (pa_cons pe_int (pa_cons pe_int pa_nil))))))))) (nomark _))))))))
      , ?_⟩
    rw [show start N_law [V.ref p] = [some (.ref p), none, none, none, none, none, none, none, none, none, none, none, none, none] from rfl]
    have scr : Scr K ns H p := by
      rcases hp with (h | ⟨o, h⟩) | h
      · rcases hO p with z | ⟨o, xs, z⟩ <;> rw [z] at h <;> cases h
      · exact .inl ⟨o, h⟩
      · exact .inr (.inr h)
    refine tseq_split (fun σ' H' => ∃ v1 v2 v3 v4 v5 v6 v7 v8, σ' = [some (.ref p), v1, v2, v3, v4, v5, v6, v7, v8, none, none, none, none, none]) (fun N hN => ?_) ?_
    · refine tfor_all (ι := Nat) (C := fun n => True) (J := fun n => Itc 0 15 n) (H1 := fun _ => H) (fun R hR => ?_) fun n _ => ?_
      · walk_at "rd"
        have smalls : ∀ k : Nat, k < 31 → Builtin.Range.small 0 (k : Int) 15 = true ∧ Builtin.Range.rangeSize 0 (k : Int) 15 = ((Builtin.Range.rangeSize 0 (k : Int) 15).toNat : Int) := by decide +kernel
        refine ⟨ns.map V.int, .inl hp, ?_⟩
        obtain ⟨k, hk, e⟩ : ∃ k : Nat, k < 31 ∧ (if (if ((ns.map V.int).length : Int) < 30 then ((ns.map V.int).length : Int) else 30) > 1 then (if ((ns.map V.int).length : Int) < 30 then ((ns.map V.int).length : Int) else 30) else 1) = (k : Int) := by
          by_cases h1 : ((ns.map V.int).length : Int) < 30
          · rw [if_pos h1]
            by_cases h2 : ((ns.map V.int).length : Int) > 1
            · rw [if_pos h2]; exact ⟨_, by omega, rfl⟩
            · rw [if_neg h2]; exact ⟨1, by decide, rfl⟩
          · rw [if_neg h1, if_pos (by decide)]; exact ⟨30, by decide, rfl⟩
        rw [e]
        exact ⟨(Builtin.Range.rangeSize 0 (k : Int) 15).toNat, ⟨by decide, by decide, (smalls k hk).1, (smalls k hk).2⟩, hR _ trivial⟩
      refine for_it (n := n) walk_rangeC (fun i σ H' => Scr K ns H' p ∧ ∃ v1 v2 v3 v4 v5 v6 v7 v8, σ = [some (.ref p), v1, v2, v3, v4, v5, v6, v7, v8, none, none, none, none, none]) ⟨scr, _, _, _, _, _, _, _, _, rfl⟩ (fun _ _ _ _ _ => trivial) ?_ ?_
      · rintro i x σ H1 H1' hi ⟨sc, v1, v2, v3, v4, v5, v6, v7, v8, rfl⟩ ⟨rfl, rfl⟩
        walk_at "gt"
        refine tseq_split (fun σ' H' => ∃ st, σ' = [some (.ref p), some (.int (0 + (i : Int) * 15)), some (.ref st), v3, v4, v5, v6, v7, v8, none, none, none, none, none] ∧ Same H1' H' ∧ H1' st = none ∧ H' st = some (.lst [.ref p, .int (0 + (i : Int) * 15), .int 0])) (fun N1 hN1 => ?_) ?_
        · walk_at "rd"
          walk_at "al"
          rename_i st hst0 H2 S2 e2
          exact hN1 _ _ ⟨st, rfl, S2, hst0, e2⟩
        rintro σ1 H2 ⟨st, rfl, S2, hst0, e2⟩
        have T2 : Stt K ns H2 st := ⟨p, 0 + (i : Int) * 15, 0, e2, sc.same S2, by omega, by decide⟩
        refine tseq_split (fun σ' H' => ∃ (r r' : RS) (tp tp' : Addr), σ' = [some (.ref p), some (.int (0 + (i : Int) * 15)), some (.ref st), some (.ref tp), some (.ref tp'), v5, v6, v7, v8, none, none, none, none, none] ∧ r.Ok ∧ r'.Ok ∧ Kp st H2 H' ∧ Stt K ns H' st ∧ H' tp = some (.tup r.tup) ∧ H' tp' = some (.tup r'.tup)) (fun N1 hN1 => ?_) ?_
        · walk_at "rd"
          refine ⟨ns, st, rfl, T2, fun r tp H3 ok _ tr T3 k3 => ⟨ns, st, rfl, T3, fun r' tp' H4 ok' _ tr' T4 k4 pq hpq => ?_⟩⟩
          have tr4 := k4.tk T3.has.choose_spec (fun _ z => by cases z) _ _ tr
          have sq := same_new (o := HO.tup [V.ref tp, V.ref tp']) hpq
          refine ⟨_, .inl (.inl upd_same), rfl, _, _, rfl, _, _, rfl, rfl, hN1 _ _ ⟨r, r', tp, tp', rfl, ok, ok', (k3.trans k4).trans (sq.kp st), T4.same sq, sq _ _ tr4, sq _ _ tr'⟩⟩
        rintro σ1 H3 ⟨r, r', tp, tp', rfl, ok, ok', k3, T3, tr3, tr3'⟩
        refine tfor_all (ι := Addr × Hp) (C := fun x => x.2 x.1 = some (.tup [.int 12, .int 5, .int 3]) ∧ Same H3 x.2) (J := fun x => Itt K x.1) (H1 := fun x => x.2) (fun R hR => ?_) fun x hx => ?_
        · walk_at "rd"
          walk_at "al"
          rename_i u1 hu1 F1 T1 d1
          exact ⟨⟨_, .inl (.inl d1)⟩, hR (u1, F1) ⟨d1, T1⟩⟩
        obtain ⟨pt, G0⟩ := x
        obtain ⟨x1, x2⟩ := hx
        dsimp only at x1 x2
        have xe : ([.int 12, .int 5, .int 3] : List V) = ([12, 5, 3] : List Nat).map fun n => V.int (n : Nat) := rfl
        have mst : ∀ n ∈ ([12, 5, 3] : List Nat), n ≤ 400 := by decide
        rw [xe] at x1
        generalize ([12, 5, 3] : List Nat) = ml0 at x1 mst
        refine for_it (n := (ml0.map fun n => V.int (n : Nat)).length) (G := fun H => SqT K H pt (ml0.map fun n => V.int (n : Nat))) walk_tup (fun j σ H' => C3 K ns st tp tp' pt r r' (ml0.map fun n => V.int (n : Nat)) H2 H' ∧ ∃ v5 v6 v7 v8, σ = [some (.ref p), some (.int (0 + (i : Int) * 15)), some (.ref st), some (.ref tp), some (.ref tp'), v5, v6, v7, v8, none, none, none, none, none])
          ⟨⟨k3.trans (x2.kp st), T3.same x2, x2 _ _ tr3, x2 _ _ tr3', x1⟩, _, _, _, _, rfl⟩ (fun _ _ _ _ h => .inl (.inl h.1.p)) ?_ ?_
        · rintro j x σ H5 H5' hj ⟨c5, v5, v6, v7, v8, rfl⟩ ⟨rfl, hx⟩
          rw [List.getElem?_map] at hx
          obtain ⟨m, hm, rfl⟩ := Option.map_eq_some_iff.mp hx
          have mle := mst m (List.mem_of_getElem? hm)
          walk_at "gt"
          refine tseq_split (fun σ' H' => ∃ (wl : Addr) (ws : List Tx), σ' = [some (.ref p), some (.int (0 + (i : Int) * 15)), some (.ref st), some (.ref tp), some (.ref tp'), some (.int (m : Nat)), some (.ref wl), v7, v8, none, none, none, none, none] ∧ C3 K ns st tp tp' pt r r' (ml0.map fun n => V.int (n : Nat)) H2 H' ∧ H' wl = some (.lst (ws.map fun w => V.str (S w))) ∧ FewW ws) (fun N1 hN1 => ?_) ?_
          · walk_at "rd"
            refine tlc_all (ι := Nat × Hp) (C := fun x => x.1 ≤ 8 ∧ C3 K ns st tp tp' pt r r' (ml0.map fun n => V.int (n : Nat)) H2 x.2) (J := fun x => Itr 0 x.1) (H1 := fun x => x.2) (fun R hR => ?_) fun x hx D hD => ?_
            · walk_at "rd"
              exact ⟨ns, st, 9, rfl, c5.T, by decide, fun z H' z0 z1 T' k' => ⟨z, rfl, by omega, by omega, hR (z.toNat, H') ⟨by dsimp only; omega, c5.kp k' T'⟩⟩⟩
            obtain ⟨n0, G0⟩ := x
            obtain ⟨n3, cG⟩ := hx
            dsimp only at n3 cG hD ⊢
            obtain ⟨sx, esx⟩ := cG.T.has
            have nDs : D ≠ st := fun z => by rw [z, esx] at hD; cases hD
            have hD2 : H2 D = none := by
              cases e : H2 D with
              | none => rfl
              | some o => rw [cG.k _ _ e nDs] at hD; cases hD
            refine lc_P (List.range n0) (fun i acc H' => ∃ ws : List Tx, acc = ws.map (fun w => V.str (S w)) ∧ C3 K ns st tp tp' pt r r' (ml0.map fun n => V.int (n : Nat)) H2 H' ∧ ws.length = i ∧ ∀ w ∈ ws, w.all sgn = true ∧ w.length ≤ 12) (G := fun _ => True) (Y := YFn fun i => .int (0 + i)) (by rw [List.length_range]; exact walk_range) (by rw [List.length_range]; omega) ⟨[], rfl, cG.same (same_new hD), rfl, fun _ z => (nomatch z)⟩ (fun _ _ _ _ _ => trivial) ?_ ?_
            · rintro R R' i' k x G G' acc hi' ⟨wsx, rfl, c, wl, wg⟩ hD1 ⟨rfl, rfl⟩ hk
              walk_at "rd"
              refine ⟨ns, st, tp, r, m, rfl, c.T, c.t, ok, mle, fun t G2 t1 t2 t3 T2 k2 => ?_⟩
              have hD3 := k2 _ _ hD1 nDs
              refine hk _ _ hD3 ⟨wsx ++ [t], by rw [List.map_append]; rfl, (c.kp k2 T2).mut hD2 nDs hD3, by rw [List.length_append, wl]; rfl, fun w hw => ?_⟩
              rcases List.mem_append.mp hw with hw | hw
              · exact wg w hw
              · rw [List.mem_singleton.mp hw]; exact ⟨t3, t2⟩
            · rintro G ys ⟨wsx, rfl, c, wl, wg⟩ hD1
              exact hN1 _ _ ⟨D, wsx, rfl, c, hD1, by rw [wl, List.length_range]; exact n3, wg⟩
          rintro σ1 H6 ⟨wl, ws, rfl, c6, we6, fw⟩
          have hlen : (ws.map fun w => V.str (S w)).length = ws.length := List.length_map _
          have wn := fw.1
          refine tseq_split (fun σ' H' => ∃ (gl : Addr) (gs : List Tx), σ' = [some (.ref p), some (.int (0 + (i : Int) * 15)), some (.ref st), some (.ref tp), some (.ref tp'), some (.int (m : Nat)), some (.ref wl), some (.ref gl), v8, none, none, none, none, none] ∧ Same H6 H' ∧ H' gl = some (.lst (gs.map fun w => V.str (S w))) ∧ FewW gs) (fun N1 hN1 => ?_) ?_
          · walk_at "rd"
            refine tlc_all (ι := Unit) (C := fun _ => True) (J := fun _ => Itl K wl) (H1 := fun _ => H6) (fun R hR => ?_) fun _ _ D hD => ?_
            · walk_at "rd"
              exact ⟨⟨_, .inl (.inl we6)⟩, hR () trivial⟩
            refine lc_filt ws (fun w => !cannotT r w) (fun w => .str (S w)) (G := fun H => SqL K H wl (ws.map fun w => .str (S w))) (hlen ▸ walk_list) (by omega) hD (fun H s => .inl (.inl (s _ _ we6))) ?_ ?_
            · rintro R R' i' u x G G' hi' g ⟨rfl, hx⟩ hk1 hk2
              rw [List.getElem?_map, hi'] at hx
              cases hx
              obtain ⟨g1, g2⟩ := fw.2 u (List.mem_of_getElem? hi')
              walk_at "rdh"
              refine ⟨tp, r, u, rfl, g _ _ c6.t, ok, by omega, fun H4 s4 => ⟨_, rfl, ?_⟩⟩
              cases hc : cannotT r u with
              | true => exact ite2 (fun z => by cases z) (fun _ => hk2 _ s4 (by rw [hc]; rfl))
              | false => exact ite2 (fun _ => hk1 _ s4 (by rw [hc]; rfl)) (fun z => absurd rfl z)
            · intro G g e
              exact hN1 _ _ ⟨D, ws.filter fun w => !cannotT r w, rfl, g, e, Nat.le_trans (List.length_filter_le _ _) wn, fun w hw => fw.2 w (List.mem_filter.mp hw).1⟩
          rintro σ1 H7 ⟨gl, gs, rfl, s7, ge7, fg⟩
          have c7 := c6.same s7
          have we7 := s7 _ _ we6
          refine tfor_all (ι := Addr × Hp) (C := fun x => x.2 x.1 = some (.tup [.ref wl, .ref gl]) ∧ Same H7 x.2) (J := fun x => Itt K x.1) (H1 := fun x => x.2) (fun R hR => ?_) fun x hx => ?_
          · walk_at "rd"
            walk_at "al"
            rename_i u1 hu1 F1 T1 d1
            exact ⟨⟨_, .inl (.inl d1)⟩, hR (u1, F1) ⟨d1, T1⟩⟩
          obtain ⟨pr, G0⟩ := x
          obtain ⟨x1, x2⟩ := hx
          dsimp only at x1 x2
          refine for_it (n := ([.ref wl, .ref gl] : List V).length) (G := fun H => SqT K H pr [.ref wl, .ref gl]) walk_tup (fun j σ H' => (∃ v8, σ = [some (.ref p), some (.int (0 + (i : Int) * 15)), some (.ref st), some (.ref tp), some (.ref tp'), some (.int (m : Nat)), some (.ref wl), some (.ref gl), v8, none, none, none, none, none]) ∧ Same G0 H')
            ⟨⟨_, rfl⟩, Same.refl _⟩ (fun _ _ _ _ h => .inl (.inl (h.2 _ _ x1))) ?_ ?_
          · rintro j' x σ G G' hj' ⟨⟨v8, rfl⟩, g⟩ ⟨rfl, hx⟩
            have S7 := x2.trans g
            obtain ⟨rl, rs, rfl, er, fr⟩ : ∃ (rl : Addr) (rs : List Tx), x = .ref rl ∧ G' rl = some (.lst (rs.map fun w => V.str (S w))) ∧ FewW rs := by
              match j', hx with
              | 0, hx => cases hx; exact ⟨wl, ws, rfl, S7 _ _ we7, fw⟩
              | 1, hx => cases hx; exact ⟨gl, gs, rfl, S7 _ _ ge7, fg⟩
              | n + 2, hx => simp at hx
            have cG := c7.same S7
            walk_at "rd"
            have c1 : cutV (rs.map fun w => V.str (S w)) (some 1) none = (rs.drop 1).map fun w => V.str (S w) := by
              rw [List.map_drop]
              exact cut_from _ 1
            refine ⟨_, .inl (.inl er), ?_⟩
            rw [c1]
            walk_at "al"
            rename_i p1 hp1 F1 Sa1 ea1
            walk_at "al"
            rename_i p2 hp2 F2 Sa2 ea2
            walk_at "al"
            rename_i p3 hp3 F3 Sa3 ea3
            have g3 := Sa1.trans (Sa2.trans Sa3)
            refine ⟨_, .inl (.inl (g3 _ _ er)), ?_⟩
            rw [← List.map_reverse]
            walk_at "al"
            rename_i p4 hp4 F4 Sa4 ea4
            walk_at "al"
            rename_i p5 hp5 F5 Sa5 ea5
            walk_at "al"
            rename_i p6 hp6 F6 Sa6 ea6
            have z5 := Sa6
            have z4 := Sa5.trans z5
            have z3 := Sa4.trans z4
            have z2 := Sa3.trans z3
            have z1 := Sa2.trans z2
            have z0 := Sa1.trans z1
            have few : ∀ {us : List Tx}, us.length ≤ rs.length → (∀ u ∈ us, u ∈ rs) → FewW us := fun h1 h2 => ⟨Nat.le_trans h1 fr.1, fun u hu => fr.2 u (h2 u hu)⟩
            refine ⟨tp, r, rl, rs, p6, _, [(r, rs.drop 1), (r', rs), (r, rs.reverse)], rfl, z0 _ _ cG.t, ok, z0 _ _ er, fr, ea6,
              .cons ⟨p2, tp, p1, rfl, z2 _ _ ea2, z0 _ _ cG.t, z1 _ _ ea1⟩ (.cons ⟨p3, tp', rl, rfl, z3 _ _ ea3, z0 _ _ cG.t', z0 _ _ er⟩ (.cons ⟨p5, tp, p4, rfl, z5 _ _ ea5, z0 _ _ cG.t, z4 _ _ ea4⟩ .nil)), fun d hd => ?_, by show 3 ≤ 3; decide, fun G9 s9 => ⟨true, rfl, ite2 (fun z => by cases z) (fun _ => ⟨⟨_, rfl⟩, g.trans (z0.trans s9)⟩)⟩⟩
            rcases List.mem_cons.mp hd with z | hd
            · subst z; exact ⟨ok, few (by rw [List.length_drop]; omega) fun u hu => List.mem_of_mem_drop hu⟩
            rcases List.mem_cons.mp hd with z | hd
            · subst z; exact ⟨ok', fr⟩
            · rw [List.mem_singleton.mp hd]; exact ⟨ok, few (by rw [List.length_reverse]; exact Nat.le_refl _) fun u hu => List.mem_reverse.mp hu⟩
          · rintro σ G ⟨⟨v8, rfl⟩, g⟩
            exact ⟨c7.same (x2.trans g), _, _, _, _, rfl⟩
        · rintro σ H5 ⟨c5, v5, v6, v7, v8, rfl⟩
          exact ⟨(sc.same S2).kp c5.k e2 (fun _ _ z => by cases z), _, _, _, _, _, _, _, _, rfl⟩
      · rintro σ H4 ⟨_, v1, v2, v3, v4, v5, v6, v7, v8, rfl⟩
        exact hN _ _ ⟨_, _, _, _, _, _, _, _, rfl⟩
    rintro σ1 H1 ⟨v1, v2, v3, v4, v5, v6, v7, v8, rfl⟩
    clear hp hO
    refine tseq_split (fun σ' H' => ∃ wt, σ' = [some (.ref p), v1, v2, v3, v4, v5, v6, v7, v8, some (.ref wt), none, none, none, none] ∧ H' wt = some (.tup wideR.tup)) (fun N1 hN1 => ?_) ?_
    · walk_at "rd"
      simp only [eQ1, eQ2]
      walk_at "al"
      rename_i wt hwt H2 S2 e2
      exact hN1 _ _ ⟨wt, rfl, e2⟩
    rintro σ1 H2 ⟨wt, rfl, wte⟩
    refine tseq_split (fun σ' H' => ∃ H'', σ' = [some (.ref p), v1, v2, v3, v4, v5, v6, v7, v8, some (.ref wt), none, none, none, none] ∧ H' = H'') (fun N1 hN1 => ?_) ?_
    · walk_at "rd"
      have cS := T.c_Shortest.cl
      have nT := T.n_Shortest_text
      have six : (1 : Nat) * Int.toNat 8 ≤ sizeLine := by show 8 ≤ sizeLine; decide
      have ew : ∀ {H : Hp} {p : Addr}, upd H p (HO.lst (List.replicate (Int.toNat 8) [V.str (S (List.replicate 6 [39, 34]).flatten)]).flatten) p = some (.lst (wideW.map fun w => V.str (S w))) := fun {H p} => upd_same
      refine ⟨[39, 34], eP6, 6, rfl, by decide, by decide, fun p1 hp1 => ⟨by decide, by decide, six, fun p2 hp2 p3 hp3 => ?_⟩⟩
      have g3 := ((same_new (o := HO.lst [V.str (S (List.replicate 6 [39, 34]).flatten)]) hp1).trans (same_new (o := HO.lst (List.replicate (Int.toNat 8) [V.str (S (List.replicate 6 [39, 34]).flatten)]).flatten) hp2)).trans (same_new (o := HO.lst []) hp3)
      refine ⟨wt, wideR, p2, wideW, p3, [], [], rfl, g3 _ _ wte, wide_ok, same_new hp3 _ _ ew, ⟨by decide, fun w hw => ⟨(wide_can w hw).1, (wide_can w hw).2.1⟩⟩, upd_same, .nil, fun _ z => (nomatch z), by decide, fun G g => ⟨true, rfl, ite2 (fun z => by cases z) (fun _ => ?_)⟩⟩
      have wG := g _ _ (g3 _ _ wte)
      refine ⟨wt, wideR, rfl, wG, wide_ok, fun rp dx G1 _ er g1 => ⟨[39, 34], eP6, 6, rfl, by decide, by decide, fun p4 hp4 => ⟨by decide, by decide, six, fun p5 hp5 => ?_⟩⟩⟩
      have g5 := (same_new (o := HO.lst [V.str (S (List.replicate 6 [39, 34]).flatten)]) hp4).trans (same_new (o := HO.lst (List.replicate (Int.toNat 8) [V.str (S (List.replicate 6 [39, 34]).flatten)]).flatten) hp5)
      refine ⟨rp, dx, wideR, p5, wideW, rfl, g5 _ _ er, wide_ok, ew, by decide, wide_can, fun ts q' G2 dx' l' xs' h1 _ _ g2 h5 h6 h7 => ?_⟩
      have ln : (joinT (wideR.breaks.headD 0) ts).length = 295 := (wr_len0 _ h1).trans wide_len
      refine ⟨q', rfl, _, _, _, h5, cS, nT, _, lk_ShoT _ _, S (joinT (wideR.breaks.headD 0) ts), rfl, line_le (by rw [S_len, ln]; decide), ite2 (fun z => absurd (by rw [S_len, ln]; rfl) z) (fun _ => hN1 _ _ ⟨_, rfl, rfl⟩)⟩
    rintro σ1 H3 ⟨_, rfl, rfl⟩
    walk_at "rd"
    have cS := T.c_Shortest.cl
    have nT := T.n_Shortest_text
    refine tlc_all (ι := Addr × Hp × List V) (C := fun x => x.2.1 x.1 = some (.tup x.2.2) ∧ Paired (WlV x.2.1) x.2.2 wssT) (J := fun x => Itt K x.1) (H1 := fun x => x.2.1) (fun R hR => ?_) fun x hx D hD => ?_
    · walk_at "rd"
      simp only [eSp, eQ1, eNt, eA, eB, eAB, eTw, eAb]
      walk_at "al"
      rename_i p1 hp1 F1 Sa1 ea1
      walk_at "al"
      rename_i p2 hp2 F2 Sa2 ea2
      walk_at "al"
      rename_i p3 hp3 F3 Sa3 ea3
      walk_at "al"
      rename_i p4 hp4 F4 Sa4 ea4
      walk_at "al"
      rename_i p5 hp5 F5 Sa5 ea5
      walk_at "al"
      rename_i p6 hp6 F6 Sa6 ea6
      walk_at "al"
      rename_i p7 hp7 F7 Sa7 ea7
      walk_at "al"
      rename_i p8 hp8 F8 Sa8 ea8
      walk_at "al"
      rename_i p9 hp9 F9 Sa9 ea9
      have z8 := Sa9
      have z7 := Sa8.trans z8
      have z6 := Sa7.trans z7
      have z5 := Sa6.trans z6
      have z4 := Sa5.trans z5
      have z3 := Sa4.trans z4
      have z2 := Sa3.trans z3
      have z1 := Sa2.trans z2
      exact ⟨⟨_, .inl (.inl ea9)⟩, hR (p9, F9, _) ⟨ea9, .cons ⟨p1, rfl, z1 _ _ ea1⟩ (.cons ⟨p2, rfl, z2 _ _ ea2⟩ (.cons ⟨p3, rfl, z3 _ _ ea3⟩ (.cons ⟨p4, rfl, z4 _ _ ea4⟩ (.cons ⟨p5, rfl, z5 _ _ ea5⟩ (.cons ⟨p6, rfl, z6 _ _ ea6⟩ (.cons ⟨p7, rfl, z7 _ _ ea7⟩ (.cons ⟨p8, rfl, z8 _ _ ea8⟩ .nil)))))))⟩⟩
    obtain ⟨pt, G0, xs⟩ := x
    obtain ⟨x1, x2⟩ := hx
    dsimp only at x1 x2 hD
    have lx := x2.length
    refine lc_rel wssT (fun _ v ws => ∃ t : Tx, v = .str (S t) ∧ t.length = lenU usual ws) (fun _ _ z => z) (G := fun H => SqT K H pt xs) (lx ▸ walk_tup) (by decide) hD (fun H s => .inl (.inl (s _ _ x1))) ?_ ?_
    · rintro R R' j ws x G G' hj g ⟨rfl, hx⟩ hk
      obtain ⟨l, rfl, el⟩ := Paired.at' x2 hj hx
      obtain ⟨c1, c2⟩ := wss_can ws (List.mem_of_getElem? hj)
      walk_at "rd"
      simp only [eSp, eQ1, eQ2, eBd, eNt]
      intro y dy hy hdy ney
      have sr : Same G' (upd (upd G' dy (HO.own y)) y (HO.ins a.c_Rules dy [])) := (same_new hdy).trans (same_new (by rw [upd_ne (Ne.symm ney)]; exact hy))
      refine ⟨y, dy, usual, rfl, usual_ok, upd_same, fun G1 r1 r2 => ⟨rfl, ?_⟩⟩
      have s1 : Same G' G1 := fun b o e => r2 b o (sr _ _ e) (ne_of_none e hy)
      refine ⟨y, dy, usual, l, ws, rfl, r1, usual_ok, s1 _ _ (g _ _ el), c1, c2, fun ts q' G2 dx' l' xs' h1 _ _ g2 h5 h6 h7 => ?_⟩
      exact ⟨q', rfl, _, _, _, h5, cS, nT, _, lk_ShoT _ _, hk _ _ (s1.trans g2) ⟨_, rfl, wr_len0 _ h1⟩⟩
    · intro G ys g eD prs
      have ly := prs.length
      refine tlc_map wssT (fun ws => .int (lenU usual ws : Nat)) (J := Itl K D) (H1 := G) (G := fun H => SqL K H D ys) (fun R hR => ?_) (ly ▸ walk_list) (by decide) (fun H s => .inl (.inl (s _ _ eD))) ?_ ?_
      · walk_at "rd"
        exact ⟨⟨_, .inl (.inl eD)⟩, hR⟩
      · rintro R R' j ws x G1 G1' hj g1 ⟨rfl, hx⟩ hk
        obtain ⟨t, rfl, et⟩ := Paired.at' prs hj hx
        walk_at "rd"
        have lt : lenU usual ws ≤ 10 := by
          have : ∀ ws ∈ wssT, lenU usual ws ≤ 10 := by decide +kernel
          exact this ws (List.mem_of_getElem? hj)
        rw [et]
        exact ⟨line_le (by omega), hk _ (Same.refl _)⟩
      · intro D2 G1 hD2 g1 e1
        intro p9 hp9
        have e2 : (wssT.map fun ws => V.int (lenU usual ws : Nat)) = ([0, 2, 3, 4, 4, 2, 2, 4] : List Nat).map fun n => V.int (n : Nat) := by
          rw [← wss_len, List.map_map]
          rfl
        rw [e2] at e1
        have tm : tame (isD [0, 2, 3, 4, 4, 2, 2, 4]) = true := isD_tame (by decide)
        refine ⟨isD [0, 2, 3, 4, 4, 2, 2, 4], dp_is (same_new hp9 _ _ e1), isD [0, 2, 3, 4, 4, 2, 2, 4], dp_is upd_same, shaped_of tm (isD_depth _), shaped_of tm (isD_depth _), ?_⟩
        rw [(eqv_iff _ _ tm tm).mpr rfl]
        exact q _
end
end Qw

set_option Elab.async false
set_option linter.all false
set_option maxRecDepth 100000
set_option maxHeartbeats 4000000
namespace Qw
open PySem L2
theorem kit_own {K : PySem.W.Frag} {C D : Addr} {b : Bool} (ne : (C : Nat) ≠ D) (hd : PySem.W.hasDictIn K D = true) (ht : PySem.W.typeIn K (.ref D) = some (.type "type")) (h : PySem.W.mroIn K C (.ref D) = some b) : PySem.W.kitOne K (.ref C) (.ref D) = some b := by
  obtain ⟨cd, hc, _⟩ := PySem.W.any_some hd
  have e2 : ((PySem.W.clsIn K D).isSome && PySem.W.typeIn K (.ref D) == some (.type "type")) = true := by
    rw [hc, ht]
    rfl
  show (if (Value.ref C == Value.ref D) = true then some true else if ((PySem.W.clsIn K D).isSome && PySem.W.typeIn K (.ref D) == some (.type "type")) = true then PySem.W.mroIn K C (.ref D) else none) = some b
  rw [if_neg (fun z => ne (Value.ref.inj (beq_iff_eq.mp z))), if_pos e2]
  exact h
theorem all_mk {P : Program} {w : World} {K : PySem.W.Frag} {h : Heap} {mg : Str → Option Value} {fa : Addr} (X : K.In h) (G : h.Ns mainGlobals mg) (hfa : mg "law" = some (.ref fa))
    {C_QuoteError C_NoWriting C_Rules C_Machine C_Answer C_Words C_Fault C_Shortest f_NoWriting_init f_are_signs f_Rules_init T_Rules_init f_Rules_told f_Rules_quotes f_Rules_special f_Machine_init f_Machine_begin f_Machine_ended f_Machine_plain f_Machine_quoted f_Machine_step f_Machine_fault f_read_all f_states_of f_cost_of f_entered f_cannot f_heights_of f_written_by f_Words_init f_Words_shows f_Fault_init f_Fault_shows f_row_right f_Shortest_init f_Shortest_shaped f_Shortest_shows f_one_written f_shortest f_split f__law_cell_at f__law_draw f__law_number f__law_next f__law_told f__law_text f__law_rules f__law_quoted f__law_word f__law_read f__law_states f__law_costs f__law_writable f__law_least f__law_rows_right f__law_due f__law_drawn_word f__law_refused f__law_right f_law a_MOST : Addr}
    {kV_NoWriting_init dc_NoWriting_init pm_NoWriting_init cd_NoWriting_init ct_NoWriting_init oc_NoWriting_init : Value}
    {od_NoWriting_init an_NoWriting_init : Option Addr}
    {sl_NoWriting_init : Array (Option Value)}
    {kV_are_signs dc_are_signs pm_are_signs cd_are_signs ct_are_signs oc_are_signs : Value}
    {od_are_signs an_are_signs : Option Addr}
    {sl_are_signs : Array (Option Value)}
    {kV_Rules_init dc_Rules_init pm_Rules_init cd_Rules_init ct_Rules_init oc_Rules_init : Value}
    {od_Rules_init an_Rules_init : Option Addr}
    {sl_Rules_init : Array (Option Value)}
    {odT_Rules_init : Option Addr}
    {slT_Rules_init : Array (Option Value)}
    {nT_Rules_init : Nat}
    {t0_Rules_init t1_Rules_init t2_Rules_init t3_Rules_init t4_Rules_init : Tok}
    {kV_Rules_told dc_Rules_told pm_Rules_told cd_Rules_told ct_Rules_told oc_Rules_told : Value}
    {od_Rules_told an_Rules_told : Option Addr}
    {sl_Rules_told : Array (Option Value)}
    {kV_Rules_quotes dc_Rules_quotes pm_Rules_quotes cd_Rules_quotes ct_Rules_quotes oc_Rules_quotes : Value}
    {od_Rules_quotes an_Rules_quotes : Option Addr}
    {sl_Rules_quotes : Array (Option Value)}
    {kV_Rules_special dc_Rules_special pm_Rules_special cd_Rules_special ct_Rules_special oc_Rules_special : Value}
    {od_Rules_special an_Rules_special : Option Addr}
    {sl_Rules_special : Array (Option Value)}
    {kV_Machine_init dc_Machine_init pm_Machine_init cd_Machine_init ct_Machine_init oc_Machine_init : Value}
    {od_Machine_init an_Machine_init : Option Addr}
    {sl_Machine_init : Array (Option Value)}
    {kV_Machine_begin dc_Machine_begin pm_Machine_begin cd_Machine_begin ct_Machine_begin oc_Machine_begin : Value}
    {od_Machine_begin an_Machine_begin : Option Addr}
    {sl_Machine_begin : Array (Option Value)}
    {kV_Machine_ended dc_Machine_ended pm_Machine_ended cd_Machine_ended ct_Machine_ended oc_Machine_ended : Value}
    {od_Machine_ended an_Machine_ended : Option Addr}
    {sl_Machine_ended : Array (Option Value)}
    {kV_Machine_plain dc_Machine_plain pm_Machine_plain cd_Machine_plain ct_Machine_plain oc_Machine_plain : Value}
    {od_Machine_plain an_Machine_plain : Option Addr}
    {sl_Machine_plain : Array (Option Value)}
    {kV_Machine_quoted dc_Machine_quoted pm_Machine_quoted cd_Machine_quoted ct_Machine_quoted oc_Machine_quoted : Value}
    {od_Machine_quoted an_Machine_quoted : Option Addr}
    {sl_Machine_quoted : Array (Option Value)}
    {kV_Machine_step dc_Machine_step pm_Machine_step cd_Machine_step ct_Machine_step oc_Machine_step : Value}
    {od_Machine_step an_Machine_step : Option Addr}
    {sl_Machine_step : Array (Option Value)}
    {kV_Machine_fault dc_Machine_fault pm_Machine_fault cd_Machine_fault ct_Machine_fault oc_Machine_fault : Value}
    {od_Machine_fault an_Machine_fault : Option Addr}
    {sl_Machine_fault : Array (Option Value)}
    {kV_read_all dc_read_all pm_read_all cd_read_all ct_read_all oc_read_all : Value}
    {od_read_all an_read_all : Option Addr}
    {sl_read_all : Array (Option Value)}
    {kV_states_of dc_states_of pm_states_of cd_states_of ct_states_of oc_states_of : Value}
    {od_states_of an_states_of : Option Addr}
    {sl_states_of : Array (Option Value)}
    {kV_cost_of dc_cost_of pm_cost_of cd_cost_of ct_cost_of oc_cost_of : Value}
    {od_cost_of an_cost_of : Option Addr}
    {sl_cost_of : Array (Option Value)}
    {kV_entered dc_entered pm_entered cd_entered ct_entered oc_entered : Value}
    {od_entered an_entered : Option Addr}
    {sl_entered : Array (Option Value)}
    {kV_cannot dc_cannot pm_cannot cd_cannot ct_cannot oc_cannot : Value}
    {od_cannot an_cannot : Option Addr}
    {sl_cannot : Array (Option Value)}
    {kV_heights_of dc_heights_of pm_heights_of cd_heights_of ct_heights_of oc_heights_of : Value}
    {od_heights_of an_heights_of : Option Addr}
    {sl_heights_of : Array (Option Value)}
    {kV_written_by dc_written_by pm_written_by cd_written_by ct_written_by oc_written_by : Value}
    {od_written_by an_written_by : Option Addr}
    {sl_written_by : Array (Option Value)}
    {kV_Words_init dc_Words_init pm_Words_init cd_Words_init ct_Words_init oc_Words_init : Value}
    {od_Words_init an_Words_init : Option Addr}
    {sl_Words_init : Array (Option Value)}
    {kV_Words_shows dc_Words_shows pm_Words_shows cd_Words_shows ct_Words_shows oc_Words_shows : Value}
    {od_Words_shows an_Words_shows : Option Addr}
    {sl_Words_shows : Array (Option Value)}
    {kV_Fault_init dc_Fault_init pm_Fault_init cd_Fault_init ct_Fault_init oc_Fault_init : Value}
    {od_Fault_init an_Fault_init : Option Addr}
    {sl_Fault_init : Array (Option Value)}
    {kV_Fault_shows dc_Fault_shows pm_Fault_shows cd_Fault_shows ct_Fault_shows oc_Fault_shows : Value}
    {od_Fault_shows an_Fault_shows : Option Addr}
    {sl_Fault_shows : Array (Option Value)}
    {kV_row_right dc_row_right pm_row_right cd_row_right ct_row_right oc_row_right : Value}
    {od_row_right an_row_right : Option Addr}
    {sl_row_right : Array (Option Value)}
    {kV_Shortest_init dc_Shortest_init pm_Shortest_init cd_Shortest_init ct_Shortest_init oc_Shortest_init : Value}
    {od_Shortest_init an_Shortest_init : Option Addr}
    {sl_Shortest_init : Array (Option Value)}
    {kV_Shortest_shaped dc_Shortest_shaped pm_Shortest_shaped cd_Shortest_shaped ct_Shortest_shaped oc_Shortest_shaped : Value}
    {od_Shortest_shaped an_Shortest_shaped : Option Addr}
    {sl_Shortest_shaped : Array (Option Value)}
    {kV_Shortest_shows dc_Shortest_shows pm_Shortest_shows cd_Shortest_shows ct_Shortest_shows oc_Shortest_shows : Value}
    {od_Shortest_shows an_Shortest_shows : Option Addr}
    {sl_Shortest_shows : Array (Option Value)}
    {kV_one_written dc_one_written pm_one_written cd_one_written ct_one_written oc_one_written : Value}
    {od_one_written an_one_written : Option Addr}
    {sl_one_written : Array (Option Value)}
    {kV_shortest dc_shortest pm_shortest cd_shortest ct_shortest oc_shortest : Value}
    {od_shortest an_shortest : Option Addr}
    {sl_shortest : Array (Option Value)}
    {kV_split dc_split pm_split cd_split ct_split oc_split : Value}
    {od_split an_split : Option Addr}
    {sl_split : Array (Option Value)}
    {kV__law_cell_at dc__law_cell_at pm__law_cell_at cd__law_cell_at ct__law_cell_at oc__law_cell_at : Value}
    {od__law_cell_at an__law_cell_at : Option Addr}
    {sl__law_cell_at : Array (Option Value)}
    {kV__law_draw dc__law_draw pm__law_draw cd__law_draw ct__law_draw oc__law_draw : Value}
    {od__law_draw an__law_draw : Option Addr}
    {sl__law_draw : Array (Option Value)}
    {kV__law_number dc__law_number pm__law_number cd__law_number ct__law_number oc__law_number : Value}
    {od__law_number an__law_number : Option Addr}
    {sl__law_number : Array (Option Value)}
    {kV__law_next dc__law_next pm__law_next cd__law_next ct__law_next oc__law_next : Value}
    {od__law_next an__law_next : Option Addr}
    {sl__law_next : Array (Option Value)}
    {kV__law_told dc__law_told pm__law_told cd__law_told ct__law_told oc__law_told : Value}
    {od__law_told an__law_told : Option Addr}
    {sl__law_told : Array (Option Value)}
    {kV__law_text dc__law_text pm__law_text cd__law_text ct__law_text oc__law_text : Value}
    {od__law_text an__law_text : Option Addr}
    {sl__law_text : Array (Option Value)}
    {kV__law_rules dc__law_rules pm__law_rules cd__law_rules ct__law_rules oc__law_rules : Value}
    {od__law_rules an__law_rules : Option Addr}
    {sl__law_rules : Array (Option Value)}
    {kV__law_quoted dc__law_quoted pm__law_quoted cd__law_quoted ct__law_quoted oc__law_quoted : Value}
    {od__law_quoted an__law_quoted : Option Addr}
    {sl__law_quoted : Array (Option Value)}
    {kV__law_word dc__law_word pm__law_word cd__law_word ct__law_word oc__law_word : Value}
    {od__law_word an__law_word : Option Addr}
    {sl__law_word : Array (Option Value)}
    {kV__law_read dc__law_read pm__law_read cd__law_read ct__law_read oc__law_read : Value}
    {od__law_read an__law_read : Option Addr}
    {sl__law_read : Array (Option Value)}
    {kV__law_states dc__law_states pm__law_states cd__law_states ct__law_states oc__law_states : Value}
    {od__law_states an__law_states : Option Addr}
    {sl__law_states : Array (Option Value)}
    {kV__law_costs dc__law_costs pm__law_costs cd__law_costs ct__law_costs oc__law_costs : Value}
    {od__law_costs an__law_costs : Option Addr}
    {sl__law_costs : Array (Option Value)}
    {kV__law_writable dc__law_writable pm__law_writable cd__law_writable ct__law_writable oc__law_writable : Value}
    {od__law_writable an__law_writable : Option Addr}
    {sl__law_writable : Array (Option Value)}
    {kV__law_least dc__law_least pm__law_least cd__law_least ct__law_least oc__law_least : Value}
    {od__law_least an__law_least : Option Addr}
    {sl__law_least : Array (Option Value)}
    {kV__law_rows_right dc__law_rows_right pm__law_rows_right cd__law_rows_right ct__law_rows_right oc__law_rows_right : Value}
    {od__law_rows_right an__law_rows_right : Option Addr}
    {sl__law_rows_right : Array (Option Value)}
    {kV__law_due dc__law_due pm__law_due cd__law_due ct__law_due oc__law_due : Value}
    {od__law_due an__law_due : Option Addr}
    {sl__law_due : Array (Option Value)}
    {kV__law_drawn_word dc__law_drawn_word pm__law_drawn_word cd__law_drawn_word ct__law_drawn_word oc__law_drawn_word : Value}
    {od__law_drawn_word an__law_drawn_word : Option Addr}
    {sl__law_drawn_word : Array (Option Value)}
    {kV__law_refused dc__law_refused pm__law_refused cd__law_refused ct__law_refused oc__law_refused : Value}
    {od__law_refused an__law_refused : Option Addr}
    {sl__law_refused : Array (Option Value)}
    {kV__law_right dc__law_right pm__law_right cd__law_right ct__law_right oc__law_right : Value}
    {od__law_right an__law_right : Option Addr}
    {sl__law_right : Array (Option Value)}
    {kV_law dc_law pm_law cd_law ct_law oc_law : Value}
    {od_law an_law : Option Addr}
    {sl_law : Array (Option Value)}
    {t_LINE_END : Tok}
    {t0_MOST t1_MOST t2_MOST t3_MOST t4_MOST : Tok}
    {od_MOST : Option Addr}
    {sl_MOST : Array (Option Value)}
    {n_MOST : Nat}
    {t_PLAIN : Tok}
    {t_NOTED : Tok}
    {t_LOOSE : Tok}
    {t_MOST_WORDS : Tok}
    {t_LONGEST_WORD : Tok}
    {t_FAR : Tok}
    {t_LONGEST : Tok}
    {nmE qE : Str}
    {NE : Addr}
    {bsE subE : List Value}
    {snE : List Str}
    {abE : Bool}
    {colE : Option Bool}
    {ddE : Option Addr}
    {m0E m1E m2E m3E m5E : Option Value}
    (aC_QuoteError : PySem.W.nsIn K mainGlobals "QuoteError" = some (some (.ref C_QuoteError)))
    (aC_NoWriting : PySem.W.nsIn K mainGlobals "NoWriting" = some (some (.ref C_NoWriting)))
    (aC_Rules : PySem.W.nsIn K mainGlobals "Rules" = some (some (.ref C_Rules)))
    (aC_Machine : PySem.W.nsIn K mainGlobals "Machine" = some (some (.ref C_Machine)))
    (aC_Answer : PySem.W.nsIn K mainGlobals "Answer" = some (some (.ref C_Answer)))
    (aC_Words : PySem.W.nsIn K mainGlobals "Words" = some (some (.ref C_Words)))
    (aC_Fault : PySem.W.nsIn K mainGlobals "Fault" = some (some (.ref C_Fault)))
    (aC_Shortest : PySem.W.nsIn K mainGlobals "Shortest" = some (some (.ref C_Shortest)))
    (a_NoWriting_init : PySem.W.findIn K (.ref C_NoWriting) "__init__" = some (some (.ref f_NoWriting_init)))
    (i_NoWriting_init : PySem.W.isFn K (.ref f_NoWriting_init) = true)
    (l_NoWriting_init : K.lookup f_NoWriting_init = some ⟨oc_NoWriting_init, od_NoWriting_init, .func (PySem.W.fnOf "__init__" "NoWriting.__init__" (defArgs st_NoWriting_init) (defBody st_NoWriting_init) (defScope st_NoWriting_init) .none kV_NoWriting_init dc_NoWriting_init pm_NoWriting_init an_NoWriting_init cd_NoWriting_init ct_NoWriting_init), sl_NoWriting_init⟩)
    (c_NoWriting_init : PySem.W.codeIn K cd_NoWriting_init "NoWriting.__init__" = true)
    (k_NoWriting_init : PySem.W.keepIn K (.ref f_NoWriting_init) = true)
    (a_are_signs : PySem.W.nsIn K mainGlobals "are_signs" = some (some (.ref f_are_signs)))
    (l_are_signs : K.lookup f_are_signs = some ⟨oc_are_signs, od_are_signs, .func (PySem.W.fnOf "are_signs" "are_signs" (defArgs st_are_signs) (defBody st_are_signs) (defScope st_are_signs) .none kV_are_signs dc_are_signs pm_are_signs an_are_signs cd_are_signs ct_are_signs), sl_are_signs⟩)
    (c_are_signs : PySem.W.codeIn K cd_are_signs "are_signs" = true)
    (k_are_signs : PySem.W.keepIn K (.ref f_are_signs) = true)
    (a_Rules_init : PySem.W.findIn K (.ref C_Rules) "__init__" = some (some (.ref f_Rules_init)))
    (i_Rules_init : PySem.W.isFn K (.ref f_Rules_init) = true)
    (l_Rules_init : K.lookup f_Rules_init = some ⟨oc_Rules_init, od_Rules_init, .func (PySem.W.fnOf "__init__" "Rules.__init__" (defArgs st_Rules_init) (defBody st_Rules_init) (defScope st_Rules_init) (.ref T_Rules_init) kV_Rules_init dc_Rules_init pm_Rules_init an_Rules_init cd_Rules_init ct_Rules_init), sl_Rules_init⟩)
    (d_Rules_init : K.lookup T_Rules_init = some ⟨.type "tuple", odT_Rules_init, .seq #[Value.str (" " : Str) t0_Rules_init, Value.str ("'" : Str) t1_Rules_init, Value.str ("\"" : Str) t2_Rules_init, Value.str ("\\" : Str) t3_Rules_init, Value.str ("#" : Str) t4_Rules_init] nT_Rules_init, slT_Rules_init⟩)
    (c_Rules_init : PySem.W.codeIn K cd_Rules_init "Rules.__init__" = true)
    (k_Rules_init : PySem.W.keepIn K (.ref f_Rules_init) = true)
    (a_Rules_told : PySem.W.findIn K (.ref C_Rules) "told" = some (some (.ref f_Rules_told)))
    (i_Rules_told : PySem.W.isFn K (.ref f_Rules_told) = true)
    (l_Rules_told : K.lookup f_Rules_told = some ⟨oc_Rules_told, od_Rules_told, .func (PySem.W.fnOf "told" "Rules.told" (defArgs st_Rules_told) (defBody st_Rules_told) (defScope st_Rules_told) .none kV_Rules_told dc_Rules_told pm_Rules_told an_Rules_told cd_Rules_told ct_Rules_told), sl_Rules_told⟩)
    (c_Rules_told : PySem.W.codeIn K cd_Rules_told "Rules.told" = true)
    (k_Rules_told : PySem.W.keepIn K (.ref f_Rules_told) = true)
    (a_Rules_quotes : PySem.W.findIn K (.ref C_Rules) "quotes" = some (some (.ref f_Rules_quotes)))
    (i_Rules_quotes : PySem.W.isFn K (.ref f_Rules_quotes) = true)
    (l_Rules_quotes : K.lookup f_Rules_quotes = some ⟨oc_Rules_quotes, od_Rules_quotes, .func (PySem.W.fnOf "quotes" "Rules.quotes" (defArgs st_Rules_quotes) (defBody st_Rules_quotes) (defScope st_Rules_quotes) .none kV_Rules_quotes dc_Rules_quotes pm_Rules_quotes an_Rules_quotes cd_Rules_quotes ct_Rules_quotes), sl_Rules_quotes⟩)
    (c_Rules_quotes : PySem.W.codeIn K cd_Rules_quotes "Rules.quotes" = true)
    (k_Rules_quotes : PySem.W.keepIn K (.ref f_Rules_quotes) = true)
    (a_Rules_special : PySem.W.findIn K (.ref C_Rules) "special" = some (some (.ref f_Rules_special)))
    (i_Rules_special : PySem.W.isFn K (.ref f_Rules_special) = true)
    (l_Rules_special : K.lookup f_Rules_special = some ⟨oc_Rules_special, od_Rules_special, .func (PySem.W.fnOf "special" "Rules.special" (defArgs st_Rules_special) (defBody st_Rules_special) (defScope st_Rules_special) .none kV_Rules_special dc_Rules_special pm_Rules_special an_Rules_special cd_Rules_special ct_Rules_special), sl_Rules_special⟩)
    (c_Rules_special : PySem.W.codeIn K cd_Rules_special "Rules.special" = true)
    (k_Rules_special : PySem.W.keepIn K (.ref f_Rules_special) = true)
    (a_Machine_init : PySem.W.findIn K (.ref C_Machine) "__init__" = some (some (.ref f_Machine_init)))
    (i_Machine_init : PySem.W.isFn K (.ref f_Machine_init) = true)
    (l_Machine_init : K.lookup f_Machine_init = some ⟨oc_Machine_init, od_Machine_init, .func (PySem.W.fnOf "__init__" "Machine.__init__" (defArgs st_Machine_init) (defBody st_Machine_init) (defScope st_Machine_init) .none kV_Machine_init dc_Machine_init pm_Machine_init an_Machine_init cd_Machine_init ct_Machine_init), sl_Machine_init⟩)
    (c_Machine_init : PySem.W.codeIn K cd_Machine_init "Machine.__init__" = true)
    (k_Machine_init : PySem.W.keepIn K (.ref f_Machine_init) = true)
    (a_Machine_begin : PySem.W.findIn K (.ref C_Machine) "begin" = some (some (.ref f_Machine_begin)))
    (i_Machine_begin : PySem.W.isFn K (.ref f_Machine_begin) = true)
    (l_Machine_begin : K.lookup f_Machine_begin = some ⟨oc_Machine_begin, od_Machine_begin, .func (PySem.W.fnOf "begin" "Machine.begin" (defArgs st_Machine_begin) (defBody st_Machine_begin) (defScope st_Machine_begin) .none kV_Machine_begin dc_Machine_begin pm_Machine_begin an_Machine_begin cd_Machine_begin ct_Machine_begin), sl_Machine_begin⟩)
    (c_Machine_begin : PySem.W.codeIn K cd_Machine_begin "Machine.begin" = true)
    (k_Machine_begin : PySem.W.keepIn K (.ref f_Machine_begin) = true)
    (a_Machine_ended : PySem.W.findIn K (.ref C_Machine) "ended" = some (some (.ref f_Machine_ended)))
    (i_Machine_ended : PySem.W.isFn K (.ref f_Machine_ended) = true)
    (l_Machine_ended : K.lookup f_Machine_ended = some ⟨oc_Machine_ended, od_Machine_ended, .func (PySem.W.fnOf "ended" "Machine.ended" (defArgs st_Machine_ended) (defBody st_Machine_ended) (defScope st_Machine_ended) .none kV_Machine_ended dc_Machine_ended pm_Machine_ended an_Machine_ended cd_Machine_ended ct_Machine_ended), sl_Machine_ended⟩)
    (c_Machine_ended : PySem.W.codeIn K cd_Machine_ended "Machine.ended" = true)
    (k_Machine_ended : PySem.W.keepIn K (.ref f_Machine_ended) = true)
    (a_Machine_plain : PySem.W.findIn K (.ref C_Machine) "plain" = some (some (.ref f_Machine_plain)))
    (i_Machine_plain : PySem.W.isFn K (.ref f_Machine_plain) = true)
    (l_Machine_plain : K.lookup f_Machine_plain = some ⟨oc_Machine_plain, od_Machine_plain, .func (PySem.W.fnOf "plain" "Machine.plain" (defArgs st_Machine_plain) (defBody st_Machine_plain) (defScope st_Machine_plain) .none kV_Machine_plain dc_Machine_plain pm_Machine_plain an_Machine_plain cd_Machine_plain ct_Machine_plain), sl_Machine_plain⟩)
    (c_Machine_plain : PySem.W.codeIn K cd_Machine_plain "Machine.plain" = true)
    (k_Machine_plain : PySem.W.keepIn K (.ref f_Machine_plain) = true)
    (a_Machine_quoted : PySem.W.findIn K (.ref C_Machine) "quoted" = some (some (.ref f_Machine_quoted)))
    (i_Machine_quoted : PySem.W.isFn K (.ref f_Machine_quoted) = true)
    (l_Machine_quoted : K.lookup f_Machine_quoted = some ⟨oc_Machine_quoted, od_Machine_quoted, .func (PySem.W.fnOf "quoted" "Machine.quoted" (defArgs st_Machine_quoted) (defBody st_Machine_quoted) (defScope st_Machine_quoted) .none kV_Machine_quoted dc_Machine_quoted pm_Machine_quoted an_Machine_quoted cd_Machine_quoted ct_Machine_quoted), sl_Machine_quoted⟩)
    (c_Machine_quoted : PySem.W.codeIn K cd_Machine_quoted "Machine.quoted" = true)
    (k_Machine_quoted : PySem.W.keepIn K (.ref f_Machine_quoted) = true)
    (a_Machine_step : PySem.W.findIn K (.ref C_Machine) "step" = some (some (.ref f_Machine_step)))
    (i_Machine_step : PySem.W.isFn K (.ref f_Machine_step) = true)
    (l_Machine_step : K.lookup f_Machine_step = some ⟨oc_Machine_step, od_Machine_step, .func (PySem.W.fnOf "step" "Machine.step" (defArgs st_Machine_step) (defBody st_Machine_step) (defScope st_Machine_step) .none kV_Machine_step dc_Machine_step pm_Machine_step an_Machine_step cd_Machine_step ct_Machine_step), sl_Machine_step⟩)
    (c_Machine_step : PySem.W.codeIn K cd_Machine_step "Machine.step" = true)
    (k_Machine_step : PySem.W.keepIn K (.ref f_Machine_step) = true)
    (a_Machine_fault : PySem.W.findIn K (.ref C_Machine) "fault" = some (some (.ref f_Machine_fault)))
    (i_Machine_fault : PySem.W.isFn K (.ref f_Machine_fault) = true)
    (l_Machine_fault : K.lookup f_Machine_fault = some ⟨oc_Machine_fault, od_Machine_fault, .func (PySem.W.fnOf "fault" "Machine.fault" (defArgs st_Machine_fault) (defBody st_Machine_fault) (defScope st_Machine_fault) .none kV_Machine_fault dc_Machine_fault pm_Machine_fault an_Machine_fault cd_Machine_fault ct_Machine_fault), sl_Machine_fault⟩)
    (c_Machine_fault : PySem.W.codeIn K cd_Machine_fault "Machine.fault" = true)
    (k_Machine_fault : PySem.W.keepIn K (.ref f_Machine_fault) = true)
    (a_read_all : PySem.W.nsIn K mainGlobals "read_all" = some (some (.ref f_read_all)))
    (l_read_all : K.lookup f_read_all = some ⟨oc_read_all, od_read_all, .func (PySem.W.fnOf "read_all" "read_all" (defArgs st_read_all) (defBody st_read_all) (defScope st_read_all) .none kV_read_all dc_read_all pm_read_all an_read_all cd_read_all ct_read_all), sl_read_all⟩)
    (c_read_all : PySem.W.codeIn K cd_read_all "read_all" = true)
    (k_read_all : PySem.W.keepIn K (.ref f_read_all) = true)
    (a_states_of : PySem.W.nsIn K mainGlobals "states_of" = some (some (.ref f_states_of)))
    (l_states_of : K.lookup f_states_of = some ⟨oc_states_of, od_states_of, .func (PySem.W.fnOf "states_of" "states_of" (defArgs st_states_of) (defBody st_states_of) (defScope st_states_of) .none kV_states_of dc_states_of pm_states_of an_states_of cd_states_of ct_states_of), sl_states_of⟩)
    (c_states_of : PySem.W.codeIn K cd_states_of "states_of" = true)
    (k_states_of : PySem.W.keepIn K (.ref f_states_of) = true)
    (a_cost_of : PySem.W.nsIn K mainGlobals "cost_of" = some (some (.ref f_cost_of)))
    (l_cost_of : K.lookup f_cost_of = some ⟨oc_cost_of, od_cost_of, .func (PySem.W.fnOf "cost_of" "cost_of" (defArgs st_cost_of) (defBody st_cost_of) (defScope st_cost_of) .none kV_cost_of dc_cost_of pm_cost_of an_cost_of cd_cost_of ct_cost_of), sl_cost_of⟩)
    (c_cost_of : PySem.W.codeIn K cd_cost_of "cost_of" = true)
    (k_cost_of : PySem.W.keepIn K (.ref f_cost_of) = true)
    (a_entered : PySem.W.nsIn K mainGlobals "entered" = some (some (.ref f_entered)))
    (l_entered : K.lookup f_entered = some ⟨oc_entered, od_entered, .func (PySem.W.fnOf "entered" "entered" (defArgs st_entered) (defBody st_entered) (defScope st_entered) .none kV_entered dc_entered pm_entered an_entered cd_entered ct_entered), sl_entered⟩)
    (c_entered : PySem.W.codeIn K cd_entered "entered" = true)
    (k_entered : PySem.W.keepIn K (.ref f_entered) = true)
    (a_cannot : PySem.W.nsIn K mainGlobals "cannot" = some (some (.ref f_cannot)))
    (l_cannot : K.lookup f_cannot = some ⟨oc_cannot, od_cannot, .func (PySem.W.fnOf "cannot" "cannot" (defArgs st_cannot) (defBody st_cannot) (defScope st_cannot) .none kV_cannot dc_cannot pm_cannot an_cannot cd_cannot ct_cannot), sl_cannot⟩)
    (c_cannot : PySem.W.codeIn K cd_cannot "cannot" = true)
    (k_cannot : PySem.W.keepIn K (.ref f_cannot) = true)
    (a_heights_of : PySem.W.nsIn K mainGlobals "heights_of" = some (some (.ref f_heights_of)))
    (l_heights_of : K.lookup f_heights_of = some ⟨oc_heights_of, od_heights_of, .func (PySem.W.fnOf "heights_of" "heights_of" (defArgs st_heights_of) (defBody st_heights_of) (defScope st_heights_of) .none kV_heights_of dc_heights_of pm_heights_of an_heights_of cd_heights_of ct_heights_of), sl_heights_of⟩)
    (c_heights_of : PySem.W.codeIn K cd_heights_of "heights_of" = true)
    (k_heights_of : PySem.W.keepIn K (.ref f_heights_of) = true)
    (a_written_by : PySem.W.nsIn K mainGlobals "written_by" = some (some (.ref f_written_by)))
    (l_written_by : K.lookup f_written_by = some ⟨oc_written_by, od_written_by, .func (PySem.W.fnOf "written_by" "written_by" (defArgs st_written_by) (defBody st_written_by) (defScope st_written_by) .none kV_written_by dc_written_by pm_written_by an_written_by cd_written_by ct_written_by), sl_written_by⟩)
    (c_written_by : PySem.W.codeIn K cd_written_by "written_by" = true)
    (k_written_by : PySem.W.keepIn K (.ref f_written_by) = true)
    (a_Words_init : PySem.W.findIn K (.ref C_Words) "__init__" = some (some (.ref f_Words_init)))
    (i_Words_init : PySem.W.isFn K (.ref f_Words_init) = true)
    (l_Words_init : K.lookup f_Words_init = some ⟨oc_Words_init, od_Words_init, .func (PySem.W.fnOf "__init__" "Words.__init__" (defArgs st_Words_init) (defBody st_Words_init) (defScope st_Words_init) .none kV_Words_init dc_Words_init pm_Words_init an_Words_init cd_Words_init ct_Words_init), sl_Words_init⟩)
    (c_Words_init : PySem.W.codeIn K cd_Words_init "Words.__init__" = true)
    (k_Words_init : PySem.W.keepIn K (.ref f_Words_init) = true)
    (a_Words_shows : PySem.W.findIn K (.ref C_Words) "shows" = some (some (.ref f_Words_shows)))
    (i_Words_shows : PySem.W.isFn K (.ref f_Words_shows) = true)
    (l_Words_shows : K.lookup f_Words_shows = some ⟨oc_Words_shows, od_Words_shows, .func (PySem.W.fnOf "shows" "Words.shows" (defArgs st_Words_shows) (defBody st_Words_shows) (defScope st_Words_shows) .none kV_Words_shows dc_Words_shows pm_Words_shows an_Words_shows cd_Words_shows ct_Words_shows), sl_Words_shows⟩)
    (c_Words_shows : PySem.W.codeIn K cd_Words_shows "Words.shows" = true)
    (k_Words_shows : PySem.W.keepIn K (.ref f_Words_shows) = true)
    (a_Fault_init : PySem.W.findIn K (.ref C_Fault) "__init__" = some (some (.ref f_Fault_init)))
    (i_Fault_init : PySem.W.isFn K (.ref f_Fault_init) = true)
    (l_Fault_init : K.lookup f_Fault_init = some ⟨oc_Fault_init, od_Fault_init, .func (PySem.W.fnOf "__init__" "Fault.__init__" (defArgs st_Fault_init) (defBody st_Fault_init) (defScope st_Fault_init) .none kV_Fault_init dc_Fault_init pm_Fault_init an_Fault_init cd_Fault_init ct_Fault_init), sl_Fault_init⟩)
    (c_Fault_init : PySem.W.codeIn K cd_Fault_init "Fault.__init__" = true)
    (k_Fault_init : PySem.W.keepIn K (.ref f_Fault_init) = true)
    (a_Fault_shows : PySem.W.findIn K (.ref C_Fault) "shows" = some (some (.ref f_Fault_shows)))
    (i_Fault_shows : PySem.W.isFn K (.ref f_Fault_shows) = true)
    (l_Fault_shows : K.lookup f_Fault_shows = some ⟨oc_Fault_shows, od_Fault_shows, .func (PySem.W.fnOf "shows" "Fault.shows" (defArgs st_Fault_shows) (defBody st_Fault_shows) (defScope st_Fault_shows) .none kV_Fault_shows dc_Fault_shows pm_Fault_shows an_Fault_shows cd_Fault_shows ct_Fault_shows), sl_Fault_shows⟩)
    (c_Fault_shows : PySem.W.codeIn K cd_Fault_shows "Fault.shows" = true)
    (k_Fault_shows : PySem.W.keepIn K (.ref f_Fault_shows) = true)
    (a_row_right : PySem.W.nsIn K mainGlobals "row_right" = some (some (.ref f_row_right)))
    (l_row_right : K.lookup f_row_right = some ⟨oc_row_right, od_row_right, .func (PySem.W.fnOf "row_right" "row_right" (defArgs st_row_right) (defBody st_row_right) (defScope st_row_right) .none kV_row_right dc_row_right pm_row_right an_row_right cd_row_right ct_row_right), sl_row_right⟩)
    (c_row_right : PySem.W.codeIn K cd_row_right "row_right" = true)
    (k_row_right : PySem.W.keepIn K (.ref f_row_right) = true)
    (a_Shortest_init : PySem.W.findIn K (.ref C_Shortest) "__init__" = some (some (.ref f_Shortest_init)))
    (i_Shortest_init : PySem.W.isFn K (.ref f_Shortest_init) = true)
    (l_Shortest_init : K.lookup f_Shortest_init = some ⟨oc_Shortest_init, od_Shortest_init, .func (PySem.W.fnOf "__init__" "Shortest.__init__" (defArgs st_Shortest_init) (defBody st_Shortest_init) (defScope st_Shortest_init) .none kV_Shortest_init dc_Shortest_init pm_Shortest_init an_Shortest_init cd_Shortest_init ct_Shortest_init), sl_Shortest_init⟩)
    (c_Shortest_init : PySem.W.codeIn K cd_Shortest_init "Shortest.__init__" = true)
    (k_Shortest_init : PySem.W.keepIn K (.ref f_Shortest_init) = true)
    (a_Shortest_shaped : PySem.W.findIn K (.ref C_Shortest) "shaped" = some (some (.ref f_Shortest_shaped)))
    (i_Shortest_shaped : PySem.W.isFn K (.ref f_Shortest_shaped) = true)
    (l_Shortest_shaped : K.lookup f_Shortest_shaped = some ⟨oc_Shortest_shaped, od_Shortest_shaped, .func (PySem.W.fnOf "shaped" "Shortest.shaped" (defArgs st_Shortest_shaped) (defBody st_Shortest_shaped) (defScope st_Shortest_shaped) .none kV_Shortest_shaped dc_Shortest_shaped pm_Shortest_shaped an_Shortest_shaped cd_Shortest_shaped ct_Shortest_shaped), sl_Shortest_shaped⟩)
    (c_Shortest_shaped : PySem.W.codeIn K cd_Shortest_shaped "Shortest.shaped" = true)
    (k_Shortest_shaped : PySem.W.keepIn K (.ref f_Shortest_shaped) = true)
    (a_Shortest_shows : PySem.W.findIn K (.ref C_Shortest) "shows" = some (some (.ref f_Shortest_shows)))
    (i_Shortest_shows : PySem.W.isFn K (.ref f_Shortest_shows) = true)
    (l_Shortest_shows : K.lookup f_Shortest_shows = some ⟨oc_Shortest_shows, od_Shortest_shows, .func (PySem.W.fnOf "shows" "Shortest.shows" (defArgs st_Shortest_shows) (defBody st_Shortest_shows) (defScope st_Shortest_shows) .none kV_Shortest_shows dc_Shortest_shows pm_Shortest_shows an_Shortest_shows cd_Shortest_shows ct_Shortest_shows), sl_Shortest_shows⟩)
    (c_Shortest_shows : PySem.W.codeIn K cd_Shortest_shows "Shortest.shows" = true)
    (k_Shortest_shows : PySem.W.keepIn K (.ref f_Shortest_shows) = true)
    (a_one_written : PySem.W.nsIn K mainGlobals "one_written" = some (some (.ref f_one_written)))
    (l_one_written : K.lookup f_one_written = some ⟨oc_one_written, od_one_written, .func (PySem.W.fnOf "one_written" "one_written" (defArgs st_one_written) (defBody st_one_written) (defScope st_one_written) .none kV_one_written dc_one_written pm_one_written an_one_written cd_one_written ct_one_written), sl_one_written⟩)
    (c_one_written : PySem.W.codeIn K cd_one_written "one_written" = true)
    (k_one_written : PySem.W.keepIn K (.ref f_one_written) = true)
    (a_shortest : PySem.W.nsIn K mainGlobals "shortest" = some (some (.ref f_shortest)))
    (l_shortest : K.lookup f_shortest = some ⟨oc_shortest, od_shortest, .func (PySem.W.fnOf "shortest" "shortest" (defArgs st_shortest) (defBody st_shortest) (defScope st_shortest) .none kV_shortest dc_shortest pm_shortest an_shortest cd_shortest ct_shortest), sl_shortest⟩)
    (c_shortest : PySem.W.codeIn K cd_shortest "shortest" = true)
    (k_shortest : PySem.W.keepIn K (.ref f_shortest) = true)
    (a_split : PySem.W.nsIn K mainGlobals "split" = some (some (.ref f_split)))
    (l_split : K.lookup f_split = some ⟨oc_split, od_split, .func (PySem.W.fnOf "split" "split" (defArgs st_split) (defBody st_split) (defScope st_split) .none kV_split dc_split pm_split an_split cd_split ct_split), sl_split⟩)
    (c_split : PySem.W.codeIn K cd_split "split" = true)
    (k_split : PySem.W.keepIn K (.ref f_split) = true)
    (a__law_cell_at : PySem.W.nsIn K mainGlobals "_law_cell_at" = some (some (.ref f__law_cell_at)))
    (l__law_cell_at : K.lookup f__law_cell_at = some ⟨oc__law_cell_at, od__law_cell_at, .func (PySem.W.fnOf "_law_cell_at" "_law_cell_at" (defArgs st__law_cell_at) (defBody st__law_cell_at) (defScope st__law_cell_at) .none kV__law_cell_at dc__law_cell_at pm__law_cell_at an__law_cell_at cd__law_cell_at ct__law_cell_at), sl__law_cell_at⟩)
    (c__law_cell_at : PySem.W.codeIn K cd__law_cell_at "_law_cell_at" = true)
    (k__law_cell_at : PySem.W.keepIn K (.ref f__law_cell_at) = true)
    (a__law_draw : PySem.W.nsIn K mainGlobals "_law_draw" = some (some (.ref f__law_draw)))
    (l__law_draw : K.lookup f__law_draw = some ⟨oc__law_draw, od__law_draw, .func (PySem.W.fnOf "_law_draw" "_law_draw" (defArgs st__law_draw) (defBody st__law_draw) (defScope st__law_draw) .none kV__law_draw dc__law_draw pm__law_draw an__law_draw cd__law_draw ct__law_draw), sl__law_draw⟩)
    (c__law_draw : PySem.W.codeIn K cd__law_draw "_law_draw" = true)
    (k__law_draw : PySem.W.keepIn K (.ref f__law_draw) = true)
    (a__law_number : PySem.W.nsIn K mainGlobals "_law_number" = some (some (.ref f__law_number)))
    (l__law_number : K.lookup f__law_number = some ⟨oc__law_number, od__law_number, .func (PySem.W.fnOf "_law_number" "_law_number" (defArgs st__law_number) (defBody st__law_number) (defScope st__law_number) .none kV__law_number dc__law_number pm__law_number an__law_number cd__law_number ct__law_number), sl__law_number⟩)
    (c__law_number : PySem.W.codeIn K cd__law_number "_law_number" = true)
    (k__law_number : PySem.W.keepIn K (.ref f__law_number) = true)
    (a__law_next : PySem.W.nsIn K mainGlobals "_law_next" = some (some (.ref f__law_next)))
    (l__law_next : K.lookup f__law_next = some ⟨oc__law_next, od__law_next, .func (PySem.W.fnOf "_law_next" "_law_next" (defArgs st__law_next) (defBody st__law_next) (defScope st__law_next) .none kV__law_next dc__law_next pm__law_next an__law_next cd__law_next ct__law_next), sl__law_next⟩)
    (c__law_next : PySem.W.codeIn K cd__law_next "_law_next" = true)
    (k__law_next : PySem.W.keepIn K (.ref f__law_next) = true)
    (a__law_told : PySem.W.nsIn K mainGlobals "_law_told" = some (some (.ref f__law_told)))
    (l__law_told : K.lookup f__law_told = some ⟨oc__law_told, od__law_told, .func (PySem.W.fnOf "_law_told" "_law_told" (defArgs st__law_told) (defBody st__law_told) (defScope st__law_told) .none kV__law_told dc__law_told pm__law_told an__law_told cd__law_told ct__law_told), sl__law_told⟩)
    (c__law_told : PySem.W.codeIn K cd__law_told "_law_told" = true)
    (k__law_told : PySem.W.keepIn K (.ref f__law_told) = true)
    (a__law_text : PySem.W.nsIn K mainGlobals "_law_text" = some (some (.ref f__law_text)))
    (l__law_text : K.lookup f__law_text = some ⟨oc__law_text, od__law_text, .func (PySem.W.fnOf "_law_text" "_law_text" (defArgs st__law_text) (defBody st__law_text) (defScope st__law_text) .none kV__law_text dc__law_text pm__law_text an__law_text cd__law_text ct__law_text), sl__law_text⟩)
    (c__law_text : PySem.W.codeIn K cd__law_text "_law_text" = true)
    (k__law_text : PySem.W.keepIn K (.ref f__law_text) = true)
    (a__law_rules : PySem.W.nsIn K mainGlobals "_law_rules" = some (some (.ref f__law_rules)))
    (l__law_rules : K.lookup f__law_rules = some ⟨oc__law_rules, od__law_rules, .func (PySem.W.fnOf "_law_rules" "_law_rules" (defArgs st__law_rules) (defBody st__law_rules) (defScope st__law_rules) .none kV__law_rules dc__law_rules pm__law_rules an__law_rules cd__law_rules ct__law_rules), sl__law_rules⟩)
    (c__law_rules : PySem.W.codeIn K cd__law_rules "_law_rules" = true)
    (k__law_rules : PySem.W.keepIn K (.ref f__law_rules) = true)
    (a__law_quoted : PySem.W.nsIn K mainGlobals "_law_quoted" = some (some (.ref f__law_quoted)))
    (l__law_quoted : K.lookup f__law_quoted = some ⟨oc__law_quoted, od__law_quoted, .func (PySem.W.fnOf "_law_quoted" "_law_quoted" (defArgs st__law_quoted) (defBody st__law_quoted) (defScope st__law_quoted) .none kV__law_quoted dc__law_quoted pm__law_quoted an__law_quoted cd__law_quoted ct__law_quoted), sl__law_quoted⟩)
    (c__law_quoted : PySem.W.codeIn K cd__law_quoted "_law_quoted" = true)
    (k__law_quoted : PySem.W.keepIn K (.ref f__law_quoted) = true)
    (a__law_word : PySem.W.nsIn K mainGlobals "_law_word" = some (some (.ref f__law_word)))
    (l__law_word : K.lookup f__law_word = some ⟨oc__law_word, od__law_word, .func (PySem.W.fnOf "_law_word" "_law_word" (defArgs st__law_word) (defBody st__law_word) (defScope st__law_word) .none kV__law_word dc__law_word pm__law_word an__law_word cd__law_word ct__law_word), sl__law_word⟩)
    (c__law_word : PySem.W.codeIn K cd__law_word "_law_word" = true)
    (k__law_word : PySem.W.keepIn K (.ref f__law_word) = true)
    (a__law_read : PySem.W.nsIn K mainGlobals "_law_read" = some (some (.ref f__law_read)))
    (l__law_read : K.lookup f__law_read = some ⟨oc__law_read, od__law_read, .func (PySem.W.fnOf "_law_read" "_law_read" (defArgs st__law_read) (defBody st__law_read) (defScope st__law_read) .none kV__law_read dc__law_read pm__law_read an__law_read cd__law_read ct__law_read), sl__law_read⟩)
    (c__law_read : PySem.W.codeIn K cd__law_read "_law_read" = true)
    (k__law_read : PySem.W.keepIn K (.ref f__law_read) = true)
    (a__law_states : PySem.W.nsIn K mainGlobals "_law_states" = some (some (.ref f__law_states)))
    (l__law_states : K.lookup f__law_states = some ⟨oc__law_states, od__law_states, .func (PySem.W.fnOf "_law_states" "_law_states" (defArgs st__law_states) (defBody st__law_states) (defScope st__law_states) .none kV__law_states dc__law_states pm__law_states an__law_states cd__law_states ct__law_states), sl__law_states⟩)
    (c__law_states : PySem.W.codeIn K cd__law_states "_law_states" = true)
    (k__law_states : PySem.W.keepIn K (.ref f__law_states) = true)
    (a__law_costs : PySem.W.nsIn K mainGlobals "_law_costs" = some (some (.ref f__law_costs)))
    (l__law_costs : K.lookup f__law_costs = some ⟨oc__law_costs, od__law_costs, .func (PySem.W.fnOf "_law_costs" "_law_costs" (defArgs st__law_costs) (defBody st__law_costs) (defScope st__law_costs) .none kV__law_costs dc__law_costs pm__law_costs an__law_costs cd__law_costs ct__law_costs), sl__law_costs⟩)
    (c__law_costs : PySem.W.codeIn K cd__law_costs "_law_costs" = true)
    (k__law_costs : PySem.W.keepIn K (.ref f__law_costs) = true)
    (a__law_writable : PySem.W.nsIn K mainGlobals "_law_writable" = some (some (.ref f__law_writable)))
    (l__law_writable : K.lookup f__law_writable = some ⟨oc__law_writable, od__law_writable, .func (PySem.W.fnOf "_law_writable" "_law_writable" (defArgs st__law_writable) (defBody st__law_writable) (defScope st__law_writable) .none kV__law_writable dc__law_writable pm__law_writable an__law_writable cd__law_writable ct__law_writable), sl__law_writable⟩)
    (c__law_writable : PySem.W.codeIn K cd__law_writable "_law_writable" = true)
    (k__law_writable : PySem.W.keepIn K (.ref f__law_writable) = true)
    (a__law_least : PySem.W.nsIn K mainGlobals "_law_least" = some (some (.ref f__law_least)))
    (l__law_least : K.lookup f__law_least = some ⟨oc__law_least, od__law_least, .func (PySem.W.fnOf "_law_least" "_law_least" (defArgs st__law_least) (defBody st__law_least) (defScope st__law_least) .none kV__law_least dc__law_least pm__law_least an__law_least cd__law_least ct__law_least), sl__law_least⟩)
    (c__law_least : PySem.W.codeIn K cd__law_least "_law_least" = true)
    (k__law_least : PySem.W.keepIn K (.ref f__law_least) = true)
    (a__law_rows_right : PySem.W.nsIn K mainGlobals "_law_rows_right" = some (some (.ref f__law_rows_right)))
    (l__law_rows_right : K.lookup f__law_rows_right = some ⟨oc__law_rows_right, od__law_rows_right, .func (PySem.W.fnOf "_law_rows_right" "_law_rows_right" (defArgs st__law_rows_right) (defBody st__law_rows_right) (defScope st__law_rows_right) .none kV__law_rows_right dc__law_rows_right pm__law_rows_right an__law_rows_right cd__law_rows_right ct__law_rows_right), sl__law_rows_right⟩)
    (c__law_rows_right : PySem.W.codeIn K cd__law_rows_right "_law_rows_right" = true)
    (k__law_rows_right : PySem.W.keepIn K (.ref f__law_rows_right) = true)
    (a__law_due : PySem.W.nsIn K mainGlobals "_law_due" = some (some (.ref f__law_due)))
    (l__law_due : K.lookup f__law_due = some ⟨oc__law_due, od__law_due, .func (PySem.W.fnOf "_law_due" "_law_due" (defArgs st__law_due) (defBody st__law_due) (defScope st__law_due) .none kV__law_due dc__law_due pm__law_due an__law_due cd__law_due ct__law_due), sl__law_due⟩)
    (c__law_due : PySem.W.codeIn K cd__law_due "_law_due" = true)
    (k__law_due : PySem.W.keepIn K (.ref f__law_due) = true)
    (a__law_drawn_word : PySem.W.nsIn K mainGlobals "_law_drawn_word" = some (some (.ref f__law_drawn_word)))
    (l__law_drawn_word : K.lookup f__law_drawn_word = some ⟨oc__law_drawn_word, od__law_drawn_word, .func (PySem.W.fnOf "_law_drawn_word" "_law_drawn_word" (defArgs st__law_drawn_word) (defBody st__law_drawn_word) (defScope st__law_drawn_word) .none kV__law_drawn_word dc__law_drawn_word pm__law_drawn_word an__law_drawn_word cd__law_drawn_word ct__law_drawn_word), sl__law_drawn_word⟩)
    (c__law_drawn_word : PySem.W.codeIn K cd__law_drawn_word "_law_drawn_word" = true)
    (k__law_drawn_word : PySem.W.keepIn K (.ref f__law_drawn_word) = true)
    (a__law_refused : PySem.W.nsIn K mainGlobals "_law_refused" = some (some (.ref f__law_refused)))
    (l__law_refused : K.lookup f__law_refused = some ⟨oc__law_refused, od__law_refused, .func (PySem.W.fnOf "_law_refused" "_law_refused" (defArgs st__law_refused) (defBody st__law_refused) (defScope st__law_refused) .none kV__law_refused dc__law_refused pm__law_refused an__law_refused cd__law_refused ct__law_refused), sl__law_refused⟩)
    (c__law_refused : PySem.W.codeIn K cd__law_refused "_law_refused" = true)
    (k__law_refused : PySem.W.keepIn K (.ref f__law_refused) = true)
    (a__law_right : PySem.W.nsIn K mainGlobals "_law_right" = some (some (.ref f__law_right)))
    (l__law_right : K.lookup f__law_right = some ⟨oc__law_right, od__law_right, .func (PySem.W.fnOf "_law_right" "_law_right" (defArgs st__law_right) (defBody st__law_right) (defScope st__law_right) .none kV__law_right dc__law_right pm__law_right an__law_right cd__law_right ct__law_right), sl__law_right⟩)
    (c__law_right : PySem.W.codeIn K cd__law_right "_law_right" = true)
    (k__law_right : PySem.W.keepIn K (.ref f__law_right) = true)
    (a_law : PySem.W.nsIn K mainGlobals "law" = some (some (.ref f_law)))
    (l_law : K.lookup f_law = some ⟨oc_law, od_law, .func (PySem.W.fnOf "law" "law" (defArgs st_law) (defBody st_law) (defScope st_law) .none kV_law dc_law pm_law an_law cd_law ct_law), sl_law⟩)
    (c_law : PySem.W.codeIn K cd_law "law" = true)
    (k_law : PySem.W.keepIn K (.ref f_law) = true)
    (pg_Rules : PySem.W.plainGet K C_Rules Str.empty = true)
    (hd_Rules : PySem.W.hasDictIn K C_Rules = true)
    (po_Rules : PySem.W.plainOver K C_Rules = true)
    (sa_Rules : PySem.W.findIn K (.ref C_Rules) "__setattr__" = some (some (.builtin "object.__setattr__")))
    (mk_Rules : PySem.W.makesIn K C_Rules = true)
    (kc_Rules : PySem.W.keepIn K (.ref C_Rules) = true)
    (n_Rules_breaks : PySem.W.findIn K (.ref C_Rules) "breaks" = some none)
    (n_Rules_hard : PySem.W.findIn K (.ref C_Rules) "hard" = some none)
    (n_Rules_soft : PySem.W.findIn K (.ref C_Rules) "soft" = some none)
    (n_Rules_bend : PySem.W.findIn K (.ref C_Rules) "bend" = some none)
    (n_Rules_note : PySem.W.findIn K (.ref C_Rules) "note" = some none)
    (pg_Machine : PySem.W.plainGet K C_Machine Str.empty = true)
    (hd_Machine : PySem.W.hasDictIn K C_Machine = true)
    (po_Machine : PySem.W.plainOver K C_Machine = true)
    (sa_Machine : PySem.W.findIn K (.ref C_Machine) "__setattr__" = some (some (.builtin "object.__setattr__")))
    (mk_Machine : PySem.W.makesIn K C_Machine = true)
    (kc_Machine : PySem.W.keepIn K (.ref C_Machine) = true)
    (n_Machine_rules : PySem.W.findIn K (.ref C_Machine) "rules" = some none)
    (n_Machine_state : PySem.W.findIn K (.ref C_Machine) "state" = some none)
    (n_Machine_bent : PySem.W.findIn K (.ref C_Machine) "bent" = some none)
    (n_Machine_word : PySem.W.findIn K (.ref C_Machine) "word" = some none)
    (n_Machine_begun : PySem.W.findIn K (.ref C_Machine) "begun" = some none)
    (n_Machine_opened : PySem.W.findIn K (.ref C_Machine) "opened" = some none)
    (n_Machine_place : PySem.W.findIn K (.ref C_Machine) "place" = some none)
    (pg_Words : PySem.W.plainGet K C_Words Str.empty = true)
    (hd_Words : PySem.W.hasDictIn K C_Words = true)
    (po_Words : PySem.W.plainOver K C_Words = true)
    (sa_Words : PySem.W.findIn K (.ref C_Words) "__setattr__" = some (some (.builtin "object.__setattr__")))
    (mk_Words : PySem.W.makesIn K C_Words = true)
    (kc_Words : PySem.W.keepIn K (.ref C_Words) = true)
    (n_Words_words : PySem.W.findIn K (.ref C_Words) "words" = some none)
    (n_Words_places : PySem.W.findIn K (.ref C_Words) "places" = some none)
    (pg_Fault : PySem.W.plainGet K C_Fault Str.empty = true)
    (hd_Fault : PySem.W.hasDictIn K C_Fault = true)
    (po_Fault : PySem.W.plainOver K C_Fault = true)
    (sa_Fault : PySem.W.findIn K (.ref C_Fault) "__setattr__" = some (some (.builtin "object.__setattr__")))
    (mk_Fault : PySem.W.makesIn K C_Fault = true)
    (kc_Fault : PySem.W.keepIn K (.ref C_Fault) = true)
    (n_Fault_place : PySem.W.findIn K (.ref C_Fault) "place" = some none)
    (pg_Shortest : PySem.W.plainGet K C_Shortest Str.empty = true)
    (hd_Shortest : PySem.W.hasDictIn K C_Shortest = true)
    (po_Shortest : PySem.W.plainOver K C_Shortest = true)
    (sa_Shortest : PySem.W.findIn K (.ref C_Shortest) "__setattr__" = some (some (.builtin "object.__setattr__")))
    (mk_Shortest : PySem.W.makesIn K C_Shortest = true)
    (kc_Shortest : PySem.W.keepIn K (.ref C_Shortest) = true)
    (n_Shortest_text : PySem.W.findIn K (.ref C_Shortest) "text" = some none)
    (n_Shortest_heights : PySem.W.findIn K (.ref C_Shortest) "heights" = some none)
    (g_LINE_END : PySem.W.nsIn K mainGlobals "LINE_END" = some (some (Value.str ("\n" : Str) t_LINE_END)))
    (g_MOST : PySem.W.nsIn K mainGlobals "MOST" = some (some (.ref a_MOST)))
    (s_MOST : K.lookup a_MOST = some ⟨.type "tuple", od_MOST, .seq #[.int 4 t0_MOST, .int 2 t1_MOST, .int 2 t2_MOST, .int 1 t3_MOST, .int 1 t4_MOST] n_MOST, sl_MOST⟩)
    (g_PLAIN : PySem.W.nsIn K mainGlobals "PLAIN" = some (some (Value.str ("" : Str) t_PLAIN)))
    (g_NOTED : PySem.W.nsIn K mainGlobals "NOTED" = some (some (Value.str ("note" : Str) t_NOTED)))
    (g_LOOSE : PySem.W.nsIn K mainGlobals "LOOSE" = some (some (Value.str ("" : Str) t_LOOSE)))
    (g_MOST_WORDS : PySem.W.nsIn K mainGlobals "MOST_WORDS" = some (some (Value.int 8 t_MOST_WORDS)))
    (g_LONGEST_WORD : PySem.W.nsIn K mainGlobals "LONGEST_WORD" = some (some (Value.int 12 t_LONGEST_WORD)))
    (g_FAR : PySem.W.nsIn K mainGlobals "FAR" = some (some (Value.int 99 t_FAR)))
    (g_LONGEST : PySem.W.nsIn K mainGlobals "LONGEST" = some (some (Value.int 400 t_LONGEST)))
    (b_isinstance : PySem.W.nsIn K mainGlobals "isinstance" = some none)
    (b_all : PySem.W.nsIn K mainGlobals "all" = some none)
    (b_any : PySem.W.nsIn K mainGlobals "any" = some none)
    (b_zip : PySem.W.nsIn K mainGlobals "zip" = some none)
    (b_len : PySem.W.nsIn K mainGlobals "len" = some none)
    (b_set : PySem.W.nsIn K mainGlobals "set" = some none)
    (b_str : PySem.W.nsIn K mainGlobals "str" = some none)
    (b_list : PySem.W.nsIn K mainGlobals "list" = some none)
    (b_range : PySem.W.nsIn K mainGlobals "range" = some none)
    (b_int : PySem.W.nsIn K mainGlobals "int" = some none)
    (b_tuple : PySem.W.nsIn K mainGlobals "tuple" = some none)
    (b_max : PySem.W.nsIn K mainGlobals "max" = some none)
    (b_min : PySem.W.nsIn K mainGlobals "min" = some none)
    (b_sum : PySem.W.nsIn K mainGlobals "sum" = some none)
    (b_enumerate : PySem.W.nsIn K mainGlobals "enumerate" = some none)
    (i_Wordsha : PySem.W.findIn K (.ref C_Words) "__class__" = some (some (.builtin "object.__class__")))
    (i_Wordshm : PySem.W.mroIn K C_Words (.type "object") = some true)
    (objGet : PySem.W.specialIn K (.builtin "object.__class__") "__get__" = some (some (.builtin "getset_descriptor.__get__")))
    (objTak : PySem.W.takesIn K (.builtin "object.__class__") = some true)
    (i_Faultha : PySem.W.findIn K (.ref C_Fault) "__class__" = some (some (.builtin "object.__class__")))
    (i_Faulthm : PySem.W.mroIn K C_Fault (.type "object") = some true)
    (m_k_WF : PySem.W.mroIn K C_Words (.ref C_Fault) = some false)
    (ty_Fault : PySem.W.typeIn K (.ref C_Fault) = some (.type "type"))
    (ne_k_WF : (C_Words : Nat) ≠ C_Fault)
    (m_k_WA : PySem.W.mroIn K C_Words (.ref C_Answer) = some true)
    (ty_Answer : PySem.W.typeIn K (.ref C_Answer) = some (.type "type"))
    (hd_Answer : PySem.W.hasDictIn K C_Answer = true)
    (ne_k_WA : (C_Words : Nat) ≠ C_Answer)
    (m_k_FW : PySem.W.mroIn K C_Fault (.ref C_Words) = some false)
    (ty_Words : PySem.W.typeIn K (.ref C_Words) = some (.type "type"))
    (ne_k_FW : (C_Fault : Nat) ≠ C_Words)
    (m_k_FA : PySem.W.mroIn K C_Fault (.ref C_Answer) = some true)
    (ne_k_FA : (C_Fault : Nat) ≠ C_Answer)
    (i_Shortestha : PySem.W.findIn K (.ref C_Shortest) "__class__" = some (some (.builtin "object.__class__")))
    (i_Shortesthm : PySem.W.mroIn K C_Shortest (.type "object") = some true)
    (m_k_SA : PySem.W.mroIn K C_Shortest (.ref C_Answer) = some true)
    (ne_k_SA : (C_Shortest : Nat) ≠ C_Answer)
    (ea_QuoteError : PySem.W.findIn K (.ref C_QuoteError) "__getattribute__" = some (some (.builtin "BaseException.__getattribute__")))
    (eb_QuoteError : PySem.W.findIn K (.ref C_QuoteError) "__getattr__" = some none)
    (ec_QuoteError : PySem.W.subIn K (.ref C_QuoteError) (.type "BaseException") = some true)
    (ed_QuoteError : PySem.W.hasDictIn K C_QuoteError = true)
    (ee_QuoteError : PySem.W.findIn K (.ref C_QuoteError) "__class__" = some (some (.builtin "object.__class__")))
    (ef_QuoteError : PySem.W.mroIn K C_QuoteError (.type "object") = some true)
    (eh_QuoteError : PySem.W.typeIn K (.ref C_QuoteError) = some (.type "type"))
    (ei_QuoteError : PySem.W.keepIn K (.ref C_QuoteError) = true)
    (es_QuoteError_QuoteError : PySem.W.subIn K (.ref C_QuoteError) (.ref C_QuoteError) = some true)
    (ea_NoWriting : PySem.W.findIn K (.ref C_NoWriting) "__getattribute__" = some (some (.builtin "BaseException.__getattribute__")))
    (eb_NoWriting : PySem.W.findIn K (.ref C_NoWriting) "__getattr__" = some none)
    (ec_NoWriting : PySem.W.subIn K (.ref C_NoWriting) (.type "BaseException") = some true)
    (ed_NoWriting : PySem.W.hasDictIn K C_NoWriting = true)
    (ee_NoWriting : PySem.W.findIn K (.ref C_NoWriting) "__class__" = some (some (.builtin "object.__class__")))
    (ef_NoWriting : PySem.W.mroIn K C_NoWriting (.type "object") = some true)
    (eh_NoWriting : PySem.W.typeIn K (.ref C_NoWriting) = some (.type "type"))
    (ei_NoWriting : PySem.W.keepIn K (.ref C_NoWriting) = true)
    (es_NoWriting_QuoteError : PySem.W.subIn K (.ref C_NoWriting) (.ref C_QuoteError) = some true)
    (xL_NoWriting : K.lookup C_NoWriting = some (PySem.excClassObj nmE qE C_NoWriting NE bsE [.ref C_QuoteError, .type "ValueError", .type "Exception", .type "BaseException", .type "object"] true snE subE abE colE ddE m0E m1E m2E m3E m5E "ValueError.__new__"))
    (sa_NoWriting : PySem.W.findIn K (.ref C_NoWriting) "__setattr__" = some (some (.builtin "object.__setattr__")))
    (at_NoWriting : PySem.W.findIn K (.ref C_NoWriting) "at" = some none)
    (ti_NoWriting : PySem.W.typeIn K (.ref f_NoWriting_init) = some (.type "function"))
    (ui_NoWriting : PySem.W.findIn K (.ref C_NoWriting) "__init__" = some (some (.ref f_NoWriting_init)))
    (qr_QuoteError : PySem.W.readsIn K C_QuoteError (.type "type") = true)
    (qg_QuoteError : PySem.W.specialIn K (.ref C_QuoteError) "__getattribute__" = some (some (.builtin "type.__getattribute__")))
    (qv_QuoteError : PySem.W.findCls K (.ref C_QuoteError) (.type "type") "__init__" = some (.val (.builtin "ValueError.__init__")))
    : ∃ fd : FuncData, (∀ (s : Shared) (v : Value), BindsTo s fd ⟨[v], []⟩ [("_law_script", v)]) ∧ ∀ base : Heap, K.In base → base.Ns mainGlobals mg → FnG P w K mg base 9 fa fd ["_law_script"] (sp_law K) := by
  have e := hfa.symm.trans (PySem.W.mg_of X G a_law)
  cases e
  have T : Txt K mg { c_QuoteError := C_QuoteError, c_BadRules := (0 : Nat), c_BadText := (0 : Nat), c_BadWords := (0 : Nat), c_NoWriting := C_NoWriting, c_Rules := C_Rules, c_Machine := C_Machine, c_Answer := C_Answer, c_Words := C_Words, c_Fault := C_Fault, c_Shortest := C_Shortest, f_NoWriting_init := f_NoWriting_init, d_NoWriting_init := PySem.W.fnOf "__init__" "NoWriting.__init__" (defArgs st_NoWriting_init) (defBody st_NoWriting_init) (defScope st_NoWriting_init) .none kV_NoWriting_init dc_NoWriting_init pm_NoWriting_init an_NoWriting_init cd_NoWriting_init ct_NoWriting_init, f_are_signs := f_are_signs, d_are_signs := PySem.W.fnOf "are_signs" "are_signs" (defArgs st_are_signs) (defBody st_are_signs) (defScope st_are_signs) .none kV_are_signs dc_are_signs pm_are_signs an_are_signs cd_are_signs ct_are_signs, f_Rules_init := f_Rules_init, d_Rules_init := PySem.W.fnOf "__init__" "Rules.__init__" (defArgs st_Rules_init) (defBody st_Rules_init) (defScope st_Rules_init) (.ref T_Rules_init) kV_Rules_init dc_Rules_init pm_Rules_init an_Rules_init cd_Rules_init ct_Rules_init, f_Rules_told := f_Rules_told, d_Rules_told := PySem.W.fnOf "told" "Rules.told" (defArgs st_Rules_told) (defBody st_Rules_told) (defScope st_Rules_told) .none kV_Rules_told dc_Rules_told pm_Rules_told an_Rules_told cd_Rules_told ct_Rules_told, f_Rules_quotes := f_Rules_quotes, d_Rules_quotes := PySem.W.fnOf "quotes" "Rules.quotes" (defArgs st_Rules_quotes) (defBody st_Rules_quotes) (defScope st_Rules_quotes) .none kV_Rules_quotes dc_Rules_quotes pm_Rules_quotes an_Rules_quotes cd_Rules_quotes ct_Rules_quotes, f_Rules_special := f_Rules_special, d_Rules_special := PySem.W.fnOf "special" "Rules.special" (defArgs st_Rules_special) (defBody st_Rules_special) (defScope st_Rules_special) .none kV_Rules_special dc_Rules_special pm_Rules_special an_Rules_special cd_Rules_special ct_Rules_special, f_Machine_init := f_Machine_init, d_Machine_init := PySem.W.fnOf "__init__" "Machine.__init__" (defArgs st_Machine_init) (defBody st_Machine_init) (defScope st_Machine_init) .none kV_Machine_init dc_Machine_init pm_Machine_init an_Machine_init cd_Machine_init ct_Machine_init, f_Machine_begin := f_Machine_begin, d_Machine_begin := PySem.W.fnOf "begin" "Machine.begin" (defArgs st_Machine_begin) (defBody st_Machine_begin) (defScope st_Machine_begin) .none kV_Machine_begin dc_Machine_begin pm_Machine_begin an_Machine_begin cd_Machine_begin ct_Machine_begin, f_Machine_ended := f_Machine_ended, d_Machine_ended := PySem.W.fnOf "ended" "Machine.ended" (defArgs st_Machine_ended) (defBody st_Machine_ended) (defScope st_Machine_ended) .none kV_Machine_ended dc_Machine_ended pm_Machine_ended an_Machine_ended cd_Machine_ended ct_Machine_ended, f_Machine_plain := f_Machine_plain, d_Machine_plain := PySem.W.fnOf "plain" "Machine.plain" (defArgs st_Machine_plain) (defBody st_Machine_plain) (defScope st_Machine_plain) .none kV_Machine_plain dc_Machine_plain pm_Machine_plain an_Machine_plain cd_Machine_plain ct_Machine_plain, f_Machine_quoted := f_Machine_quoted, d_Machine_quoted := PySem.W.fnOf "quoted" "Machine.quoted" (defArgs st_Machine_quoted) (defBody st_Machine_quoted) (defScope st_Machine_quoted) .none kV_Machine_quoted dc_Machine_quoted pm_Machine_quoted an_Machine_quoted cd_Machine_quoted ct_Machine_quoted, f_Machine_step := f_Machine_step, d_Machine_step := PySem.W.fnOf "step" "Machine.step" (defArgs st_Machine_step) (defBody st_Machine_step) (defScope st_Machine_step) .none kV_Machine_step dc_Machine_step pm_Machine_step an_Machine_step cd_Machine_step ct_Machine_step, f_Machine_fault := f_Machine_fault, d_Machine_fault := PySem.W.fnOf "fault" "Machine.fault" (defArgs st_Machine_fault) (defBody st_Machine_fault) (defScope st_Machine_fault) .none kV_Machine_fault dc_Machine_fault pm_Machine_fault an_Machine_fault cd_Machine_fault ct_Machine_fault, f_read_all := f_read_all, d_read_all := PySem.W.fnOf "read_all" "read_all" (defArgs st_read_all) (defBody st_read_all) (defScope st_read_all) .none kV_read_all dc_read_all pm_read_all an_read_all cd_read_all ct_read_all, f_states_of := f_states_of, d_states_of := PySem.W.fnOf "states_of" "states_of" (defArgs st_states_of) (defBody st_states_of) (defScope st_states_of) .none kV_states_of dc_states_of pm_states_of an_states_of cd_states_of ct_states_of, f_cost_of := f_cost_of, d_cost_of := PySem.W.fnOf "cost_of" "cost_of" (defArgs st_cost_of) (defBody st_cost_of) (defScope st_cost_of) .none kV_cost_of dc_cost_of pm_cost_of an_cost_of cd_cost_of ct_cost_of, f_entered := f_entered, d_entered := PySem.W.fnOf "entered" "entered" (defArgs st_entered) (defBody st_entered) (defScope st_entered) .none kV_entered dc_entered pm_entered an_entered cd_entered ct_entered, f_cannot := f_cannot, d_cannot := PySem.W.fnOf "cannot" "cannot" (defArgs st_cannot) (defBody st_cannot) (defScope st_cannot) .none kV_cannot dc_cannot pm_cannot an_cannot cd_cannot ct_cannot, f_heights_of := f_heights_of, d_heights_of := PySem.W.fnOf "heights_of" "heights_of" (defArgs st_heights_of) (defBody st_heights_of) (defScope st_heights_of) .none kV_heights_of dc_heights_of pm_heights_of an_heights_of cd_heights_of ct_heights_of, f_written_by := f_written_by, d_written_by := PySem.W.fnOf "written_by" "written_by" (defArgs st_written_by) (defBody st_written_by) (defScope st_written_by) .none kV_written_by dc_written_by pm_written_by an_written_by cd_written_by ct_written_by, f_Words_init := f_Words_init, d_Words_init := PySem.W.fnOf "__init__" "Words.__init__" (defArgs st_Words_init) (defBody st_Words_init) (defScope st_Words_init) .none kV_Words_init dc_Words_init pm_Words_init an_Words_init cd_Words_init ct_Words_init, f_Words_shows := f_Words_shows, d_Words_shows := PySem.W.fnOf "shows" "Words.shows" (defArgs st_Words_shows) (defBody st_Words_shows) (defScope st_Words_shows) .none kV_Words_shows dc_Words_shows pm_Words_shows an_Words_shows cd_Words_shows ct_Words_shows, f_Fault_init := f_Fault_init, d_Fault_init := PySem.W.fnOf "__init__" "Fault.__init__" (defArgs st_Fault_init) (defBody st_Fault_init) (defScope st_Fault_init) .none kV_Fault_init dc_Fault_init pm_Fault_init an_Fault_init cd_Fault_init ct_Fault_init, f_Fault_shows := f_Fault_shows, d_Fault_shows := PySem.W.fnOf "shows" "Fault.shows" (defArgs st_Fault_shows) (defBody st_Fault_shows) (defScope st_Fault_shows) .none kV_Fault_shows dc_Fault_shows pm_Fault_shows an_Fault_shows cd_Fault_shows ct_Fault_shows, f_row_right := f_row_right, d_row_right := PySem.W.fnOf "row_right" "row_right" (defArgs st_row_right) (defBody st_row_right) (defScope st_row_right) .none kV_row_right dc_row_right pm_row_right an_row_right cd_row_right ct_row_right, f_Shortest_init := f_Shortest_init, d_Shortest_init := PySem.W.fnOf "__init__" "Shortest.__init__" (defArgs st_Shortest_init) (defBody st_Shortest_init) (defScope st_Shortest_init) .none kV_Shortest_init dc_Shortest_init pm_Shortest_init an_Shortest_init cd_Shortest_init ct_Shortest_init, f_Shortest_shaped := f_Shortest_shaped, d_Shortest_shaped := PySem.W.fnOf "shaped" "Shortest.shaped" (defArgs st_Shortest_shaped) (defBody st_Shortest_shaped) (defScope st_Shortest_shaped) .none kV_Shortest_shaped dc_Shortest_shaped pm_Shortest_shaped an_Shortest_shaped cd_Shortest_shaped ct_Shortest_shaped, f_Shortest_shows := f_Shortest_shows, d_Shortest_shows := PySem.W.fnOf "shows" "Shortest.shows" (defArgs st_Shortest_shows) (defBody st_Shortest_shows) (defScope st_Shortest_shows) .none kV_Shortest_shows dc_Shortest_shows pm_Shortest_shows an_Shortest_shows cd_Shortest_shows ct_Shortest_shows, f_one_written := f_one_written, d_one_written := PySem.W.fnOf "one_written" "one_written" (defArgs st_one_written) (defBody st_one_written) (defScope st_one_written) .none kV_one_written dc_one_written pm_one_written an_one_written cd_one_written ct_one_written, f_shortest := f_shortest, d_shortest := PySem.W.fnOf "shortest" "shortest" (defArgs st_shortest) (defBody st_shortest) (defScope st_shortest) .none kV_shortest dc_shortest pm_shortest an_shortest cd_shortest ct_shortest, f_split := f_split, d_split := PySem.W.fnOf "split" "split" (defArgs st_split) (defBody st_split) (defScope st_split) .none kV_split dc_split pm_split an_split cd_split ct_split, f__law_cell_at := f__law_cell_at, d__law_cell_at := PySem.W.fnOf "_law_cell_at" "_law_cell_at" (defArgs st__law_cell_at) (defBody st__law_cell_at) (defScope st__law_cell_at) .none kV__law_cell_at dc__law_cell_at pm__law_cell_at an__law_cell_at cd__law_cell_at ct__law_cell_at, f__law_draw := f__law_draw, d__law_draw := PySem.W.fnOf "_law_draw" "_law_draw" (defArgs st__law_draw) (defBody st__law_draw) (defScope st__law_draw) .none kV__law_draw dc__law_draw pm__law_draw an__law_draw cd__law_draw ct__law_draw, f__law_number := f__law_number, d__law_number := PySem.W.fnOf "_law_number" "_law_number" (defArgs st__law_number) (defBody st__law_number) (defScope st__law_number) .none kV__law_number dc__law_number pm__law_number an__law_number cd__law_number ct__law_number, f__law_next := f__law_next, d__law_next := PySem.W.fnOf "_law_next" "_law_next" (defArgs st__law_next) (defBody st__law_next) (defScope st__law_next) .none kV__law_next dc__law_next pm__law_next an__law_next cd__law_next ct__law_next, f__law_told := f__law_told, d__law_told := PySem.W.fnOf "_law_told" "_law_told" (defArgs st__law_told) (defBody st__law_told) (defScope st__law_told) .none kV__law_told dc__law_told pm__law_told an__law_told cd__law_told ct__law_told, f__law_text := f__law_text, d__law_text := PySem.W.fnOf "_law_text" "_law_text" (defArgs st__law_text) (defBody st__law_text) (defScope st__law_text) .none kV__law_text dc__law_text pm__law_text an__law_text cd__law_text ct__law_text, f__law_rules := f__law_rules, d__law_rules := PySem.W.fnOf "_law_rules" "_law_rules" (defArgs st__law_rules) (defBody st__law_rules) (defScope st__law_rules) .none kV__law_rules dc__law_rules pm__law_rules an__law_rules cd__law_rules ct__law_rules, f__law_quoted := f__law_quoted, d__law_quoted := PySem.W.fnOf "_law_quoted" "_law_quoted" (defArgs st__law_quoted) (defBody st__law_quoted) (defScope st__law_quoted) .none kV__law_quoted dc__law_quoted pm__law_quoted an__law_quoted cd__law_quoted ct__law_quoted, f__law_word := f__law_word, d__law_word := PySem.W.fnOf "_law_word" "_law_word" (defArgs st__law_word) (defBody st__law_word) (defScope st__law_word) .none kV__law_word dc__law_word pm__law_word an__law_word cd__law_word ct__law_word, f__law_read := f__law_read, d__law_read := PySem.W.fnOf "_law_read" "_law_read" (defArgs st__law_read) (defBody st__law_read) (defScope st__law_read) .none kV__law_read dc__law_read pm__law_read an__law_read cd__law_read ct__law_read, f__law_states := f__law_states, d__law_states := PySem.W.fnOf "_law_states" "_law_states" (defArgs st__law_states) (defBody st__law_states) (defScope st__law_states) .none kV__law_states dc__law_states pm__law_states an__law_states cd__law_states ct__law_states, f__law_costs := f__law_costs, d__law_costs := PySem.W.fnOf "_law_costs" "_law_costs" (defArgs st__law_costs) (defBody st__law_costs) (defScope st__law_costs) .none kV__law_costs dc__law_costs pm__law_costs an__law_costs cd__law_costs ct__law_costs, f__law_writable := f__law_writable, d__law_writable := PySem.W.fnOf "_law_writable" "_law_writable" (defArgs st__law_writable) (defBody st__law_writable) (defScope st__law_writable) .none kV__law_writable dc__law_writable pm__law_writable an__law_writable cd__law_writable ct__law_writable, f__law_least := f__law_least, d__law_least := PySem.W.fnOf "_law_least" "_law_least" (defArgs st__law_least) (defBody st__law_least) (defScope st__law_least) .none kV__law_least dc__law_least pm__law_least an__law_least cd__law_least ct__law_least, f__law_rows_right := f__law_rows_right, d__law_rows_right := PySem.W.fnOf "_law_rows_right" "_law_rows_right" (defArgs st__law_rows_right) (defBody st__law_rows_right) (defScope st__law_rows_right) .none kV__law_rows_right dc__law_rows_right pm__law_rows_right an__law_rows_right cd__law_rows_right ct__law_rows_right, f__law_due := f__law_due, d__law_due := PySem.W.fnOf "_law_due" "_law_due" (defArgs st__law_due) (defBody st__law_due) (defScope st__law_due) .none kV__law_due dc__law_due pm__law_due an__law_due cd__law_due ct__law_due, f__law_drawn_word := f__law_drawn_word, d__law_drawn_word := PySem.W.fnOf "_law_drawn_word" "_law_drawn_word" (defArgs st__law_drawn_word) (defBody st__law_drawn_word) (defScope st__law_drawn_word) .none kV__law_drawn_word dc__law_drawn_word pm__law_drawn_word an__law_drawn_word cd__law_drawn_word ct__law_drawn_word, f__law_refused := f__law_refused, d__law_refused := PySem.W.fnOf "_law_refused" "_law_refused" (defArgs st__law_refused) (defBody st__law_refused) (defScope st__law_refused) .none kV__law_refused dc__law_refused pm__law_refused an__law_refused cd__law_refused ct__law_refused, f__law_right := f__law_right, d__law_right := PySem.W.fnOf "_law_right" "_law_right" (defArgs st__law_right) (defBody st__law_right) (defScope st__law_right) .none kV__law_right dc__law_right pm__law_right an__law_right cd__law_right ct__law_right, f_law := fa, d_law := PySem.W.fnOf "law" "law" (defArgs st_law) (defBody st_law) (defScope st_law) .none kV_law dc_law pm_law an_law cd_law ct_law, t_LINE_END := t_LINE_END, a_MOST := a_MOST, t_PLAIN := t_PLAIN, t_NOTED := t_NOTED, t_LOOSE := t_LOOSE, t_MOST_WORDS := t_MOST_WORDS, t_LONGEST_WORD := t_LONGEST_WORD, t_FAR := t_FAR, t_LONGEST := t_LONGEST } := {
    F_NoWriting_init := fun_mk (st := st_NoWriting_init) l_NoWriting_init c_NoWriting_init k_NoWriting_init,
    F_are_signs := fun_mk (st := st_are_signs) l_are_signs c_are_signs k_are_signs,
    f_are_signs := ⟨PySem.W.mg_of X G a_are_signs, k_are_signs⟩,
    F_Rules_init := ⟨⟨_, _, _, _, _, _, _, _, _, _, rfl, l_Rules_init, c_Rules_init, .inr ⟨by decide, T_Rules_init, _, _, _, rfl, d_Rules_init, rfl, .cons ⟨_, rfl⟩ (.cons ⟨_, rfl⟩ (.cons ⟨_, rfl⟩ (.cons ⟨_, rfl⟩ (.cons ⟨_, rfl⟩ (.nil)))))⟩, .inl rfl⟩, k_Rules_init⟩,
    F_Rules_told := fun_mk (st := st_Rules_told) l_Rules_told c_Rules_told k_Rules_told,
    m_Rules_told := ⟨a_Rules_told, i_Rules_told, k_Rules_told⟩,
    F_Rules_quotes := fun_mk (st := st_Rules_quotes) l_Rules_quotes c_Rules_quotes k_Rules_quotes,
    m_Rules_quotes := ⟨a_Rules_quotes, i_Rules_quotes, k_Rules_quotes⟩,
    F_Rules_special := fun_mk (st := st_Rules_special) l_Rules_special c_Rules_special k_Rules_special,
    m_Rules_special := ⟨a_Rules_special, i_Rules_special, k_Rules_special⟩,
    F_Machine_init := fun_mk (st := st_Machine_init) l_Machine_init c_Machine_init k_Machine_init,
    F_Machine_begin := fun_mk (st := st_Machine_begin) l_Machine_begin c_Machine_begin k_Machine_begin,
    m_Machine_begin := ⟨a_Machine_begin, i_Machine_begin, k_Machine_begin⟩,
    F_Machine_ended := fun_mk (st := st_Machine_ended) l_Machine_ended c_Machine_ended k_Machine_ended,
    m_Machine_ended := ⟨a_Machine_ended, i_Machine_ended, k_Machine_ended⟩,
    F_Machine_plain := fun_mk (st := st_Machine_plain) l_Machine_plain c_Machine_plain k_Machine_plain,
    m_Machine_plain := ⟨a_Machine_plain, i_Machine_plain, k_Machine_plain⟩,
    F_Machine_quoted := fun_mk (st := st_Machine_quoted) l_Machine_quoted c_Machine_quoted k_Machine_quoted,
    m_Machine_quoted := ⟨a_Machine_quoted, i_Machine_quoted, k_Machine_quoted⟩,
    F_Machine_step := fun_mk (st := st_Machine_step) l_Machine_step c_Machine_step k_Machine_step,
    m_Machine_step := ⟨a_Machine_step, i_Machine_step, k_Machine_step⟩,
    F_Machine_fault := fun_mk (st := st_Machine_fault) l_Machine_fault c_Machine_fault k_Machine_fault,
    m_Machine_fault := ⟨a_Machine_fault, i_Machine_fault, k_Machine_fault⟩,
    F_read_all := fun_mk (st := st_read_all) l_read_all c_read_all k_read_all,
    f_read_all := ⟨PySem.W.mg_of X G a_read_all, k_read_all⟩,
    F_states_of := fun_mk (st := st_states_of) l_states_of c_states_of k_states_of,
    f_states_of := ⟨PySem.W.mg_of X G a_states_of, k_states_of⟩,
    F_cost_of := fun_mk (st := st_cost_of) l_cost_of c_cost_of k_cost_of,
    f_cost_of := ⟨PySem.W.mg_of X G a_cost_of, k_cost_of⟩,
    F_entered := fun_mk (st := st_entered) l_entered c_entered k_entered,
    f_entered := ⟨PySem.W.mg_of X G a_entered, k_entered⟩,
    F_cannot := fun_mk (st := st_cannot) l_cannot c_cannot k_cannot,
    f_cannot := ⟨PySem.W.mg_of X G a_cannot, k_cannot⟩,
    F_heights_of := fun_mk (st := st_heights_of) l_heights_of c_heights_of k_heights_of,
    f_heights_of := ⟨PySem.W.mg_of X G a_heights_of, k_heights_of⟩,
    F_written_by := fun_mk (st := st_written_by) l_written_by c_written_by k_written_by,
    f_written_by := ⟨PySem.W.mg_of X G a_written_by, k_written_by⟩,
    F_Words_init := fun_mk (st := st_Words_init) l_Words_init c_Words_init k_Words_init,
    F_Words_shows := fun_mk (st := st_Words_shows) l_Words_shows c_Words_shows k_Words_shows,
    m_Words_shows := ⟨a_Words_shows, i_Words_shows, k_Words_shows⟩,
    F_Fault_init := fun_mk (st := st_Fault_init) l_Fault_init c_Fault_init k_Fault_init,
    F_Fault_shows := fun_mk (st := st_Fault_shows) l_Fault_shows c_Fault_shows k_Fault_shows,
    m_Fault_shows := ⟨a_Fault_shows, i_Fault_shows, k_Fault_shows⟩,
    F_row_right := fun_mk (st := st_row_right) l_row_right c_row_right k_row_right,
    f_row_right := ⟨PySem.W.mg_of X G a_row_right, k_row_right⟩,
    F_Shortest_init := fun_mk (st := st_Shortest_init) l_Shortest_init c_Shortest_init k_Shortest_init,
    F_Shortest_shaped := fun_mk (st := st_Shortest_shaped) l_Shortest_shaped c_Shortest_shaped k_Shortest_shaped,
    m_Shortest_shaped := ⟨a_Shortest_shaped, i_Shortest_shaped, k_Shortest_shaped⟩,
    F_Shortest_shows := fun_mk (st := st_Shortest_shows) l_Shortest_shows c_Shortest_shows k_Shortest_shows,
    m_Shortest_shows := ⟨a_Shortest_shows, i_Shortest_shows, k_Shortest_shows⟩,
    F_one_written := fun_mk (st := st_one_written) l_one_written c_one_written k_one_written,
    f_one_written := ⟨PySem.W.mg_of X G a_one_written, k_one_written⟩,
    F_shortest := fun_mk (st := st_shortest) l_shortest c_shortest k_shortest,
    f_shortest := ⟨PySem.W.mg_of X G a_shortest, k_shortest⟩,
    F_split := fun_mk (st := st_split) l_split c_split k_split,
    f_split := ⟨PySem.W.mg_of X G a_split, k_split⟩,
    F__law_cell_at := fun_mk (st := st__law_cell_at) l__law_cell_at c__law_cell_at k__law_cell_at,
    f__law_cell_at := ⟨PySem.W.mg_of X G a__law_cell_at, k__law_cell_at⟩,
    F__law_draw := fun_mk (st := st__law_draw) l__law_draw c__law_draw k__law_draw,
    f__law_draw := ⟨PySem.W.mg_of X G a__law_draw, k__law_draw⟩,
    F__law_number := fun_mk (st := st__law_number) l__law_number c__law_number k__law_number,
    f__law_number := ⟨PySem.W.mg_of X G a__law_number, k__law_number⟩,
    F__law_next := fun_mk (st := st__law_next) l__law_next c__law_next k__law_next,
    f__law_next := ⟨PySem.W.mg_of X G a__law_next, k__law_next⟩,
    F__law_told := fun_mk (st := st__law_told) l__law_told c__law_told k__law_told,
    f__law_told := ⟨PySem.W.mg_of X G a__law_told, k__law_told⟩,
    F__law_text := fun_mk (st := st__law_text) l__law_text c__law_text k__law_text,
    f__law_text := ⟨PySem.W.mg_of X G a__law_text, k__law_text⟩,
    F__law_rules := fun_mk (st := st__law_rules) l__law_rules c__law_rules k__law_rules,
    f__law_rules := ⟨PySem.W.mg_of X G a__law_rules, k__law_rules⟩,
    F__law_quoted := fun_mk (st := st__law_quoted) l__law_quoted c__law_quoted k__law_quoted,
    f__law_quoted := ⟨PySem.W.mg_of X G a__law_quoted, k__law_quoted⟩,
    F__law_word := fun_mk (st := st__law_word) l__law_word c__law_word k__law_word,
    f__law_word := ⟨PySem.W.mg_of X G a__law_word, k__law_word⟩,
    F__law_read := fun_mk (st := st__law_read) l__law_read c__law_read k__law_read,
    f__law_read := ⟨PySem.W.mg_of X G a__law_read, k__law_read⟩,
    F__law_states := fun_mk (st := st__law_states) l__law_states c__law_states k__law_states,
    f__law_states := ⟨PySem.W.mg_of X G a__law_states, k__law_states⟩,
    F__law_costs := fun_mk (st := st__law_costs) l__law_costs c__law_costs k__law_costs,
    f__law_costs := ⟨PySem.W.mg_of X G a__law_costs, k__law_costs⟩,
    F__law_writable := fun_mk (st := st__law_writable) l__law_writable c__law_writable k__law_writable,
    f__law_writable := ⟨PySem.W.mg_of X G a__law_writable, k__law_writable⟩,
    F__law_least := fun_mk (st := st__law_least) l__law_least c__law_least k__law_least,
    f__law_least := ⟨PySem.W.mg_of X G a__law_least, k__law_least⟩,
    F__law_rows_right := fun_mk (st := st__law_rows_right) l__law_rows_right c__law_rows_right k__law_rows_right,
    f__law_rows_right := ⟨PySem.W.mg_of X G a__law_rows_right, k__law_rows_right⟩,
    F__law_due := fun_mk (st := st__law_due) l__law_due c__law_due k__law_due,
    f__law_due := ⟨PySem.W.mg_of X G a__law_due, k__law_due⟩,
    F__law_drawn_word := fun_mk (st := st__law_drawn_word) l__law_drawn_word c__law_drawn_word k__law_drawn_word,
    f__law_drawn_word := ⟨PySem.W.mg_of X G a__law_drawn_word, k__law_drawn_word⟩,
    F__law_refused := fun_mk (st := st__law_refused) l__law_refused c__law_refused k__law_refused,
    f__law_refused := ⟨PySem.W.mg_of X G a__law_refused, k__law_refused⟩,
    F__law_right := fun_mk (st := st__law_right) l__law_right c__law_right k__law_right,
    f__law_right := ⟨PySem.W.mg_of X G a__law_right, k__law_right⟩,
    F_law := fun_mk (st := st_law) l_law c_law k_law,
    f_law := ⟨PySem.W.mg_of X G a_law, k_law⟩,
    c_Rules := ⟨PySem.W.mg_of X G aC_Rules, ⟨pg_Rules, hd_Rules, po_Rules, sa_Rules⟩, ⟨mk_Rules, a_Rules_init, i_Rules_init, kc_Rules⟩⟩,
    n_Rules_breaks := n_Rules_breaks,
    n_Rules_hard := n_Rules_hard,
    n_Rules_soft := n_Rules_soft,
    n_Rules_bend := n_Rules_bend,
    n_Rules_note := n_Rules_note,
    c_Machine := ⟨PySem.W.mg_of X G aC_Machine, ⟨pg_Machine, hd_Machine, po_Machine, sa_Machine⟩, ⟨mk_Machine, a_Machine_init, i_Machine_init, kc_Machine⟩⟩,
    n_Machine_rules := n_Machine_rules,
    n_Machine_state := n_Machine_state,
    n_Machine_bent := n_Machine_bent,
    n_Machine_word := n_Machine_word,
    n_Machine_begun := n_Machine_begun,
    n_Machine_opened := n_Machine_opened,
    n_Machine_place := n_Machine_place,
    c_Words := ⟨PySem.W.mg_of X G aC_Words, ⟨pg_Words, hd_Words, po_Words, sa_Words⟩, ⟨mk_Words, a_Words_init, i_Words_init, kc_Words⟩⟩,
    n_Words_words := n_Words_words,
    n_Words_places := n_Words_places,
    c_Fault := ⟨PySem.W.mg_of X G aC_Fault, ⟨pg_Fault, hd_Fault, po_Fault, sa_Fault⟩, ⟨mk_Fault, a_Fault_init, i_Fault_init, kc_Fault⟩⟩,
    n_Fault_place := n_Fault_place,
    c_Shortest := ⟨PySem.W.mg_of X G aC_Shortest, ⟨pg_Shortest, hd_Shortest, po_Shortest, sa_Shortest⟩, ⟨mk_Shortest, a_Shortest_init, i_Shortest_init, kc_Shortest⟩⟩,
    n_Shortest_text := n_Shortest_text,
    n_Shortest_heights := n_Shortest_heights,
    g_LINE_END := PySem.W.mg_of X G g_LINE_END,
    g_MOST := PySem.W.mg_of X G g_MOST,
    s_MOST := fun H => .inr ⟨_, _, _, s_MOST, rfl, rfl, (show 5 ≤ sizeLine by decide), .cons ⟨_, rfl⟩ (.cons ⟨_, rfl⟩ (.cons ⟨_, rfl⟩ (.cons ⟨_, rfl⟩ (.cons ⟨_, rfl⟩ (.nil)))))⟩,
    g_PLAIN := PySem.W.mg_of X G g_PLAIN,
    g_NOTED := PySem.W.mg_of X G g_NOTED,
    g_LOOSE := PySem.W.mg_of X G g_LOOSE,
    g_MOST_WORDS := PySem.W.mg_of X G g_MOST_WORDS,
    g_LONGEST_WORD := PySem.W.mg_of X G g_LONGEST_WORD,
    g_FAR := PySem.W.mg_of X G g_FAR,
    g_LONGEST := PySem.W.mg_of X G g_LONGEST,
    b_isinstance := PySem.W.mg_none_of X G b_isinstance,
    b_all := PySem.W.mg_none_of X G b_all,
    b_any := PySem.W.mg_none_of X G b_any,
    b_zip := PySem.W.mg_none_of X G b_zip,
    b_len := PySem.W.mg_none_of X G b_len,
    b_set := PySem.W.mg_none_of X G b_set,
    b_str := PySem.W.mg_none_of X G b_str,
    b_list := PySem.W.mg_none_of X G b_list,
    b_range := PySem.W.mg_none_of X G b_range,
    b_int := PySem.W.mg_none_of X G b_int,
    b_tuple := PySem.W.mg_none_of X G b_tuple,
    b_max := PySem.W.mg_none_of X G b_max,
    b_min := PySem.W.mg_none_of X G b_min,
    b_sum := PySem.W.mg_none_of X G b_sum,
    b_enumerate := PySem.W.mg_none_of X G b_enumerate,
    c_Answer := ⟨PySem.W.mg_of X G aC_Answer⟩,
    i_Words := ⟨i_Wordsha, objGet, objTak, i_Wordshm⟩,
    i_Fault := ⟨i_Faultha, objGet, objTak, i_Faulthm⟩,
    k_WW := if_pos (beq_self_eq_true _),
    k_WF := kit_own ne_k_WF hd_Fault ty_Fault m_k_WF,
    k_WA := kit_own ne_k_WA hd_Answer ty_Answer m_k_WA,
    k_FF := if_pos (beq_self_eq_true _),
    k_FW := kit_own ne_k_FW hd_Words ty_Words m_k_FW,
    k_FA := kit_own ne_k_FA hd_Answer ty_Answer m_k_FA,
    i_Shortest := ⟨i_Shortestha, objGet, objTak, i_Shortesthm⟩,
    k_SA := kit_own ne_k_SA hd_Answer ty_Answer m_k_SA,
    k_SS := if_pos (beq_self_eq_true _),
    eg_QuoteError := ⟨PySem.W.mg_of X G aC_QuoteError⟩,
    ea_QuoteError := ea_QuoteError,
    eb_QuoteError := eb_QuoteError,
    ec_QuoteError := ec_QuoteError,
    ed_QuoteError := ed_QuoteError,
    ee_QuoteError := ee_QuoteError,
    ef_QuoteError := ef_QuoteError,
    eh_QuoteError := eh_QuoteError,
    ei_QuoteError := ei_QuoteError,
    es_QuoteError_QuoteError := es_QuoteError_QuoteError,
    eg_NoWriting := ⟨PySem.W.mg_of X G aC_NoWriting⟩,
    ea_NoWriting := ea_NoWriting,
    eb_NoWriting := eb_NoWriting,
    ec_NoWriting := ec_NoWriting,
    ed_NoWriting := ed_NoWriting,
    ee_NoWriting := ee_NoWriting,
    ef_NoWriting := ef_NoWriting,
    eh_NoWriting := eh_NoWriting,
    ei_NoWriting := ei_NoWriting,
    es_NoWriting_QuoteError := es_NoWriting_QuoteError,
    xc_NoWriting := ⟨nmE, qE, NE, bsE, _, snE, subE, abE, colE, ddE, m0E, m1E, m2E, m3E, m5E, xL_NoWriting, by first | rfl | kernel_rfl⟩,
    sa_NoWriting := sa_NoWriting,
    at_NoWriting := at_NoWriting,
    ti_NoWriting := ti_NoWriting,
    ui_NoWriting := ui_NoWriting,
    qr_QuoteError := qr_QuoteError,
    qg_QuoteError := qg_QuoteError,
    qv_QuoteError := qv_QuoteError }
  exact ⟨_, fun s v => .of_eq rfl, fun base _ _ => ok_law T⟩
theorem walk {l : PySem.W.OpenLaw} {q : Program} {loose : List Str} {XP : (Str → Option Value) → Heap → Prop} {YP : World → Heap → Prop} {d : DefRec} {K : Params → PySem.W.Frag} (hn : l.most = some 63)
    (hdf : d.params.defaults = []) (hY : ∀ (w : World) (h : Heap), YP w h → (K w.params).In h)
    (F : ∀ (w : World) (mg : Str → Option Value) (fa : Addr) (h : Heap), (K w.params).In h → h.Ns mainGlobals mg → mg d.name = some (.ref fa) →
      ∃ fd : FuncData, (∀ (s : Shared) (v : Value), BindsTo s fd ⟨[v], []⟩ [("_law_script", v)]) ∧ ∀ base : Heap, (K w.params).In base → base.Ns mainGlobals mg → FnG l.prog w (K w.params) mg base 9 fa fd ["_law_script"] (sp_law (K w.params))) :
    PySem.W.WalkO q loose XP YP l.row.toRowW d [] (fun f vs => PySem.call f vs) :=
  walk_ofG (n := 63) (k := 9) (x := "_law_script") hn (by decide) hdf ⟨rfl, by decide, by decide⟩ fun w mg fa h Y G hm => by
    obtain ⟨fd, h1, h2⟩ := F w mg fa h (hY w h Y) G hm
    exact ⟨K w.params, fd, sp_law _, hY w h Y, h1, fun H a ns hl _ hO hS => ⟨ns, a, rfl, hO, hS, hl, fun _ => rfl⟩, h2⟩
end Qw

set_option Elab.async false
set_option linter.all false
set_option maxRecDepth 100000
open PySem PySem.W PyProof.Rows
set_option pp.maxSteps 300
set_option pp.deepTerms false
set_option maxHeartbeats 0 in
theorem PySem.Challenge.cw_quotewords_k03_whole_shortest_holds : PySem.Challenge.rw_quotewords_k03_whole_shortest.Holds := by
  w_on; o_law; k_head; (case hw => w_witness2)
  k_fill
  refine Qw.walk (l := PySem.Challenge.rw_quotewords_k03_whole_shortest) rfl rfl (fun w h Y => PySem.W.kIn_of Y) ?F
  case F =>
    intro w mg fa h KX G hmg
    refine' Qw.all_mk (P := PySem.Challenge.rw_quotewords_k03_whole_shortest.prog) KX G hmg ?aC_QuoteError ?aC_NoWriting ?aC_Rules ?aC_Machine ?aC_Answer ?aC_Words ?aC_Fault ?aC_Shortest ?a_NoWriting_init ?i_NoWriting_init ?l_NoWriting_init ?c_NoWriting_init ?k_NoWriting_init ?a_are_signs ?l_are_signs ?c_are_signs ?k_are_signs ?a_Rules_init ?i_Rules_init ?l_Rules_init ?d_Rules_init ?c_Rules_init ?k_Rules_init ?a_Rules_told ?i_Rules_told ?l_Rules_told ?c_Rules_told ?k_Rules_told ?a_Rules_quotes ?i_Rules_quotes ?l_Rules_quotes ?c_Rules_quotes ?k_Rules_quotes ?a_Rules_special ?i_Rules_special ?l_Rules_special ?c_Rules_special ?k_Rules_special ?a_Machine_init ?i_Machine_init ?l_Machine_init ?c_Machine_init ?k_Machine_init ?a_Machine_begin ?i_Machine_begin ?l_Machine_begin ?c_Machine_begin ?k_Machine_begin ?a_Machine_ended ?i_Machine_ended ?l_Machine_ended ?c_Machine_ended ?k_Machine_ended ?a_Machine_plain ?i_Machine_plain ?l_Machine_plain ?c_Machine_plain ?k_Machine_plain ?a_Machine_quoted ?i_Machine_quoted ?l_Machine_quoted ?c_Machine_quoted ?k_Machine_quoted ?a_Machine_step ?i_Machine_step ?l_Machine_step ?c_Machine_step ?k_Machine_step ?a_Machine_fault ?i_Machine_fault ?l_Machine_fault ?c_Machine_fault ?k_Machine_fault ?a_read_all ?l_read_all ?c_read_all ?k_read_all ?a_states_of ?l_states_of ?c_states_of ?k_states_of ?a_cost_of ?l_cost_of ?c_cost_of ?k_cost_of ?a_entered ?l_entered ?c_entered ?k_entered ?a_cannot ?l_cannot ?c_cannot ?k_cannot ?a_heights_of ?l_heights_of ?c_heights_of ?k_heights_of ?a_written_by ?l_written_by ?c_written_by ?k_written_by ?a_Words_init ?i_Words_init ?l_Words_init ?c_Words_init ?k_Words_init ?a_Words_shows ?i_Words_shows ?l_Words_shows ?c_Words_shows ?k_Words_shows ?a_Fault_init ?i_Fault_init ?l_Fault_init ?c_Fault_init ?k_Fault_init ?a_Fault_shows ?i_Fault_shows ?l_Fault_shows ?c_Fault_shows ?k_Fault_shows ?a_row_right ?l_row_right ?c_row_right ?k_row_right ?a_Shortest_init ?i_Shortest_init ?l_Shortest_init ?c_Shortest_init ?k_Shortest_init ?a_Shortest_shaped ?i_Shortest_shaped ?l_Shortest_shaped ?c_Shortest_shaped ?k_Shortest_shaped ?a_Shortest_shows ?i_Shortest_shows ?l_Shortest_shows ?c_Shortest_shows ?k_Shortest_shows ?a_one_written ?l_one_written ?c_one_written ?k_one_written ?a_shortest ?l_shortest ?c_shortest ?k_shortest ?a_split ?l_split ?c_split ?k_split ?a__law_cell_at ?l__law_cell_at ?c__law_cell_at ?k__law_cell_at ?a__law_draw ?l__law_draw ?c__law_draw ?k__law_draw ?a__law_number ?l__law_number ?c__law_number ?k__law_number ?a__law_next ?l__law_next ?c__law_next ?k__law_next ?a__law_told ?l__law_told ?c__law_told ?k__law_told ?a__law_text ?l__law_text ?c__law_text ?k__law_text ?a__law_rules ?l__law_rules ?c__law_rules ?k__law_rules ?a__law_quoted ?l__law_quoted ?c__law_quoted ?k__law_quoted ?a__law_word ?l__law_word ?c__law_word ?k__law_word ?a__law_read ?l__law_read ?c__law_read ?k__law_read ?a__law_states ?l__law_states ?c__law_states ?k__law_states ?a__law_costs ?l__law_costs ?c__law_costs ?k__law_costs ?a__law_writable ?l__law_writable ?c__law_writable ?k__law_writable ?a__law_least ?l__law_least ?c__law_least ?k__law_least ?a__law_rows_right ?l__law_rows_right ?c__law_rows_right ?k__law_rows_right ?a__law_due ?l__law_due ?c__law_due ?k__law_due ?a__law_drawn_word ?l__law_drawn_word ?c__law_drawn_word ?k__law_drawn_word ?a__law_refused ?l__law_refused ?c__law_refused ?k__law_refused ?a__law_right ?l__law_right ?c__law_right ?k__law_right ?a_law ?l_law ?c_law ?k_law ?pg_Rules ?hd_Rules ?po_Rules ?sa_Rules ?mk_Rules ?kc_Rules ?n_Rules_breaks ?n_Rules_hard ?n_Rules_soft ?n_Rules_bend ?n_Rules_note ?pg_Machine ?hd_Machine ?po_Machine ?sa_Machine ?mk_Machine ?kc_Machine ?n_Machine_rules ?n_Machine_state ?n_Machine_bent ?n_Machine_word ?n_Machine_begun ?n_Machine_opened ?n_Machine_place ?pg_Words ?hd_Words ?po_Words ?sa_Words ?mk_Words ?kc_Words ?n_Words_words ?n_Words_places ?pg_Fault ?hd_Fault ?po_Fault ?sa_Fault ?mk_Fault ?kc_Fault ?n_Fault_place ?pg_Shortest ?hd_Shortest ?po_Shortest ?sa_Shortest ?mk_Shortest ?kc_Shortest ?n_Shortest_text ?n_Shortest_heights ?g_LINE_END ?g_MOST ?s_MOST ?g_PLAIN ?g_NOTED ?g_LOOSE ?g_MOST_WORDS ?g_LONGEST_WORD ?g_FAR ?g_LONGEST ?b_isinstance ?b_all ?b_any ?b_zip ?b_len ?b_set ?b_str ?b_list ?b_range ?b_int ?b_tuple ?b_max ?b_min ?b_sum ?b_enumerate ?i_Wordsha ?i_Wordshm ?objGet ?objTak ?i_Faultha ?i_Faulthm ?m_k_WF ?ty_Fault ?ne_k_WF ?m_k_WA ?ty_Answer ?hd_Answer ?ne_k_WA ?m_k_FW ?ty_Words ?ne_k_FW ?m_k_FA ?ne_k_FA ?i_Shortestha ?i_Shortesthm ?m_k_SA ?ne_k_SA ?ea_QuoteError ?eb_QuoteError ?ec_QuoteError ?ed_QuoteError ?ee_QuoteError ?ef_QuoteError ?eh_QuoteError ?ei_QuoteError ?es_QuoteError_QuoteError ?ea_NoWriting ?eb_NoWriting ?ec_NoWriting ?ed_NoWriting ?ee_NoWriting ?ef_NoWriting ?eh_NoWriting ?ei_NoWriting ?es_NoWriting_QuoteError ?xL_NoWriting ?sa_NoWriting ?at_NoWriting ?ti_NoWriting ?ui_NoWriting ?qr_QuoteError ?qg_QuoteError ?qv_QuoteError
    (case aC_QuoteError => k_is)
    (case aC_NoWriting => k_is)
    (case aC_Rules => k_is)
    (case aC_Machine => k_is)
    (case aC_Answer => k_is)
    (case aC_Words => k_is)
    (case aC_Fault => k_is)
    (case aC_Shortest => k_is)
    (case a_NoWriting_init => k_is)
    (case i_NoWriting_init => k_is)
    (case l_NoWriting_init => k_is)
    (case c_NoWriting_init => k_is)
    (case k_NoWriting_init => k_is)
    (case a_are_signs => k_is)
    (case l_are_signs => k_is)
    (case c_are_signs => k_is)
    (case k_are_signs => k_is)
    (case a_Rules_init => k_is)
    (case i_Rules_init => k_is)
    (case l_Rules_init => k_is)
    (case d_Rules_init => k_is)
    (case c_Rules_init => k_is)
    (case k_Rules_init => k_is)
    (case a_Rules_told => k_is)
    (case i_Rules_told => k_is)
    (case l_Rules_told => k_is)
    (case c_Rules_told => k_is)
    (case k_Rules_told => k_is)
    (case a_Rules_quotes => k_is)
    (case i_Rules_quotes => k_is)
    (case l_Rules_quotes => k_is)
    (case c_Rules_quotes => k_is)
    (case k_Rules_quotes => k_is)
    (case a_Rules_special => k_is)
    (case i_Rules_special => k_is)
    (case l_Rules_special => k_is)
    (case c_Rules_special => k_is)
    (case k_Rules_special => k_is)
    (case a_Machine_init => k_is)
    (case i_Machine_init => k_is)
    (case l_Machine_init => k_is)
    (case c_Machine_init => k_is)
    (case k_Machine_init => k_is)
    (case a_Machine_begin => k_is)
    (case i_Machine_begin => k_is)
    (case l_Machine_begin => k_is)
    (case c_Machine_begin => k_is)
    (case k_Machine_begin => k_is)
    (case a_Machine_ended => k_is)
    (case i_Machine_ended => k_is)
    (case l_Machine_ended => k_is)
    (case c_Machine_ended => k_is)
    (case k_Machine_ended => k_is)
    (case a_Machine_plain => k_is)
    (case i_Machine_plain => k_is)
    (case l_Machine_plain => k_is)
    (case c_Machine_plain => k_is)
    (case k_Machine_plain => k_is)
    (case a_Machine_quoted => k_is)
    (case i_Machine_quoted => k_is)
    (case l_Machine_quoted => k_is)
    (case c_Machine_quoted => k_is)
    (case k_Machine_quoted => k_is)
    (case a_Machine_step => k_is)
    (case i_Machine_step => k_is)
    (case l_Machine_step => k_is)
    (case c_Machine_step => k_is)
    (case k_Machine_step => k_is)
    (case a_Machine_fault => k_is)
    (case i_Machine_fault => k_is)
    (case l_Machine_fault => k_is)
    (case c_Machine_fault => k_is)
    (case k_Machine_fault => k_is)
    (case a_read_all => k_is)
    (case l_read_all => k_is)
    (case c_read_all => k_is)
    (case k_read_all => k_is)
    (case a_states_of => k_is)
    (case l_states_of => k_is)
    (case c_states_of => k_is)
    (case k_states_of => k_is)
    (case a_cost_of => k_is)
    (case l_cost_of => k_is)
    (case c_cost_of => k_is)
    (case k_cost_of => k_is)
    (case a_entered => k_is)
    (case l_entered => k_is)
    (case c_entered => k_is)
    (case k_entered => k_is)
    (case a_cannot => k_is)
    (case l_cannot => k_is)
    (case c_cannot => k_is)
    (case k_cannot => k_is)
    (case a_heights_of => k_is)
    (case l_heights_of => k_is)
    (case c_heights_of => k_is)
    (case k_heights_of => k_is)
    (case a_written_by => k_is)
    (case l_written_by => k_is)
    (case c_written_by => k_is)
    (case k_written_by => k_is)
    (case a_Words_init => k_is)
    (case i_Words_init => k_is)
    (case l_Words_init => k_is)
    (case c_Words_init => k_is)
    (case k_Words_init => k_is)
    (case a_Words_shows => k_is)
    (case i_Words_shows => k_is)
    (case l_Words_shows => k_is)
    (case c_Words_shows => k_is)
    (case k_Words_shows => k_is)
    (case a_Fault_init => k_is)
    (case i_Fault_init => k_is)
    (case l_Fault_init => k_is)
    (case c_Fault_init => k_is)
    (case k_Fault_init => k_is)
    (case a_Fault_shows => k_is)
    (case i_Fault_shows => k_is)
    (case l_Fault_shows => k_is)
    (case c_Fault_shows => k_is)
    (case k_Fault_shows => k_is)
    (case a_row_right => k_is)
    (case l_row_right => k_is)
    (case c_row_right => k_is)
    (case k_row_right => k_is)
    (case a_Shortest_init => k_is)
    (case i_Shortest_init => k_is)
    (case l_Shortest_init => k_is)
    (case c_Shortest_init => k_is)
    (case k_Shortest_init => k_is)
    (case a_Shortest_shaped => k_is)
    (case i_Shortest_shaped => k_is)
    (case l_Shortest_shaped => k_is)
    (case c_Shortest_shaped => k_is)
    (case k_Shortest_shaped => k_is)
    (case a_Shortest_shows => k_is)
    (case i_Shortest_shows => k_is)
    (case l_Shortest_shows => k_is)
    (case c_Shortest_shows => k_is)
    (case k_Shortest_shows => k_is)
    (case a_one_written => k_is)
    (case l_one_written => k_is)
    (case c_one_written => k_is)
    (case k_one_written => k_is)
    (case a_shortest => k_is)
    (case l_shortest => k_is)
    (case c_shortest => k_is)
    (case k_shortest => k_is)
    (case a_split => k_is)
    (case l_split => k_is)
    (case c_split => k_is)
    (case k_split => k_is)
    (case a__law_cell_at => k_is)
    (case l__law_cell_at => k_is)
    (case c__law_cell_at => k_is)
    (case k__law_cell_at => k_is)
    (case a__law_draw => k_is)
    (case l__law_draw => k_is)
    (case c__law_draw => k_is)
    (case k__law_draw => k_is)
    (case a__law_number => k_is)
    (case l__law_number => k_is)
    (case c__law_number => k_is)
    (case k__law_number => k_is)
    (case a__law_next => k_is)
    (case l__law_next => k_is)
    (case c__law_next => k_is)
    (case k__law_next => k_is)
    (case a__law_told => k_is)
    (case l__law_told => k_is)
    (case c__law_told => k_is)
    (case k__law_told => k_is)
    (case a__law_text => k_is)
    (case l__law_text => k_is)
    (case c__law_text => k_is)
    (case k__law_text => k_is)
    (case a__law_rules => k_is)
    (case l__law_rules => k_is)
    (case c__law_rules => k_is)
    (case k__law_rules => k_is)
    (case a__law_quoted => k_is)
    (case l__law_quoted => k_is)
    (case c__law_quoted => k_is)
    (case k__law_quoted => k_is)
    (case a__law_word => k_is)
    (case l__law_word => k_is)
    (case c__law_word => k_is)
    (case k__law_word => k_is)
    (case a__law_read => k_is)
    (case l__law_read => k_is)
    (case c__law_read => k_is)
    (case k__law_read => k_is)
    (case a__law_states => k_is)
    (case l__law_states => k_is)
    (case c__law_states => k_is)
    (case k__law_states => k_is)
    (case a__law_costs => k_is)
    (case l__law_costs => k_is)
    (case c__law_costs => k_is)
    (case k__law_costs => k_is)
    (case a__law_writable => k_is)
    (case l__law_writable => k_is)
    (case c__law_writable => k_is)
    (case k__law_writable => k_is)
    (case a__law_least => k_is)
    (case l__law_least => k_is)
    (case c__law_least => k_is)
    (case k__law_least => k_is)
    (case a__law_rows_right => k_is)
    (case l__law_rows_right => k_is)
    (case c__law_rows_right => k_is)
    (case k__law_rows_right => k_is)
    (case a__law_due => k_is)
    (case l__law_due => k_is)
    (case c__law_due => k_is)
    (case k__law_due => k_is)
    (case a__law_drawn_word => k_is)
    (case l__law_drawn_word => k_is)
    (case c__law_drawn_word => k_is)
    (case k__law_drawn_word => k_is)
    (case a__law_refused => k_is)
    (case l__law_refused => k_is)
    (case c__law_refused => k_is)
    (case k__law_refused => k_is)
    (case a__law_right => k_is)
    (case l__law_right => k_is)
    (case c__law_right => k_is)
    (case k__law_right => k_is)
    (case a_law => k_is)
    (case l_law => k_is)
    (case c_law => k_is)
    (case k_law => k_is)
    (case pg_Rules => k_is)
    (case hd_Rules => k_is)
    (case po_Rules => k_is)
    (case sa_Rules => k_is)
    (case mk_Rules => k_is)
    (case kc_Rules => k_is)
    (case n_Rules_breaks => k_is)
    (case n_Rules_hard => k_is)
    (case n_Rules_soft => k_is)
    (case n_Rules_bend => k_is)
    (case n_Rules_note => k_is)
    (case pg_Machine => k_is)
    (case hd_Machine => k_is)
    (case po_Machine => k_is)
    (case sa_Machine => k_is)
    (case mk_Machine => k_is)
    (case kc_Machine => k_is)
    (case n_Machine_rules => k_is)
    (case n_Machine_state => k_is)
    (case n_Machine_bent => k_is)
    (case n_Machine_word => k_is)
    (case n_Machine_begun => k_is)
    (case n_Machine_opened => k_is)
    (case n_Machine_place => k_is)
    (case pg_Words => k_is)
    (case hd_Words => k_is)
    (case po_Words => k_is)
    (case sa_Words => k_is)
    (case mk_Words => k_is)
    (case kc_Words => k_is)
    (case n_Words_words => k_is)
    (case n_Words_places => k_is)
    (case pg_Fault => k_is)
    (case hd_Fault => k_is)
    (case po_Fault => k_is)
    (case sa_Fault => k_is)
    (case mk_Fault => k_is)
    (case kc_Fault => k_is)
    (case n_Fault_place => k_is)
    (case pg_Shortest => k_is)
    (case hd_Shortest => k_is)
    (case po_Shortest => k_is)
    (case sa_Shortest => k_is)
    (case mk_Shortest => k_is)
    (case kc_Shortest => k_is)
    (case n_Shortest_text => k_is)
    (case n_Shortest_heights => k_is)
    (case g_LINE_END => k_is)
    (case g_MOST => k_is)
    (case s_MOST => k_is)
    (case g_PLAIN => k_is)
    (case g_NOTED => k_is)
    (case g_LOOSE => k_is)
    (case g_MOST_WORDS => k_is)
    (case g_LONGEST_WORD => k_is)
    (case g_FAR => k_is)
    (case g_LONGEST => k_is)
    (case b_isinstance => k_is)
    (case b_all => k_is)
    (case b_any => k_is)
    (case b_zip => k_is)
    (case b_len => k_is)
    (case b_set => k_is)
    (case b_str => k_is)
    (case b_list => k_is)
    (case b_range => k_is)
    (case b_int => k_is)
    (case b_tuple => k_is)
    (case b_max => k_is)
    (case b_min => k_is)
    (case b_sum => k_is)
    (case b_enumerate => k_is)
    (case i_Wordsha => k_is)
    (case i_Wordshm => k_is)
    (case objGet => k_is)
    (case objTak => k_is)
    (case i_Faultha => k_is)
    (case i_Faulthm => k_is)
    (case m_k_WF => k_is)
    (case ty_Fault => k_is)
    (case ne_k_WF => decide)
    (case m_k_WA => k_is)
    (case ty_Answer => k_is)
    (case hd_Answer => k_is)
    (case ne_k_WA => decide)
    (case m_k_FW => k_is)
    (case ty_Words => k_is)
    (case ne_k_FW => decide)
    (case m_k_FA => k_is)
    (case ne_k_FA => decide)
    (case i_Shortestha => k_is)
    (case i_Shortesthm => k_is)
    (case m_k_SA => k_is)
    (case ne_k_SA => decide)
    (case ea_QuoteError => k_is)
    (case eb_QuoteError => k_is)
    (case ec_QuoteError => k_is)
    (case ed_QuoteError => k_is)
    (case ee_QuoteError => k_is)
    (case ef_QuoteError => k_is)
    (case eh_QuoteError => k_is)
    (case ei_QuoteError => k_is)
    (case es_QuoteError_QuoteError => k_is)
    (case ea_NoWriting => k_is)
    (case eb_NoWriting => k_is)
    (case ec_NoWriting => k_is)
    (case ed_NoWriting => k_is)
    (case ee_NoWriting => k_is)
    (case ef_NoWriting => k_is)
    (case eh_NoWriting => k_is)
    (case ei_NoWriting => k_is)
    (case es_NoWriting_QuoteError => k_is)
    (case xL_NoWriting => k_is)
    (case sa_NoWriting => k_is)
    (case at_NoWriting => k_is)
    (case ti_NoWriting => k_is)
    (case ui_NoWriting => k_is)
    (case qr_QuoteError => k_is)
    (case qg_QuoteError => k_is)
    (case qv_QuoteError => k_is)

