import PyProof.Rows.All
import Wide.All
import OpenK.AllK
import Wide.FinOn
import HandS.ForMost
import HandS.Style
import HandS.TupAny
import HandS.IsInst
import HandS.Steps
import HandS.Walk
import HandS.Zip
import HandS.StrMore
import HandS.Defaults
import HandS.Flow
import PySem.Challenge.RW_quotewords_k08_refused
import HandS.ForExc
import HandS.ExcInit
import HandS.ExcField
import HandS.ExcIs
import HandS.EndBits
import HandS.HeadEnd
import PyProof.StrLawsFrom
import HandS.Conv
import PyProof.ListStr
import PyProof.StrOps2
import PyProof.SliceStr2
import KE.KRevSl
import KE.GoesZip
import KE.GoesMore
import KE.KExcIs
import HandS.Nested
import HandS.Lambda
import KE.KNestM
import KE.KLam
import HandS.HotCalls
import HandS.MakeKw
import HandS.MakeKwOnly
set_option Elab.async false
set_option linter.all false
set_option maxRecDepth 100000
set_option maxHeartbeats 4000000
namespace Qw
open PySem L2

/-! ### texts as lists of codes -/
abbrev Tx := List Nat
def S (l : Tx) : Str := ⟨l.toArray⟩
theorem S_tl (l : Tx) : (S l).cps.toList = l := rfl
theorem S_size (l : Tx) : (S l).cps.size = l.length := by simp [S]
theorem S_len (l : Tx) : (S l).length = l.length := by simp [S, Str.length]
theorem S_of (x : Str) : S x.cps.toList = x := by cases x; simp [S]
theorem S_app (a b : Tx) : S a ++ S b = S (a ++ b) := by
  show Str.append (S a) (S b) = _
  simp [S, Str.append]
theorem S_inj {a b : Tx} : S a = S b ↔ a = b := by
  constructor
  · intro h
    have := congrArg (fun x : Str => x.cps.toList) h
    simpa [S] using this
  · intro h; rw [h]
theorem S_beq (x y : Tx) : (S x == S y) = decide (x = y) := by
  by_cases h : x = y
  · subst h; simp
  · simp [h, S_inj]
theorem scal_ss (x y : Str) : scal (.str x) (.str y) = true := rfl
theorem scal_ii (x y : Int) : scal (.int x) (.int y) = true := rfl
theorem scal_bb (x y : Bool) : scal (.bl x) (.bl y) = true := rfl
theorem scal_nn : scal .non .non = true := rfl
theorem scal_in (x : Int) : scal (.int x) .non = true := rfl
theorem scal_ni (x : Int) : scal .non (.int x) = true := rfl
theorem S_one (c : Nat) : (⟨#[c]⟩ : Str) = S [c] := rfl

/-! ### heaps: what is kept -/
/-- all that was tracked, but at p, is as it was -/
def Kp (p : Addr) (H H' : Hp) : Prop := ∀ b o, H b = some o → b ≠ p → H' b = some o
theorem _root_.L2.Same.kp {H H' : Hp} (p : Addr) (h : Same H H') : Kp p H H' := fun b o e _ => h b o e
theorem Kp.trans {p : Addr} {H H1 H2 : Hp} (a : Kp p H H1) (b : Kp p H1 H2) : Kp p H H2 := fun c o e n => b c o (a c o e n) n
theorem same_new {H : Hp} {p : Addr} {o : HO} (h : H p = none) : Same H (upd H p o) := fun b u e => by
  rw [upd_ne (ne_of_none e h)]; exact e
theorem _root_.L2.Same.mut {H H' : Hp} {p : Addr} {o : HO} (e : Same H H') (h : H p = none) : Same H (upd H' p o) := fun a u ha => by
  rw [upd_ne (ne_of_none ha h)]; exact e a u ha
theorem kp_upd {H : Hp} {p : Addr} {o : HO} : Kp p H (upd H p o) := fun b u e n => by rw [upd_ne n]; exact e
theorem Kp.upd {p : Addr} {H H' : Hp} {o : HO} (a : Kp p H H') : Kp p H (L2.upd H' p o) := a.trans kp_upd
/-- the tuples stay -/
def Tk (H H' : Hp) : Prop := ∀ b xs, H b = some (.tup xs) → H' b = some (.tup xs)
theorem Tk.refl (H : Hp) : Tk H H := fun _ _ h => h
theorem Tk.trans {H H1 H2 : Hp} (a : Tk H H1) (b : Tk H1 H2) : Tk H H2 := fun c o e => b c o (a c o e)
theorem _root_.L2.Same.tk {H H' : Hp} (h : Same H H') : Tk H H' := fun b xs e => h b _ e
theorem Kp.tk {p : Addr} {H H' : Hp} (h : Kp p H H') {o : HO} (e : H p = some o) (no : ∀ xs, o ≠ .tup xs) : Tk H H' := fun b xs q => by
  refine h b _ q fun z => ?_
  subst z; rw [e] at q; exact no xs (Option.some.inj q)
theorem upd_old {H : Hp} {p q : Addr} {o u : HO} (h : H p = some o) (n : H q = none) : upd H q u p = some o := by
  rw [upd_ne (ne_of_none h n)]; exact h
theorem upd_old' {H : Hp} {p q : Addr} {o u : HO} (h : H p = some o) (n : p ≠ q) : upd H q u p = some o := by
  rw [upd_ne n]; exact h
theorem none_upd {H : Hp} {p q : Addr} {o : HO} (h : upd H p o q = none) : H q = none := by
  unfold upd at h; split at h
  · cases h
  · exact h
theorem none_upd' {H : Hp} {p q : Addr} {o : HO} (h : upd H p o q = none) (_ : q ≠ p) : H q = none := none_upd h
theorem ne_upd {H : Hp} {p q : Addr} {o : HO} (h : upd H p o q = none) : q ≠ p := by
  rintro rfl; rw [upd_same] at h; cases h

theorem small_line {n : Nat} (h : n ≤ 1000000) : (n ≤ sizeLine) = True := eq_true (Nat.le_trans h (by decide))
theorem small_lt {n : Nat} (h : n < 1000000) : (n < sizeLine) = True := eq_true (Nat.lt_of_lt_of_le h (by decide))
theorem pl2 {f : Str} {v : V} {fs : List (Str × V)} {k n : Nat} (h : fs.length + (k + 1) < n) : (putF f v fs).length + k < n := by have := length_putF f v fs; omega
end Qw

set_option Elab.async false
set_option linter.all false
set_option maxRecDepth 100000
set_option maxHeartbeats 4000000
namespace Qw
open PySem L2
theorem take_at {α : Type} : ∀ {l : List α} {i : Nat} {x : α}, l[i]? = some x → l.take (i + 1) = l.take i ++ [x]
  | [], i, x, h => by simp at h
  | a :: l, 0, x, h => by
    cases (Option.some.inj h : a = x)
    rfl
  | a :: l, i + 1, x, h => by
    have ih := take_at (l := l) (i := i) (x := x) h
    simp only [List.take_succ_cons, List.cons_append, List.cons.injEq, true_and]
    exact ih
/-- a comprehension that maps: each turn gives F of the i-th of as, and changes nothing that was there -/
theorem lc_map {α : Type} {J : It} {G : Hp → Prop} {Y : Nat → Hp → V → Hp → Prop} {g : TG} {tt : TT} {te : TE} {vs : List Nat} {σ : St} {H1 : Hp} {D : Addr} {Qd : Hp → Prop}
    (as : List α) (F : α → V) (w : Walk J as.length G Y) (hz : as.length ≤ 1000000) (h1 : H1 D = none) (hG : ∀ H, Same H1 H → G H)
    (hs : ∀ (R : VK) (R' : Hp → Prop) i a x H H', as[i]? = some a → Same H1 H → Y i H x H' → (∀ H4, Same H H4 → R (F a) H4) →
      g x (wipe σ vs) H' fun σ2 H2 => wipe σ2 vs = wipe σ vs ∧ tt σ2 H2 fun b H3 => if b = true then te σ2 H3 R else R' H3)
    (hd : ∀ H, Same H1 H → H D = some (.lst (as.map F)) → Qd H) :
    ∃ W : Nat → Nat → Hp → Prop, (∃ m, W 0 m (upd H1 D (.lst []))) ∧ ∀ i m H, W i m H →
      (J.stop i H ∧ Qd H) ∨ (J.go i H ∧ ∃ Nx : Hp → Prop, (∀ H', Nx H' → ∃ m', m' < m ∧ W (i + 1) m' H') ∧ ∀ x H', J.yld i H x H' → g x (wipe σ vs) H' fun σ2 H2 => wipe σ2 vs = wipe σ vs ∧ tt σ2 H2 fun b H3 =>
        if b = true then te σ2 H3 fun y H4 => ∃ acc, H4 D = some (.lst acc) ∧ acc.length < sizeLine ∧ Nx (upd H4 D (.lst (acc ++ [y]))) else Nx H3) := by
  refine lc_it w (fun i H => Same H1 H ∧ H D = some (.lst ((as.take i).map F))) ⟨same_new h1, upd_same⟩ (fun _ H _ p => hG H p.1) ?_ fun H p => hd H p.1 (by rw [List.take_length] at p; exact p.2)
  rintro i x H H' hi ⟨p1, p2⟩ y
  obtain ⟨a, ha⟩ : ∃ a, as[i]? = some a := ⟨as[i], List.getElem?_eq_getElem hi⟩
  refine hs _ _ i a x H H' ha p1 y fun H4 s4 => ⟨_, s4 _ _ p2, ?_, ?_, ?_⟩
  · rw [List.length_map, List.length_take]
    exact Nat.lt_of_lt_of_le (show min i as.length < 1000001 by omega) (by decide)
  · exact Same.mut (p1.trans s4) h1
  · rw [upd_same, take_at ha, List.map_append]
    rfl
theorem tlc_map {α : Type} {wi : TI} {J : It} {G : Hp → Prop} {Y : Nat → Hp → V → Hp → Prop} {g : TG} {tt : TT} {te : TE} {vs : List Nat} {σ : St} {H H1 : Hp} {Q : VK}
    (as : List α) (F : α → V) (hw : ∀ R : It → Hp → Prop, R J H1 → wi σ H R) (w : Walk J as.length G Y) (hz : as.length ≤ 1000000) (hG : ∀ H, Same H1 H → G H)
    (hs : ∀ (R : VK) (R' : Hp → Prop) i a x H H', as[i]? = some a → Same H1 H → Y i H x H' → (∀ H4, Same H H4 → R (F a) H4) →
      g x (wipe σ vs) H' fun σ2 H2 => wipe σ2 vs = wipe σ vs ∧ tt σ2 H2 fun b H3 => if b = true then te σ2 H3 R else R' H3)
    (hd : ∀ D H, H1 D = none → Same H1 H → H D = some (.lst (as.map F)) → Q (.ref D) H) : tLc wi g tt te vs σ H Q :=
  hw _ fun D hD => lc_map as F w hz hD hG hs fun H s e => hd D H hD s e
theorem walk_text {t : Tx} : Walk (Its (S t)) t.length (fun _ => True) (fun i H v H' => H' = H ∧ ∃ c, t[i]? = some c ∧ v = .str (S [c])) :=
  ⟨fun _ _ hi _ => (by show _ < (S t).cps.size; rw [S_size]; exact hi), fun _ _ => (by show (S t).cps.size ≤ _; rw [S_size]; exact Nat.le_refl _), fun _ _ _ _ _ _ y => by
    obtain ⟨e, c, h1, h2⟩ := y
    exact ⟨e, c, by simpa [S] using h1, h2⟩⟩
theorem ix_tupK {X : Cx} {K : PySem.W.Frag} (h : X.K = K) : IxR X (rIxT K) := by
  subst h
  exact ix_tup
theorem ix_listK {X : Cx} {K : PySem.W.Frag} (h : X.K = K) : IxR X (rIxL K) := by
  subst h
  exact ix_list
theorem op_eqDK {X : Cx} {K : PySem.W.Frag} (h : X.K = K) (hu : X.A.units + 64 < cLine) : OpR X (compareOp .Eq) (rEqD K) := by
  subst h
  exact op_eqD hu
theorem op_neDK {X : Cx} {K : PySem.W.Frag} (h : X.K = K) (hu : X.A.units + 64 < cLine) : OpR X (compareOp .NotEq) (rNeD K) := by
  subst h
  exact op_neD hu
theorem gen_new {H H1 : Hp} {p : Addr} {o : HO} (h : upd H p o = H1) (hp : H p = none) : Same H H1 ∧ H1 p = some o := by
  subst h
  exact ⟨same_new hp, upd_same⟩
theorem one_lt (x y : Nat) : ([x] < [y]) = (x < y) := by simp [List.cons_lt_cons_iff]
theorem join_flat0 : ∀ ls : List Tx, Str.join (S []) (ls.map S) = S ls.flatten
  | [] => rfl
  | [x] => by
    show S x = S [x].flatten
    simp
  | x :: y :: r => by
    show S x ++ S [] ++ Str.join (S []) ((y :: r).map S) = _
    rw [join_flat0 (y :: r), S_app, S_app]
    simp
theorem join_flat (ls : List Tx) : Txt.join (S []) (ls.map S) = S ls.flatten := by
  rw [show Txt.join (S []) (ls.map S) = Str.join (S []) (ls.map S) from StrLaws.glued_eq_join _ _]
  exact join_flat0 ls
end Qw

set_option Elab.async false
set_option linter.all false
set_option maxRecDepth 100000
set_option maxHeartbeats 4000000
namespace Qw
open PySem L2
def top (i : Nat) : Stmt := PySem.Challenge.pw_quotewords_k08_refused.main.body.getD i (.Pass ⟨0, 0, 0, 0⟩)
abbrev st_NoWriting_init : Stmt := inClass (top 7) 0
abbrev N_NoWriting_init : List Str := ["self", "at"]
abbrev P_NoWriting_init : List Str := ["self", "at"]
theorem sc_NoWriting_init : FnScope N_NoWriting_init P_NoWriting_init (defScope st_NoWriting_init) := ⟨rfl, rfl, rfl, by decide +kernel, rfl, by decide +kernel, by decide +kernel⟩
abbrev st_are_signs : Stmt := top 11
abbrev N_are_signs : List Str := ["thing", "sign"]
abbrev P_are_signs : List Str := ["thing"]
theorem sc_are_signs : FnScope N_are_signs P_are_signs (defScope st_are_signs) := ⟨rfl, rfl, rfl, by decide +kernel, rfl, by decide +kernel, by decide +kernel⟩
abbrev st_Rules_init : Stmt := inClass (top 12) 0
abbrev N_Rules_init : List Str := ["self", "breaks", "hard", "soft", "bend", "note", "parts", "every", "part", "most"]
abbrev P_Rules_init : List Str := ["self", "breaks", "hard", "soft", "bend", "note"]
theorem sc_Rules_init : FnScope N_Rules_init P_Rules_init (defScope st_Rules_init) := ⟨rfl, rfl, rfl, by decide +kernel, rfl, by decide +kernel, by decide +kernel⟩
abbrev st_Rules_told : Stmt := inClass (top 12) 1
abbrev N_Rules_told : List Str := ["self"]
abbrev P_Rules_told : List Str := ["self"]
theorem sc_Rules_told : FnScope N_Rules_told P_Rules_told (defScope st_Rules_told) := ⟨rfl, rfl, rfl, by decide +kernel, rfl, by decide +kernel, by decide +kernel⟩
abbrev st_Rules_quotes : Stmt := inClass (top 12) 2
abbrev N_Rules_quotes : List Str := ["self"]
abbrev P_Rules_quotes : List Str := ["self"]
theorem sc_Rules_quotes : FnScope N_Rules_quotes P_Rules_quotes (defScope st_Rules_quotes) := ⟨rfl, rfl, rfl, by decide +kernel, rfl, by decide +kernel, by decide +kernel⟩
abbrev st_Rules_special : Stmt := inClass (top 12) 3
abbrev N_Rules_special : List Str := ["self", "sign"]
abbrev P_Rules_special : List Str := ["self", "sign"]
theorem sc_Rules_special : FnScope N_Rules_special P_Rules_special (defScope st_Rules_special) := ⟨rfl, rfl, rfl, by decide +kernel, rfl, by decide +kernel, by decide +kernel⟩
abbrev st_Machine_init : Stmt := inClass (top 16) 0
abbrev N_Machine_init : List Str := ["self", "rules"]
abbrev P_Machine_init : List Str := ["self", "rules"]
theorem sc_Machine_init : FnScope N_Machine_init P_Machine_init (defScope st_Machine_init) := ⟨rfl, rfl, rfl, by decide +kernel, rfl, by decide +kernel, by decide +kernel⟩
abbrev st_Machine_key : Stmt := inClass (top 16) 1
abbrev N_Machine_key : List Str := ["self"]
abbrev P_Machine_key : List Str := ["self"]
theorem sc_Machine_key : FnScope N_Machine_key P_Machine_key (defScope st_Machine_key) := ⟨rfl, rfl, rfl, by decide +kernel, rfl, by decide +kernel, by decide +kernel⟩
abbrev st_Machine_begin : Stmt := inClass (top 16) 2
abbrev N_Machine_begin : List Str := ["self"]
abbrev P_Machine_begin : List Str := ["self"]
theorem sc_Machine_begin : FnScope N_Machine_begin P_Machine_begin (defScope st_Machine_begin) := ⟨rfl, rfl, rfl, by decide +kernel, rfl, by decide +kernel, by decide +kernel⟩
abbrev st_Machine_ended : Stmt := inClass (top 16) 3
abbrev N_Machine_ended : List Str := ["self", "found"]
abbrev P_Machine_ended : List Str := ["self"]
theorem sc_Machine_ended : FnScope N_Machine_ended P_Machine_ended (defScope st_Machine_ended) := ⟨rfl, rfl, rfl, by decide +kernel, rfl, by decide +kernel, by decide +kernel⟩
abbrev st_Machine_plain : Stmt := inClass (top 16) 4
abbrev N_Machine_plain : List Str := ["self", "sign", "rules"]
abbrev P_Machine_plain : List Str := ["self", "sign"]
theorem sc_Machine_plain : FnScope N_Machine_plain P_Machine_plain (defScope st_Machine_plain) := ⟨rfl, rfl, rfl, by decide +kernel, rfl, by decide +kernel, by decide +kernel⟩
abbrev st_Machine_quoted : Stmt := inClass (top 16) 5
abbrev N_Machine_quoted : List Str := ["self", "sign"]
abbrev P_Machine_quoted : List Str := ["self", "sign"]
theorem sc_Machine_quoted : FnScope N_Machine_quoted P_Machine_quoted (defScope st_Machine_quoted) := ⟨rfl, rfl, rfl, by decide +kernel, rfl, by decide +kernel, by decide +kernel⟩
abbrev st_Machine_step : Stmt := inClass (top 16) 6
abbrev N_Machine_step : List Str := ["self", "sign", "found"]
abbrev P_Machine_step : List Str := ["self", "sign"]
theorem sc_Machine_step : FnScope N_Machine_step P_Machine_step (defScope st_Machine_step) := ⟨rfl, rfl, rfl, by decide +kernel, rfl, by decide +kernel, by decide +kernel⟩
abbrev st_Machine_fault : Stmt := inClass (top 16) 7
abbrev N_Machine_fault : List Str := ["self"]
abbrev P_Machine_fault : List Str := ["self"]
theorem sc_Machine_fault : FnScope N_Machine_fault P_Machine_fault (defScope st_Machine_fault) := ⟨rfl, rfl, rfl, by decide +kernel, rfl, by decide +kernel, by decide +kernel⟩
abbrev st_read_all : Stmt := top 17
abbrev N_read_all : List Str := ["rules", "text", "machine", "found", "sign"]
abbrev P_read_all : List Str := ["rules", "text"]
theorem sc_read_all : FnScope N_read_all P_read_all (defScope st_read_all) := ⟨rfl, rfl, rfl, by decide +kernel, rfl, by decide +kernel, by decide +kernel⟩
abbrev st_states_of : Stmt := top 20
abbrev N_states_of : List Str := ["rules"]
abbrev P_states_of : List Str := ["rules"]
theorem sc_states_of : FnScope N_states_of P_states_of (defScope st_states_of) := ⟨rfl, rfl, rfl, by decide +kernel, rfl, by decide +kernel, by decide +kernel⟩
abbrev st_cost_of : Stmt := top 21
abbrev N_cost_of : List Str := ["rules", "state", "sign"]
abbrev P_cost_of : List Str := ["rules", "state", "sign"]
theorem sc_cost_of : FnScope N_cost_of P_cost_of (defScope st_cost_of) := ⟨rfl, rfl, rfl, by decide +kernel, rfl, by decide +kernel, by decide +kernel⟩
abbrev st_entered : Stmt := top 22
abbrev N_entered : List Str := ["row", "plain", "number"]
abbrev P_entered : List Str := ["row"]
theorem sc_entered : FnScope N_entered P_entered (defScope st_entered) := ⟨rfl, rfl, rfl, by decide +kernel, rfl, by decide +kernel, by decide +kernel⟩
abbrev st_cannot : Stmt := top 23
abbrev N_cannot : List Str := ["rules", "word", "states", "state", "sign"]
abbrev P_cannot : List Str := ["rules", "word"]
theorem sc_cannot : FnScope N_cannot P_cannot (defScope st_cannot) := ⟨rfl, rfl, rfl, by decide +kernel, rfl, by decide +kernel, by decide +kernel⟩
abbrev st_heights_of : Stmt := top 24
abbrev N_heights_of : List Str := ["rules", "word", "far", "states", "rows", "sign", "costs", "state", "number", "cost"]
abbrev P_heights_of : List Str := ["rules", "word", "far"]
theorem sc_heights_of : FnScope N_heights_of P_heights_of (defScope st_heights_of) := ⟨rfl, rfl, rfl, by decide +kernel, rfl, by decide +kernel, by decide +kernel⟩
abbrev st_written_by : Stmt := top 25
abbrev N_written_by : List Str := ["rules", "word", "rows", "states", "found", "at", "state", "row", "cost", "k"]
abbrev P_written_by : List Str := ["rules", "word", "rows"]
theorem sc_written_by : FnScope N_written_by P_written_by (defScope st_written_by) := ⟨rfl, rfl, rfl, by decide +kernel, rfl, by decide +kernel, by decide +kernel⟩
abbrev st_part_of : Stmt := top 29
abbrev N_part_of : List Str := ["rules", "sign", "part"]
abbrev P_part_of : List Str := ["rules", "sign"]
theorem sc_part_of : FnScope N_part_of P_part_of (defScope st_part_of) := ⟨rfl, rfl, rfl, by decide +kernel, rfl, by decide +kernel, by decide +kernel⟩
abbrev st_few_signs : Stmt := top 30
abbrev N_few_signs : List Str := ["one", "other", "found", "sorts", "every", "sign", "sort", "at"]
abbrev P_few_signs : List Str := ["one", "other"]
theorem sc_few_signs : FnScope N_few_signs P_few_signs (defScope st_few_signs) := ⟨rfl, rfl, rfl, by decide +kernel, rfl, by decide +kernel, by decide +kernel⟩
abbrev st_read_alike : Stmt := top 31
abbrev N_read_alike : List Str := ["one", "other", "text", "mine", "theirs", "pair"]
abbrev P_read_alike : List Str := ["one", "other", "text"]
theorem sc_read_alike : FnScope N_read_alike P_read_alike (defScope st_read_alike) := ⟨rfl, rfl, rfl, by decide +kernel, rfl, by decide +kernel, by decide +kernel⟩
abbrev st_trail : Stmt := top 32
abbrev N_trail : List Str := ["rules", "text", "machine", "words", "sign", "pair"]
abbrev P_trail : List Str := ["rules", "text"]
theorem sc_trail : FnScope N_trail P_trail (defScope st_trail) := ⟨rfl, rfl, rfl, by decide +kernel, rfl, by decide +kernel, by decide +kernel⟩
abbrev st_marks_of : Stmt := top 33
abbrev N_marks_of : List Str := ["words", "found", "word"]
abbrev P_marks_of : List Str := ["words"]
theorem sc_marks_of : FnScope N_marks_of P_marks_of (defScope st_marks_of) := ⟨rfl, rfl, rfl, by decide +kernel, rfl, by decide +kernel, by decide +kernel⟩
abbrev st_node_of : Stmt := top 34
abbrev N_node_of : List Str := ["one", "other", "text", "mine", "theirs", "rows", "same", "rest"]
abbrev P_node_of : List Str := ["one", "other", "text"]
theorem sc_node_of : FnScope N_node_of P_node_of (defScope st_node_of) := ⟨rfl, rfl, rfl, by decide +kernel, rfl, by decide +kernel, by decide +kernel⟩
abbrev st_first_parted : Stmt := top 35
abbrev N_first_parted : List Str := ["one", "other", "signs", "seen", "turn", "more", "text", "sign", "node"]
abbrev P_first_parted : List Str := ["one", "other"]
theorem sc_first_parted : FnScope N_first_parted P_first_parted (defScope st_first_parted) := ⟨rfl, rfl, rfl, by decide +kernel, rfl, by decide +kernel, by decide +kernel⟩
abbrev st_Words_init : Stmt := inClass (top 38) 0
abbrev N_Words_init : List Str := ["self", "words", "places"]
abbrev P_Words_init : List Str := ["self", "words", "places"]
theorem sc_Words_init : FnScope N_Words_init P_Words_init (defScope st_Words_init) := ⟨rfl, rfl, rfl, by decide +kernel, rfl, by decide +kernel, by decide +kernel⟩
abbrev st_Fault_init : Stmt := inClass (top 39) 0
abbrev N_Fault_init : List Str := ["self", "place"]
abbrev P_Fault_init : List Str := ["self", "place"]
theorem sc_Fault_init : FnScope N_Fault_init P_Fault_init (defScope st_Fault_init) := ⟨rfl, rfl, rfl, by decide +kernel, rfl, by decide +kernel, by decide +kernel⟩
abbrev st_Shortest_init : Stmt := inClass (top 40) 0
abbrev N_Shortest_init : List Str := ["self", "text", "heights", "row", "rows"]
abbrev P_Shortest_init : List Str := ["self", "text", "heights"]
theorem sc_Shortest_init : FnScope N_Shortest_init P_Shortest_init (defScope st_Shortest_init) := ⟨rfl, rfl, rfl, by decide +kernel, rfl, by decide +kernel, by decide +kernel⟩
abbrev st_Parted_init : Stmt := inClass (top 42) 0
abbrev N_Parted_init : List Str := ["self", "text"]
abbrev P_Parted_init : List Str := ["self", "text"]
theorem sc_Parted_init : FnScope N_Parted_init P_Parted_init (defScope st_Parted_init) := ⟨rfl, rfl, rfl, by decide +kernel, rfl, by decide +kernel, by decide +kernel⟩
abbrev st_compared : Stmt := top 44
abbrev N_compared : List Str := ["one", "other", "found"]
abbrev P_compared : List Str := ["one", "other"]
theorem sc_compared : FnScope N_compared P_compared (defScope st_compared) := ⟨rfl, rfl, rfl, by decide +kernel, rfl, by decide +kernel, by decide +kernel⟩
abbrev st_split : Stmt := top 47
abbrev N_split : List Str := ["rules", "text", "found", "fault", "pair"]
abbrev P_split : List Str := ["rules", "text"]
theorem sc_split : FnScope N_split P_split (defScope st_split) := ⟨rfl, rfl, rfl, by decide +kernel, rfl, by decide +kernel, by decide +kernel⟩
abbrev st_Splitter_init : Stmt := inClass (top 48) 0
abbrev N_Splitter_init : List Str := ["self", "rules"]
abbrev P_Splitter_init : List Str := ["self", "rules"]
theorem sc_Splitter_init : FnScope N_Splitter_init P_Splitter_init (defScope st_Splitter_init) := ⟨rfl, rfl, rfl, by decide +kernel, rfl, by decide +kernel, by decide +kernel⟩
abbrev st_Splitter_take : Stmt := inClass (top 48) 1
abbrev N_Splitter_take : List Str := ["self", "text", "before", "sign", "pair"]
abbrev P_Splitter_take : List Str := ["self", "text"]
theorem sc_Splitter_take : FnScope N_Splitter_take P_Splitter_take (defScope st_Splitter_take) := ⟨rfl, rfl, rfl, by decide +kernel, rfl, by decide +kernel, by decide +kernel⟩
abbrev st_Splitter_end : Stmt := inClass (top 48) 2
abbrev N_Splitter_end : List Str := ["self", "fault", "found", "pair"]
abbrev P_Splitter_end : List Str := ["self"]
theorem sc_Splitter_end : FnScope N_Splitter_end P_Splitter_end (defScope st_Splitter_end) := ⟨rfl, rfl, rfl, by decide +kernel, rfl, by decide +kernel, by decide +kernel⟩
abbrev st_one_written : Stmt := top 53
abbrev N_one_written : List Str := ["rules", "word", "rows"]
abbrev P_one_written : List Str := ["rules", "word"]
theorem sc_one_written : FnScope N_one_written P_one_written (defScope st_one_written) := ⟨rfl, rfl, rfl, by decide +kernel, rfl, by decide +kernel, by decide +kernel⟩
abbrev st_shortest : Stmt := top 54
abbrev N_shortest : List Str := ["rules", "words", "word", "at", "found", "pair"]
abbrev P_shortest : List Str := ["rules", "words"]
theorem sc_shortest : FnScope N_shortest P_shortest (defScope st_shortest) := ⟨rfl, rfl, rfl, by decide +kernel, rfl, by decide +kernel, by decide +kernel⟩
abbrev st__law_kinds : Stmt := top 57
abbrev N__law_kinds : List Str := ["_law_error", "_law_found"]
abbrev P__law_kinds : List Str := ["_law_error"]
theorem sc__law_kinds : FnScope N__law_kinds P__law_kinds (defScope st__law_kinds) := ⟨rfl, rfl, rfl, by decide +kernel, rfl, by decide +kernel, by decide +kernel⟩
abbrev st__law_refused : Stmt := top 58
abbrev N__law_refused : List Str := ["_law_ask", "_law_thing", "_law_which", "_law_sorts", "_law_error", "_law_at"]
abbrev P__law_refused : List Str := ["_law_ask", "_law_thing", "_law_which"]
theorem sc__law_refused : FnScope N__law_refused P__law_refused (defScope st__law_refused) := ⟨rfl, rfl, rfl, by decide +kernel, rfl, by decide +kernel, by decide +kernel⟩
abbrev st__law_all : Stmt := top 59
abbrev N__law_all : List Str := ["_law_asks", "_law_things", "_law_which", "_law_ask", "_law_thing"]
abbrev P__law_all : List Str := ["_law_asks", "_law_things", "_law_which"]
theorem sc__law_all : FnScope N__law_all P__law_all (defScope st__law_all) := ⟨rfl, rfl, rfl, by decide +kernel, rfl, by decide +kernel, by decide +kernel⟩
abbrev st__law_rules_right : Stmt := top 60
abbrev N__law_rules_right : List Str := ["_law_far", "_law_some", "_law_asks", "_law_letters", "_law_at", "_law_to", "_law_signs", "_law_parts", "_law_rules", "_law_a", "_law_b", "_law_c", "_law_five"]
abbrev P__law_rules_right : List Str := ["_law_far"]
theorem sc__law_rules_right : FnScope N__law_rules_right P__law_rules_right (defScope st__law_rules_right) := ⟨rfl, rfl, rfl, by decide +kernel, rfl, by decide +kernel, by decide +kernel⟩
abbrev st__law_texts_right : Stmt := top 61
abbrev N__law_texts_right : List Str := ["_law_far", "_law_at", "_law_good", "_law_some", "_law_late", "_law_over", "_law_rules", "_law_a", "_law_b", "_law_c"]
abbrev P__law_texts_right : List Str := ["_law_far"]
theorem sc__law_texts_right : FnScope N__law_texts_right P__law_texts_right (defScope st__law_texts_right) := ⟨rfl, rfl, rfl, by decide +kernel, rfl, by decide +kernel, by decide +kernel⟩
abbrev st__law_words_right : Stmt := top 62
abbrev N__law_words_right : List Str := ["_law_far", "_law_at", "_law_some", "_law_bad", "_law_told", "_law_error", "_law_bare", "_law_one", "_law_rules", "_law_a"]
abbrev P__law_words_right : List Str := ["_law_far"]
theorem sc__law_words_right : FnScope N__law_words_right P__law_words_right (defScope st__law_words_right) := ⟨rfl, rfl, rfl, by decide +kernel, rfl, by decide +kernel, by decide +kernel⟩
abbrev st_law : Stmt := top 63
abbrev N_law : List Str := ["_law_script", "_law_cell", "_law_far", "_law_late"]
abbrev P_law : List Str := ["_law_script"]
theorem sc_law : FnScope N_law P_law (defScope st_law) := ⟨rfl, rfl, rfl, by decide +kernel, rfl, by decide +kernel, by decide +kernel⟩
structure Ad where
  k__law_rules_right : Addr
  p__law_rules_right : Addr
  k__law_texts_right : Addr
  p__law_texts_right : Addr
  k__law_words_right : Addr
  p__law_words_right : Addr
  c_QuoteError : Addr
  c_BadRules : Addr
  c_BadText : Addr
  c_BadWords : Addr
  c_Ended : Addr
  c_NoWriting : Addr
  c_Rules : Addr
  c_Machine : Addr
  c_Answer : Addr
  c_Words : Addr
  c_Fault : Addr
  c_Shortest : Addr
  c_Alike : Addr
  c_Parted : Addr
  c_Splitter : Addr
  f_NoWriting_init : Addr
  d_NoWriting_init : FuncData
  f_are_signs : Addr
  d_are_signs : FuncData
  f_Rules_init : Addr
  d_Rules_init : FuncData
  f_Rules_told : Addr
  d_Rules_told : FuncData
  f_Rules_quotes : Addr
  d_Rules_quotes : FuncData
  f_Rules_special : Addr
  d_Rules_special : FuncData
  f_Machine_init : Addr
  d_Machine_init : FuncData
  f_Machine_key : Addr
  d_Machine_key : FuncData
  f_Machine_begin : Addr
  d_Machine_begin : FuncData
  f_Machine_ended : Addr
  d_Machine_ended : FuncData
  f_Machine_plain : Addr
  d_Machine_plain : FuncData
  f_Machine_quoted : Addr
  d_Machine_quoted : FuncData
  f_Machine_step : Addr
  d_Machine_step : FuncData
  f_Machine_fault : Addr
  d_Machine_fault : FuncData
  f_read_all : Addr
  d_read_all : FuncData
  f_states_of : Addr
  d_states_of : FuncData
  f_cost_of : Addr
  d_cost_of : FuncData
  f_entered : Addr
  d_entered : FuncData
  f_cannot : Addr
  d_cannot : FuncData
  f_heights_of : Addr
  d_heights_of : FuncData
  f_written_by : Addr
  d_written_by : FuncData
  f_part_of : Addr
  d_part_of : FuncData
  f_few_signs : Addr
  d_few_signs : FuncData
  f_read_alike : Addr
  d_read_alike : FuncData
  f_trail : Addr
  d_trail : FuncData
  f_marks_of : Addr
  d_marks_of : FuncData
  f_node_of : Addr
  d_node_of : FuncData
  f_first_parted : Addr
  d_first_parted : FuncData
  f_Words_init : Addr
  d_Words_init : FuncData
  f_Fault_init : Addr
  d_Fault_init : FuncData
  f_Shortest_init : Addr
  d_Shortest_init : FuncData
  f_Parted_init : Addr
  d_Parted_init : FuncData
  f_compared : Addr
  d_compared : FuncData
  f_split : Addr
  d_split : FuncData
  f_Splitter_init : Addr
  d_Splitter_init : FuncData
  f_Splitter_take : Addr
  d_Splitter_take : FuncData
  f_Splitter_end : Addr
  d_Splitter_end : FuncData
  f_one_written : Addr
  d_one_written : FuncData
  f_shortest : Addr
  d_shortest : FuncData
  f__law_kinds : Addr
  d__law_kinds : FuncData
  f__law_refused : Addr
  d__law_refused : FuncData
  f__law_all : Addr
  d__law_all : FuncData
  f__law_rules_right : Addr
  d__law_rules_right : FuncData
  f__law_texts_right : Addr
  d__law_texts_right : FuncData
  f__law_words_right : Addr
  d__law_words_right : FuncData
  f_law : Addr
  d_law : FuncData
  t_LINE_END : Tok
  a_MOST : Addr
  t_PLAIN : Tok
  t_NOTED : Tok
  t_LOOSE : Tok
  t_FAR_twins : Tok
  t_LETTERS : Tok
  t_LONGEST : Tok
  t_MOST_WORDS : Tok
  t_LONGEST_WORD : Tok
  t_FAR_writing : Tok
structure GF (K : PySem.W.Frag) (mg : Str → Option Value) (x : Str) (f : Addr) : Prop where
  g : mg x = some (.ref f)
  k : PySem.W.keepIn K (.ref f) = true
structure CF (K : PySem.W.Frag) (mg : Str → Option Value) (x : Str) (C f : Addr) : Prop where
  g : mg x = some (.ref C)
  cl : Cls K C
  mc : Mk K C f
structure CG (mg : Str → Option Value) (x : Str) (C : Addr) : Prop where
  g : mg x = some (.ref C)
/-- what isinstance asks of a class -/
structure IsF (K : PySem.W.Frag) (C : Addr) : Prop where
  ha : PySem.W.findIn K (.ref C) "__class__" = some (some (.builtin "object.__class__"))
  hn : PySem.W.specialIn K (.builtin "object.__class__") "__get__" = some (some (.builtin "getset_descriptor.__get__"))
  ht : PySem.W.takesIn K (.builtin "object.__class__") = some true
  hm : PySem.W.mroIn K C (.type "object") = some true
/-- a def whose code object stands at c -/
def CodeAt (K : PySem.W.Frag) (x qual : Str) (st : Stmt) (f : Addr) (fd : FuncData) (c : Addr) : Prop := ∃ (oc : Value) (od : Option Addr) (kV doc pm : Value) (an : Option Addr) (ct : Value) (osl : Array (Option Value)),
  fd = PySem.W.fnOf x qual (defArgs st) (defBody st) (defScope st) .none kV doc pm an (.ref c) ct ∧ K.lookup f = some ⟨oc, od, .func fd, osl⟩ ∧ PySem.W.codeIn K (.ref c) qual = true
structure Txt (K : PySem.W.Frag) (mg : Str → Option Value) (a : Ad) : Prop where
  F_NoWriting_init : Fun K "__init__" "NoWriting.__init__" st_NoWriting_init a.f_NoWriting_init a.d_NoWriting_init
  F_are_signs : Fun K "are_signs" "are_signs" st_are_signs a.f_are_signs a.d_are_signs
  f_are_signs : GF K mg "are_signs" a.f_are_signs
  F_Rules_init : FunD K "__init__" "Rules.__init__" (defArgs st_Rules_init) (defBody st_Rules_init) (defScope st_Rules_init) [.str (" " : Str), .str ("'" : Str), .str ("\"" : Str), .str ("\\" : Str), .str ("#" : Str)] [] a.f_Rules_init a.d_Rules_init
  F_Rules_told : Fun K "told" "Rules.told" st_Rules_told a.f_Rules_told a.d_Rules_told
  m_Rules_told : Meth K a.c_Rules "told" a.f_Rules_told
  F_Rules_quotes : Fun K "quotes" "Rules.quotes" st_Rules_quotes a.f_Rules_quotes a.d_Rules_quotes
  m_Rules_quotes : Meth K a.c_Rules "quotes" a.f_Rules_quotes
  F_Rules_special : Fun K "special" "Rules.special" st_Rules_special a.f_Rules_special a.d_Rules_special
  m_Rules_special : Meth K a.c_Rules "special" a.f_Rules_special
  F_Machine_init : Fun K "__init__" "Machine.__init__" st_Machine_init a.f_Machine_init a.d_Machine_init
  F_Machine_key : Fun K "key" "Machine.key" st_Machine_key a.f_Machine_key a.d_Machine_key
  m_Machine_key : Meth K a.c_Machine "key" a.f_Machine_key
  F_Machine_begin : Fun K "begin" "Machine.begin" st_Machine_begin a.f_Machine_begin a.d_Machine_begin
  m_Machine_begin : Meth K a.c_Machine "begin" a.f_Machine_begin
  F_Machine_ended : Fun K "ended" "Machine.ended" st_Machine_ended a.f_Machine_ended a.d_Machine_ended
  m_Machine_ended : Meth K a.c_Machine "ended" a.f_Machine_ended
  F_Machine_plain : Fun K "plain" "Machine.plain" st_Machine_plain a.f_Machine_plain a.d_Machine_plain
  m_Machine_plain : Meth K a.c_Machine "plain" a.f_Machine_plain
  F_Machine_quoted : Fun K "quoted" "Machine.quoted" st_Machine_quoted a.f_Machine_quoted a.d_Machine_quoted
  m_Machine_quoted : Meth K a.c_Machine "quoted" a.f_Machine_quoted
  F_Machine_step : Fun K "step" "Machine.step" st_Machine_step a.f_Machine_step a.d_Machine_step
  m_Machine_step : Meth K a.c_Machine "step" a.f_Machine_step
  F_Machine_fault : Fun K "fault" "Machine.fault" st_Machine_fault a.f_Machine_fault a.d_Machine_fault
  m_Machine_fault : Meth K a.c_Machine "fault" a.f_Machine_fault
  F_read_all : Fun K "read_all" "read_all" st_read_all a.f_read_all a.d_read_all
  f_read_all : GF K mg "read_all" a.f_read_all
  F_states_of : Fun K "states_of" "states_of" st_states_of a.f_states_of a.d_states_of
  f_states_of : GF K mg "states_of" a.f_states_of
  F_cost_of : Fun K "cost_of" "cost_of" st_cost_of a.f_cost_of a.d_cost_of
  f_cost_of : GF K mg "cost_of" a.f_cost_of
  F_entered : Fun K "entered" "entered" st_entered a.f_entered a.d_entered
  f_entered : GF K mg "entered" a.f_entered
  F_cannot : Fun K "cannot" "cannot" st_cannot a.f_cannot a.d_cannot
  f_cannot : GF K mg "cannot" a.f_cannot
  F_heights_of : Fun K "heights_of" "heights_of" st_heights_of a.f_heights_of a.d_heights_of
  f_heights_of : GF K mg "heights_of" a.f_heights_of
  F_written_by : Fun K "written_by" "written_by" st_written_by a.f_written_by a.d_written_by
  f_written_by : GF K mg "written_by" a.f_written_by
  F_part_of : Fun K "part_of" "part_of" st_part_of a.f_part_of a.d_part_of
  f_part_of : GF K mg "part_of" a.f_part_of
  F_few_signs : Fun K "few_signs" "few_signs" st_few_signs a.f_few_signs a.d_few_signs
  f_few_signs : GF K mg "few_signs" a.f_few_signs
  F_read_alike : Fun K "read_alike" "read_alike" st_read_alike a.f_read_alike a.d_read_alike
  f_read_alike : GF K mg "read_alike" a.f_read_alike
  F_trail : Fun K "trail" "trail" st_trail a.f_trail a.d_trail
  f_trail : GF K mg "trail" a.f_trail
  F_marks_of : Fun K "marks_of" "marks_of" st_marks_of a.f_marks_of a.d_marks_of
  f_marks_of : GF K mg "marks_of" a.f_marks_of
  F_node_of : Fun K "node_of" "node_of" st_node_of a.f_node_of a.d_node_of
  f_node_of : GF K mg "node_of" a.f_node_of
  F_first_parted : Fun K "first_parted" "first_parted" st_first_parted a.f_first_parted a.d_first_parted
  f_first_parted : GF K mg "first_parted" a.f_first_parted
  F_Words_init : Fun K "__init__" "Words.__init__" st_Words_init a.f_Words_init a.d_Words_init
  F_Fault_init : Fun K "__init__" "Fault.__init__" st_Fault_init a.f_Fault_init a.d_Fault_init
  F_Shortest_init : Fun K "__init__" "Shortest.__init__" st_Shortest_init a.f_Shortest_init a.d_Shortest_init
  F_Parted_init : Fun K "__init__" "Parted.__init__" st_Parted_init a.f_Parted_init a.d_Parted_init
  F_compared : Fun K "compared" "compared" st_compared a.f_compared a.d_compared
  f_compared : GF K mg "compared" a.f_compared
  F_split : Fun K "split" "split" st_split a.f_split a.d_split
  f_split : GF K mg "split" a.f_split
  F_Splitter_init : Fun K "__init__" "Splitter.__init__" st_Splitter_init a.f_Splitter_init a.d_Splitter_init
  F_Splitter_take : Fun K "take" "Splitter.take" st_Splitter_take a.f_Splitter_take a.d_Splitter_take
  m_Splitter_take : Meth K a.c_Splitter "take" a.f_Splitter_take
  F_Splitter_end : Fun K "end" "Splitter.end" st_Splitter_end a.f_Splitter_end a.d_Splitter_end
  m_Splitter_end : Meth K a.c_Splitter "end" a.f_Splitter_end
  F_one_written : Fun K "one_written" "one_written" st_one_written a.f_one_written a.d_one_written
  f_one_written : GF K mg "one_written" a.f_one_written
  F_shortest : Fun K "shortest" "shortest" st_shortest a.f_shortest a.d_shortest
  f_shortest : GF K mg "shortest" a.f_shortest
  F__law_kinds : Fun K "_law_kinds" "_law_kinds" st__law_kinds a.f__law_kinds a.d__law_kinds
  f__law_kinds : GF K mg "_law_kinds" a.f__law_kinds
  F__law_refused : Fun K "_law_refused" "_law_refused" st__law_refused a.f__law_refused a.d__law_refused
  f__law_refused : GF K mg "_law_refused" a.f__law_refused
  F__law_all : Fun K "_law_all" "_law_all" st__law_all a.f__law_all a.d__law_all
  f__law_all : GF K mg "_law_all" a.f__law_all
  F__law_rules_right : Fun K "_law_rules_right" "_law_rules_right" st__law_rules_right a.f__law_rules_right a.d__law_rules_right
  K__law_rules_right : CodeAt K "_law_rules_right" "_law_rules_right" st__law_rules_right a.f__law_rules_right a.d__law_rules_right a.k__law_rules_right
  f__law_rules_right : GF K mg "_law_rules_right" a.f__law_rules_right
  F__law_texts_right : Fun K "_law_texts_right" "_law_texts_right" st__law_texts_right a.f__law_texts_right a.d__law_texts_right
  K__law_texts_right : CodeAt K "_law_texts_right" "_law_texts_right" st__law_texts_right a.f__law_texts_right a.d__law_texts_right a.k__law_texts_right
  f__law_texts_right : GF K mg "_law_texts_right" a.f__law_texts_right
  F__law_words_right : Fun K "_law_words_right" "_law_words_right" st__law_words_right a.f__law_words_right a.d__law_words_right
  K__law_words_right : CodeAt K "_law_words_right" "_law_words_right" st__law_words_right a.f__law_words_right a.d__law_words_right a.k__law_words_right
  f__law_words_right : GF K mg "_law_words_right" a.f__law_words_right
  F_law : Fun K "law" "law" st_law a.f_law a.d_law
  f_law : GF K mg "law" a.f_law
  c_Rules : CF K mg "Rules" a.c_Rules a.f_Rules_init
  n_Rules_breaks : NoAttr K a.c_Rules "breaks"
  n_Rules_hard : NoAttr K a.c_Rules "hard"
  n_Rules_soft : NoAttr K a.c_Rules "soft"
  n_Rules_bend : NoAttr K a.c_Rules "bend"
  n_Rules_note : NoAttr K a.c_Rules "note"
  c_Machine : CF K mg "Machine" a.c_Machine a.f_Machine_init
  n_Machine_rules : NoAttr K a.c_Machine "rules"
  n_Machine_state : NoAttr K a.c_Machine "state"
  n_Machine_bent : NoAttr K a.c_Machine "bent"
  n_Machine_word : NoAttr K a.c_Machine "word"
  n_Machine_begun : NoAttr K a.c_Machine "begun"
  n_Machine_opened : NoAttr K a.c_Machine "opened"
  n_Machine_place : NoAttr K a.c_Machine "place"
  c_Words : CF K mg "Words" a.c_Words a.f_Words_init
  n_Words_words : NoAttr K a.c_Words "words"
  n_Words_places : NoAttr K a.c_Words "places"
  c_Fault : CF K mg "Fault" a.c_Fault a.f_Fault_init
  n_Fault_place : NoAttr K a.c_Fault "place"
  c_Shortest : CF K mg "Shortest" a.c_Shortest a.f_Shortest_init
  n_Shortest_text : NoAttr K a.c_Shortest "text"
  n_Shortest_heights : NoAttr K a.c_Shortest "heights"
  c_Parted : CF K mg "Parted" a.c_Parted a.f_Parted_init
  n_Parted_text : NoAttr K a.c_Parted "text"
  c_Splitter : CF K mg "Splitter" a.c_Splitter a.f_Splitter_init
  n_Splitter_machine : NoAttr K a.c_Splitter "machine"
  n_Splitter_found : NoAttr K a.c_Splitter "found"
  n_Splitter_over : NoAttr K a.c_Splitter "over"
  g_LINE_END : mg "LINE_END" = some (Value.str ("\n" : Str) a.t_LINE_END)
  g_MOST : mg "MOST" = some (Value.ref a.a_MOST)
  s_MOST : ∀ H, SqT K H a.a_MOST [.int 4, .int 2, .int 2, .int 1, .int 1]
  g_PLAIN : mg "PLAIN" = some (Value.str ("" : Str) a.t_PLAIN)
  g_NOTED : mg "NOTED" = some (Value.str ("note" : Str) a.t_NOTED)
  g_LOOSE : mg "LOOSE" = some (Value.str ("" : Str) a.t_LOOSE)
  g_FAR_twins : mg "FAR_twins" = some (Value.int 8 a.t_FAR_twins)
  g_LETTERS : mg "LETTERS" = some (Value.str ("abcdefghijklmnopqrstuvwxyz0123456789" : Str) a.t_LETTERS)
  g_LONGEST : mg "LONGEST" = some (Value.int 400 a.t_LONGEST)
  g_MOST_WORDS : mg "MOST_WORDS" = some (Value.int 8 a.t_MOST_WORDS)
  g_LONGEST_WORD : mg "LONGEST_WORD" = some (Value.int 12 a.t_LONGEST_WORD)
  g_FAR_writing : mg "FAR_writing" = some (Value.int 99 a.t_FAR_writing)
  b_ValueError : mg "ValueError" = none
  b_isinstance : mg "isinstance" = none
  b_all : mg "all" = none
  b_any : mg "any" = none
  b_zip : mg "zip" = none
  b_len : mg "len" = none
  b_set : mg "set" = none
  b_str : mg "str" = none
  b_list : mg "list" = none
  b_range : mg "range" = none
  b_max : mg "max" = none
  b_min : mg "min" = none
  b_enumerate : mg "enumerate" = none
  b_abs : mg "abs" = none
  c_Answer : CG mg "Answer" a.c_Answer
  i_Words : IsF K a.c_Words
  i_Fault : IsF K a.c_Fault
  k_WW : PySem.W.kitOne K (.ref a.c_Words) (.ref a.c_Words) = some true
  k_WF : PySem.W.kitOne K (.ref a.c_Words) (.ref a.c_Fault) = some false
  k_WA : PySem.W.kitOne K (.ref a.c_Words) (.ref a.c_Answer) = some true
  k_FF : PySem.W.kitOne K (.ref a.c_Fault) (.ref a.c_Fault) = some true
  k_FW : PySem.W.kitOne K (.ref a.c_Fault) (.ref a.c_Words) = some false
  k_FA : PySem.W.kitOne K (.ref a.c_Fault) (.ref a.c_Answer) = some true
  eg_QuoteError : CG mg "QuoteError" a.c_QuoteError
  ea_QuoteError : PySem.W.findIn K (.ref a.c_QuoteError) "__getattribute__" = some (some (.builtin "BaseException.__getattribute__"))
  eb_QuoteError : PySem.W.findIn K (.ref a.c_QuoteError) "__getattr__" = some none
  ec_QuoteError : PySem.W.subIn K (.ref a.c_QuoteError) (.type "BaseException") = some true
  ed_QuoteError : PySem.W.hasDictIn K a.c_QuoteError = true
  ee_QuoteError : PySem.W.findIn K (.ref a.c_QuoteError) "__class__" = some (some (.builtin "object.__class__"))
  ef_QuoteError : PySem.W.mroIn K a.c_QuoteError (.type "object") = some true
  eh_QuoteError : PySem.W.typeIn K (.ref a.c_QuoteError) = some (.type "type")
  ei_QuoteError : PySem.W.keepIn K (.ref a.c_QuoteError) = true
  es_QuoteError_QuoteError : PySem.W.subIn K (.ref a.c_QuoteError) (.ref a.c_QuoteError) = some true
  eg_BadRules : CG mg "BadRules" a.c_BadRules
  ea_BadRules : PySem.W.findIn K (.ref a.c_BadRules) "__getattribute__" = some (some (.builtin "BaseException.__getattribute__"))
  eb_BadRules : PySem.W.findIn K (.ref a.c_BadRules) "__getattr__" = some none
  ec_BadRules : PySem.W.subIn K (.ref a.c_BadRules) (.type "BaseException") = some true
  ed_BadRules : PySem.W.hasDictIn K a.c_BadRules = true
  ee_BadRules : PySem.W.findIn K (.ref a.c_BadRules) "__class__" = some (some (.builtin "object.__class__"))
  ef_BadRules : PySem.W.mroIn K a.c_BadRules (.type "object") = some true
  eh_BadRules : PySem.W.typeIn K (.ref a.c_BadRules) = some (.type "type")
  ei_BadRules : PySem.W.keepIn K (.ref a.c_BadRules) = true
  es_BadRules_QuoteError : PySem.W.subIn K (.ref a.c_BadRules) (.ref a.c_QuoteError) = some true
  es_BadRules_BadText : PySem.W.subIn K (.ref a.c_BadRules) (.ref a.c_BadText) = some false
  es_BadRules_BadWords : PySem.W.subIn K (.ref a.c_BadRules) (.ref a.c_BadWords) = some false
  es_BadRules_NoWriting : PySem.W.subIn K (.ref a.c_BadRules) (.ref a.c_NoWriting) = some false
  es_BadRules_Ended : PySem.W.subIn K (.ref a.c_BadRules) (.ref a.c_Ended) = some false
  ex_BadRules : PySem.W.excIn K a.c_BadRules [.type "ValueError", .type "Exception", .type "BaseException", .type "object"] "ValueError.__new__" = true
  eg_BadText : CG mg "BadText" a.c_BadText
  ea_BadText : PySem.W.findIn K (.ref a.c_BadText) "__getattribute__" = some (some (.builtin "BaseException.__getattribute__"))
  eb_BadText : PySem.W.findIn K (.ref a.c_BadText) "__getattr__" = some none
  ec_BadText : PySem.W.subIn K (.ref a.c_BadText) (.type "BaseException") = some true
  ed_BadText : PySem.W.hasDictIn K a.c_BadText = true
  ee_BadText : PySem.W.findIn K (.ref a.c_BadText) "__class__" = some (some (.builtin "object.__class__"))
  ef_BadText : PySem.W.mroIn K a.c_BadText (.type "object") = some true
  eh_BadText : PySem.W.typeIn K (.ref a.c_BadText) = some (.type "type")
  ei_BadText : PySem.W.keepIn K (.ref a.c_BadText) = true
  es_BadText_QuoteError : PySem.W.subIn K (.ref a.c_BadText) (.ref a.c_QuoteError) = some true
  es_BadText_BadRules : PySem.W.subIn K (.ref a.c_BadText) (.ref a.c_BadRules) = some false
  es_BadText_BadWords : PySem.W.subIn K (.ref a.c_BadText) (.ref a.c_BadWords) = some false
  es_BadText_NoWriting : PySem.W.subIn K (.ref a.c_BadText) (.ref a.c_NoWriting) = some false
  es_BadText_Ended : PySem.W.subIn K (.ref a.c_BadText) (.ref a.c_Ended) = some false
  ex_BadText : PySem.W.excIn K a.c_BadText [.type "ValueError", .type "Exception", .type "BaseException", .type "object"] "ValueError.__new__" = true
  eg_BadWords : CG mg "BadWords" a.c_BadWords
  ea_BadWords : PySem.W.findIn K (.ref a.c_BadWords) "__getattribute__" = some (some (.builtin "BaseException.__getattribute__"))
  eb_BadWords : PySem.W.findIn K (.ref a.c_BadWords) "__getattr__" = some none
  ec_BadWords : PySem.W.subIn K (.ref a.c_BadWords) (.type "BaseException") = some true
  ed_BadWords : PySem.W.hasDictIn K a.c_BadWords = true
  ee_BadWords : PySem.W.findIn K (.ref a.c_BadWords) "__class__" = some (some (.builtin "object.__class__"))
  ef_BadWords : PySem.W.mroIn K a.c_BadWords (.type "object") = some true
  eh_BadWords : PySem.W.typeIn K (.ref a.c_BadWords) = some (.type "type")
  ei_BadWords : PySem.W.keepIn K (.ref a.c_BadWords) = true
  es_BadWords_QuoteError : PySem.W.subIn K (.ref a.c_BadWords) (.ref a.c_QuoteError) = some true
  es_BadWords_BadRules : PySem.W.subIn K (.ref a.c_BadWords) (.ref a.c_BadRules) = some false
  es_BadWords_BadText : PySem.W.subIn K (.ref a.c_BadWords) (.ref a.c_BadText) = some false
  es_BadWords_NoWriting : PySem.W.subIn K (.ref a.c_BadWords) (.ref a.c_NoWriting) = some false
  es_BadWords_Ended : PySem.W.subIn K (.ref a.c_BadWords) (.ref a.c_Ended) = some false
  ex_BadWords : PySem.W.excIn K a.c_BadWords [.type "ValueError", .type "Exception", .type "BaseException", .type "object"] "ValueError.__new__" = true
  eg_NoWriting : CG mg "NoWriting" a.c_NoWriting
  ea_NoWriting : PySem.W.findIn K (.ref a.c_NoWriting) "__getattribute__" = some (some (.builtin "BaseException.__getattribute__"))
  eb_NoWriting : PySem.W.findIn K (.ref a.c_NoWriting) "__getattr__" = some none
  ec_NoWriting : PySem.W.subIn K (.ref a.c_NoWriting) (.type "BaseException") = some true
  ed_NoWriting : PySem.W.hasDictIn K a.c_NoWriting = true
  ee_NoWriting : PySem.W.findIn K (.ref a.c_NoWriting) "__class__" = some (some (.builtin "object.__class__"))
  ef_NoWriting : PySem.W.mroIn K a.c_NoWriting (.type "object") = some true
  eh_NoWriting : PySem.W.typeIn K (.ref a.c_NoWriting) = some (.type "type")
  ei_NoWriting : PySem.W.keepIn K (.ref a.c_NoWriting) = true
  es_NoWriting_QuoteError : PySem.W.subIn K (.ref a.c_NoWriting) (.ref a.c_QuoteError) = some true
  es_NoWriting_BadRules : PySem.W.subIn K (.ref a.c_NoWriting) (.ref a.c_BadRules) = some false
  es_NoWriting_BadText : PySem.W.subIn K (.ref a.c_NoWriting) (.ref a.c_BadText) = some false
  es_NoWriting_BadWords : PySem.W.subIn K (.ref a.c_NoWriting) (.ref a.c_BadWords) = some false
  es_NoWriting_Ended : PySem.W.subIn K (.ref a.c_NoWriting) (.ref a.c_Ended) = some false
  xc_NoWriting : ∃ nm q N bs bm sn sub ab col dd k0 k1 k2 k3 k5, K.lookup a.c_NoWriting = some (PySem.excClassObj nm q a.c_NoWriting N bs bm true sn sub ab col dd k0 k1 k2 k3 k5 "ValueError.__new__") ∧ PySem.HandSPX.refsVE bm = true
  sa_NoWriting : PySem.W.findIn K (.ref a.c_NoWriting) "__setattr__" = some (some (.builtin "object.__setattr__"))
  at_NoWriting : PySem.W.findIn K (.ref a.c_NoWriting) "at" = some none
  ti_NoWriting : PySem.W.typeIn K (.ref a.f_NoWriting_init) = some (.type "function")
  ui_NoWriting : PySem.W.findIn K (.ref a.c_NoWriting) "__init__" = some (some (.ref a.f_NoWriting_init))
  qr_QuoteError : PySem.W.readsIn K a.c_QuoteError (.type "type") = true
  qg_QuoteError : PySem.W.specialIn K (.ref a.c_QuoteError) "__getattribute__" = some (some (.builtin "type.__getattribute__"))
  qv_QuoteError : PySem.W.findCls K (.ref a.c_QuoteError) (.type "type") "__init__" = some (.val (.builtin "ValueError.__init__"))
  eg_Ended : CG mg "Ended" a.c_Ended
  ea_Ended : PySem.W.findIn K (.ref a.c_Ended) "__getattribute__" = some (some (.builtin "BaseException.__getattribute__"))
  eb_Ended : PySem.W.findIn K (.ref a.c_Ended) "__getattr__" = some none
  ec_Ended : PySem.W.subIn K (.ref a.c_Ended) (.type "BaseException") = some true
  ed_Ended : PySem.W.hasDictIn K a.c_Ended = true
  ee_Ended : PySem.W.findIn K (.ref a.c_Ended) "__class__" = some (some (.builtin "object.__class__"))
  ef_Ended : PySem.W.mroIn K a.c_Ended (.type "object") = some true
  eh_Ended : PySem.W.typeIn K (.ref a.c_Ended) = some (.type "type")
  ei_Ended : PySem.W.keepIn K (.ref a.c_Ended) = true
  es_Ended_QuoteError : PySem.W.subIn K (.ref a.c_Ended) (.ref a.c_QuoteError) = some true
  es_Ended_BadRules : PySem.W.subIn K (.ref a.c_Ended) (.ref a.c_BadRules) = some false
  es_Ended_BadText : PySem.W.subIn K (.ref a.c_Ended) (.ref a.c_BadText) = some false
  es_Ended_BadWords : PySem.W.subIn K (.ref a.c_Ended) (.ref a.c_BadWords) = some false
  es_Ended_NoWriting : PySem.W.subIn K (.ref a.c_Ended) (.ref a.c_NoWriting) = some false
  ex_Ended : PySem.W.excIn K a.c_Ended [.type "ValueError", .type "Exception", .type "BaseException", .type "object"] "ValueError.__new__" = true
  i_Rules : IsF K a.c_Rules
  ne_tab12 : (a.p__law_rules_right : Nat) ≠ a.p__law_texts_right
  ne_tab13 : (a.p__law_rules_right : Nat) ≠ a.p__law_words_right
  ne_tab23 : (a.p__law_texts_right : Nat) ≠ a.p__law_words_right
  xt_Rules : PySem.W.typeIn K (.ref a.c_Rules) = some (.type "type")
  xh_Rules : PySem.W.hasDictIn K a.c_Rules = true
  k_RR : PySem.W.kitOne K (.ref a.c_Rules) (.ref a.c_Rules) = some true
  sv_BadRules : PySem.W.subIn K (.ref a.c_BadRules) (.type "ValueError") = some true
  k_e00 : PySem.W.kitOne K (.ref a.c_BadRules) (.ref a.c_BadRules) = some true
  k_e01 : PySem.W.kitOne K (.ref a.c_BadRules) (.ref a.c_BadText) = some false
  k_e02 : PySem.W.kitOne K (.ref a.c_BadRules) (.ref a.c_BadWords) = some false
  k_e03 : PySem.W.kitOne K (.ref a.c_BadRules) (.ref a.c_NoWriting) = some false
  k_e04 : PySem.W.kitOne K (.ref a.c_BadRules) (.ref a.c_Ended) = some false
  sv_BadText : PySem.W.subIn K (.ref a.c_BadText) (.type "ValueError") = some true
  k_e10 : PySem.W.kitOne K (.ref a.c_BadText) (.ref a.c_BadRules) = some false
  k_e11 : PySem.W.kitOne K (.ref a.c_BadText) (.ref a.c_BadText) = some true
  k_e12 : PySem.W.kitOne K (.ref a.c_BadText) (.ref a.c_BadWords) = some false
  k_e13 : PySem.W.kitOne K (.ref a.c_BadText) (.ref a.c_NoWriting) = some false
  k_e14 : PySem.W.kitOne K (.ref a.c_BadText) (.ref a.c_Ended) = some false
  sv_BadWords : PySem.W.subIn K (.ref a.c_BadWords) (.type "ValueError") = some true
  k_e20 : PySem.W.kitOne K (.ref a.c_BadWords) (.ref a.c_BadRules) = some false
  k_e21 : PySem.W.kitOne K (.ref a.c_BadWords) (.ref a.c_BadText) = some false
  k_e22 : PySem.W.kitOne K (.ref a.c_BadWords) (.ref a.c_BadWords) = some true
  k_e23 : PySem.W.kitOne K (.ref a.c_BadWords) (.ref a.c_NoWriting) = some false
  k_e24 : PySem.W.kitOne K (.ref a.c_BadWords) (.ref a.c_Ended) = some false
  sv_NoWriting : PySem.W.subIn K (.ref a.c_NoWriting) (.type "ValueError") = some true
  k_e30 : PySem.W.kitOne K (.ref a.c_NoWriting) (.ref a.c_BadRules) = some false
  k_e31 : PySem.W.kitOne K (.ref a.c_NoWriting) (.ref a.c_BadText) = some false
  k_e32 : PySem.W.kitOne K (.ref a.c_NoWriting) (.ref a.c_BadWords) = some false
  k_e33 : PySem.W.kitOne K (.ref a.c_NoWriting) (.ref a.c_NoWriting) = some true
  k_e34 : PySem.W.kitOne K (.ref a.c_NoWriting) (.ref a.c_Ended) = some false
  sv_Ended : PySem.W.subIn K (.ref a.c_Ended) (.type "ValueError") = some true
  k_e40 : PySem.W.kitOne K (.ref a.c_Ended) (.ref a.c_BadRules) = some false
  k_e41 : PySem.W.kitOne K (.ref a.c_Ended) (.ref a.c_BadText) = some false
  k_e42 : PySem.W.kitOne K (.ref a.c_Ended) (.ref a.c_BadWords) = some false
  k_e43 : PySem.W.kitOne K (.ref a.c_Ended) (.ref a.c_NoWriting) = some false
  k_e44 : PySem.W.kitOne K (.ref a.c_Ended) (.ref a.c_Ended) = some true
theorem bi_NoWriting_init {K : PySem.W.Frag} {mg : Str → Option Value} {a : Ad} (T : Txt K mg a) : Binds K a.d_NoWriting_init P_NoWriting_init [] := T.F_NoWriting_init.binds (ps := P_NoWriting_init) fun _ _ _ _ _ _ us hl => match us, hl with | [_, _], _ => rfl
theorem bi_are_signs {K : PySem.W.Frag} {mg : Str → Option Value} {a : Ad} (T : Txt K mg a) : Binds K a.d_are_signs P_are_signs [] := T.F_are_signs.binds (ps := P_are_signs) fun _ _ _ _ _ _ us hl => match us, hl with | [_], _ => rfl
theorem bi_Rules_told {K : PySem.W.Frag} {mg : Str → Option Value} {a : Ad} (T : Txt K mg a) : Binds K a.d_Rules_told P_Rules_told [] := T.F_Rules_told.binds (ps := P_Rules_told) fun _ _ _ _ _ _ us hl => match us, hl with | [_], _ => rfl
theorem bi_Rules_quotes {K : PySem.W.Frag} {mg : Str → Option Value} {a : Ad} (T : Txt K mg a) : Binds K a.d_Rules_quotes P_Rules_quotes [] := T.F_Rules_quotes.binds (ps := P_Rules_quotes) fun _ _ _ _ _ _ us hl => match us, hl with | [_], _ => rfl
theorem bi_Rules_special {K : PySem.W.Frag} {mg : Str → Option Value} {a : Ad} (T : Txt K mg a) : Binds K a.d_Rules_special P_Rules_special [] := T.F_Rules_special.binds (ps := P_Rules_special) fun _ _ _ _ _ _ us hl => match us, hl with | [_, _], _ => rfl
theorem bi_Machine_init {K : PySem.W.Frag} {mg : Str → Option Value} {a : Ad} (T : Txt K mg a) : Binds K a.d_Machine_init P_Machine_init [] := T.F_Machine_init.binds (ps := P_Machine_init) fun _ _ _ _ _ _ us hl => match us, hl with | [_, _], _ => rfl
theorem bi_Machine_key {K : PySem.W.Frag} {mg : Str → Option Value} {a : Ad} (T : Txt K mg a) : Binds K a.d_Machine_key P_Machine_key [] := T.F_Machine_key.binds (ps := P_Machine_key) fun _ _ _ _ _ _ us hl => match us, hl with | [_], _ => rfl
theorem bi_Machine_begin {K : PySem.W.Frag} {mg : Str → Option Value} {a : Ad} (T : Txt K mg a) : Binds K a.d_Machine_begin P_Machine_begin [] := T.F_Machine_begin.binds (ps := P_Machine_begin) fun _ _ _ _ _ _ us hl => match us, hl with | [_], _ => rfl
theorem bi_Machine_ended {K : PySem.W.Frag} {mg : Str → Option Value} {a : Ad} (T : Txt K mg a) : Binds K a.d_Machine_ended P_Machine_ended [] := T.F_Machine_ended.binds (ps := P_Machine_ended) fun _ _ _ _ _ _ us hl => match us, hl with | [_], _ => rfl
theorem bi_Machine_plain {K : PySem.W.Frag} {mg : Str → Option Value} {a : Ad} (T : Txt K mg a) : Binds K a.d_Machine_plain P_Machine_plain [] := T.F_Machine_plain.binds (ps := P_Machine_plain) fun _ _ _ _ _ _ us hl => match us, hl with | [_, _], _ => rfl
theorem bi_Machine_quoted {K : PySem.W.Frag} {mg : Str → Option Value} {a : Ad} (T : Txt K mg a) : Binds K a.d_Machine_quoted P_Machine_quoted [] := T.F_Machine_quoted.binds (ps := P_Machine_quoted) fun _ _ _ _ _ _ us hl => match us, hl with | [_, _], _ => rfl
theorem bi_Machine_step {K : PySem.W.Frag} {mg : Str → Option Value} {a : Ad} (T : Txt K mg a) : Binds K a.d_Machine_step P_Machine_step [] := T.F_Machine_step.binds (ps := P_Machine_step) fun _ _ _ _ _ _ us hl => match us, hl with | [_, _], _ => rfl
theorem bi_Machine_fault {K : PySem.W.Frag} {mg : Str → Option Value} {a : Ad} (T : Txt K mg a) : Binds K a.d_Machine_fault P_Machine_fault [] := T.F_Machine_fault.binds (ps := P_Machine_fault) fun _ _ _ _ _ _ us hl => match us, hl with | [_], _ => rfl
theorem bi_read_all {K : PySem.W.Frag} {mg : Str → Option Value} {a : Ad} (T : Txt K mg a) : Binds K a.d_read_all P_read_all [] := T.F_read_all.binds (ps := P_read_all) fun _ _ _ _ _ _ us hl => match us, hl with | [_, _], _ => rfl
theorem bi_states_of {K : PySem.W.Frag} {mg : Str → Option Value} {a : Ad} (T : Txt K mg a) : Binds K a.d_states_of P_states_of [] := T.F_states_of.binds (ps := P_states_of) fun _ _ _ _ _ _ us hl => match us, hl with | [_], _ => rfl
theorem bi_cost_of {K : PySem.W.Frag} {mg : Str → Option Value} {a : Ad} (T : Txt K mg a) : Binds K a.d_cost_of P_cost_of [] := T.F_cost_of.binds (ps := P_cost_of) fun _ _ _ _ _ _ us hl => match us, hl with | [_, _, _], _ => rfl
theorem bi_entered {K : PySem.W.Frag} {mg : Str → Option Value} {a : Ad} (T : Txt K mg a) : Binds K a.d_entered P_entered [] := T.F_entered.binds (ps := P_entered) fun _ _ _ _ _ _ us hl => match us, hl with | [_], _ => rfl
theorem bi_cannot {K : PySem.W.Frag} {mg : Str → Option Value} {a : Ad} (T : Txt K mg a) : Binds K a.d_cannot P_cannot [] := T.F_cannot.binds (ps := P_cannot) fun _ _ _ _ _ _ us hl => match us, hl with | [_, _], _ => rfl
theorem bi_heights_of {K : PySem.W.Frag} {mg : Str → Option Value} {a : Ad} (T : Txt K mg a) : Binds K a.d_heights_of P_heights_of [] := T.F_heights_of.binds (ps := P_heights_of) fun _ _ _ _ _ _ us hl => match us, hl with | [_, _, _], _ => rfl
theorem bi_written_by {K : PySem.W.Frag} {mg : Str → Option Value} {a : Ad} (T : Txt K mg a) : Binds K a.d_written_by P_written_by [] := T.F_written_by.binds (ps := P_written_by) fun _ _ _ _ _ _ us hl => match us, hl with | [_, _, _], _ => rfl
theorem bi_part_of {K : PySem.W.Frag} {mg : Str → Option Value} {a : Ad} (T : Txt K mg a) : Binds K a.d_part_of P_part_of [] := T.F_part_of.binds (ps := P_part_of) fun _ _ _ _ _ _ us hl => match us, hl with | [_, _], _ => rfl
theorem bi_few_signs {K : PySem.W.Frag} {mg : Str → Option Value} {a : Ad} (T : Txt K mg a) : Binds K a.d_few_signs P_few_signs [] := T.F_few_signs.binds (ps := P_few_signs) fun _ _ _ _ _ _ us hl => match us, hl with | [_, _], _ => rfl
theorem bi_read_alike {K : PySem.W.Frag} {mg : Str → Option Value} {a : Ad} (T : Txt K mg a) : Binds K a.d_read_alike P_read_alike [] := T.F_read_alike.binds (ps := P_read_alike) fun _ _ _ _ _ _ us hl => match us, hl with | [_, _, _], _ => rfl
theorem bi_trail {K : PySem.W.Frag} {mg : Str → Option Value} {a : Ad} (T : Txt K mg a) : Binds K a.d_trail P_trail [] := T.F_trail.binds (ps := P_trail) fun _ _ _ _ _ _ us hl => match us, hl with | [_, _], _ => rfl
theorem bi_marks_of {K : PySem.W.Frag} {mg : Str → Option Value} {a : Ad} (T : Txt K mg a) : Binds K a.d_marks_of P_marks_of [] := T.F_marks_of.binds (ps := P_marks_of) fun _ _ _ _ _ _ us hl => match us, hl with | [_], _ => rfl
theorem bi_node_of {K : PySem.W.Frag} {mg : Str → Option Value} {a : Ad} (T : Txt K mg a) : Binds K a.d_node_of P_node_of [] := T.F_node_of.binds (ps := P_node_of) fun _ _ _ _ _ _ us hl => match us, hl with | [_, _, _], _ => rfl
theorem bi_first_parted {K : PySem.W.Frag} {mg : Str → Option Value} {a : Ad} (T : Txt K mg a) : Binds K a.d_first_parted P_first_parted [] := T.F_first_parted.binds (ps := P_first_parted) fun _ _ _ _ _ _ us hl => match us, hl with | [_, _], _ => rfl
theorem bi_Words_init {K : PySem.W.Frag} {mg : Str → Option Value} {a : Ad} (T : Txt K mg a) : Binds K a.d_Words_init P_Words_init [] := T.F_Words_init.binds (ps := P_Words_init) fun _ _ _ _ _ _ us hl => match us, hl with | [_, _, _], _ => rfl
theorem bi_Fault_init {K : PySem.W.Frag} {mg : Str → Option Value} {a : Ad} (T : Txt K mg a) : Binds K a.d_Fault_init P_Fault_init [] := T.F_Fault_init.binds (ps := P_Fault_init) fun _ _ _ _ _ _ us hl => match us, hl with | [_, _], _ => rfl
theorem bi_Shortest_init {K : PySem.W.Frag} {mg : Str → Option Value} {a : Ad} (T : Txt K mg a) : Binds K a.d_Shortest_init P_Shortest_init [] := T.F_Shortest_init.binds (ps := P_Shortest_init) fun _ _ _ _ _ _ us hl => match us, hl with | [_, _, _], _ => rfl
theorem bi_Parted_init {K : PySem.W.Frag} {mg : Str → Option Value} {a : Ad} (T : Txt K mg a) : Binds K a.d_Parted_init P_Parted_init [] := T.F_Parted_init.binds (ps := P_Parted_init) fun _ _ _ _ _ _ us hl => match us, hl with | [_, _], _ => rfl
theorem bi_compared {K : PySem.W.Frag} {mg : Str → Option Value} {a : Ad} (T : Txt K mg a) : Binds K a.d_compared P_compared [] := T.F_compared.binds (ps := P_compared) fun _ _ _ _ _ _ us hl => match us, hl with | [_, _], _ => rfl
theorem bi_split {K : PySem.W.Frag} {mg : Str → Option Value} {a : Ad} (T : Txt K mg a) : Binds K a.d_split P_split [] := T.F_split.binds (ps := P_split) fun _ _ _ _ _ _ us hl => match us, hl with | [_, _], _ => rfl
theorem bi_Splitter_init {K : PySem.W.Frag} {mg : Str → Option Value} {a : Ad} (T : Txt K mg a) : Binds K a.d_Splitter_init P_Splitter_init [] := T.F_Splitter_init.binds (ps := P_Splitter_init) fun _ _ _ _ _ _ us hl => match us, hl with | [_, _], _ => rfl
theorem bi_Splitter_take {K : PySem.W.Frag} {mg : Str → Option Value} {a : Ad} (T : Txt K mg a) : Binds K a.d_Splitter_take P_Splitter_take [] := T.F_Splitter_take.binds (ps := P_Splitter_take) fun _ _ _ _ _ _ us hl => match us, hl with | [_, _], _ => rfl
theorem bi_Splitter_end {K : PySem.W.Frag} {mg : Str → Option Value} {a : Ad} (T : Txt K mg a) : Binds K a.d_Splitter_end P_Splitter_end [] := T.F_Splitter_end.binds (ps := P_Splitter_end) fun _ _ _ _ _ _ us hl => match us, hl with | [_], _ => rfl
theorem bi_one_written {K : PySem.W.Frag} {mg : Str → Option Value} {a : Ad} (T : Txt K mg a) : Binds K a.d_one_written P_one_written [] := T.F_one_written.binds (ps := P_one_written) fun _ _ _ _ _ _ us hl => match us, hl with | [_, _], _ => rfl
theorem bi_shortest {K : PySem.W.Frag} {mg : Str → Option Value} {a : Ad} (T : Txt K mg a) : Binds K a.d_shortest P_shortest [] := T.F_shortest.binds (ps := P_shortest) fun _ _ _ _ _ _ us hl => match us, hl with | [_, _], _ => rfl
theorem bi__law_kinds {K : PySem.W.Frag} {mg : Str → Option Value} {a : Ad} (T : Txt K mg a) : Binds K a.d__law_kinds P__law_kinds [] := T.F__law_kinds.binds (ps := P__law_kinds) fun _ _ _ _ _ _ us hl => match us, hl with | [_], _ => rfl
theorem bi__law_refused {K : PySem.W.Frag} {mg : Str → Option Value} {a : Ad} (T : Txt K mg a) : Binds K a.d__law_refused P__law_refused [] := T.F__law_refused.binds (ps := P__law_refused) fun _ _ _ _ _ _ us hl => match us, hl with | [_, _, _], _ => rfl
theorem bi__law_all {K : PySem.W.Frag} {mg : Str → Option Value} {a : Ad} (T : Txt K mg a) : Binds K a.d__law_all P__law_all [] := T.F__law_all.binds (ps := P__law_all) fun _ _ _ _ _ _ us hl => match us, hl with | [_, _, _], _ => rfl
theorem bi__law_rules_right {K : PySem.W.Frag} {mg : Str → Option Value} {a : Ad} (T : Txt K mg a) : Binds K a.d__law_rules_right P__law_rules_right [] := T.F__law_rules_right.binds (ps := P__law_rules_right) fun _ _ _ _ _ _ us hl => match us, hl with | [_], _ => rfl
theorem bi__law_texts_right {K : PySem.W.Frag} {mg : Str → Option Value} {a : Ad} (T : Txt K mg a) : Binds K a.d__law_texts_right P__law_texts_right [] := T.F__law_texts_right.binds (ps := P__law_texts_right) fun _ _ _ _ _ _ us hl => match us, hl with | [_], _ => rfl
theorem bi__law_words_right {K : PySem.W.Frag} {mg : Str → Option Value} {a : Ad} (T : Txt K mg a) : Binds K a.d__law_words_right P__law_words_right [] := T.F__law_words_right.binds (ps := P__law_words_right) fun _ _ _ _ _ _ us hl => match us, hl with | [_], _ => rfl
theorem bi_law {K : PySem.W.Frag} {mg : Str → Option Value} {a : Ad} (T : Txt K mg a) : Binds K a.d_law P_law [] := T.F_law.binds (ps := P_law) fun _ _ _ _ _ _ us hl => match us, hl with | [_], _ => rfl
end Qw

set_option Elab.async false
set_option linter.all false
set_option maxRecDepth 100000
set_option maxHeartbeats 4000000
namespace Qw
open PySem L2
/-! ### the machine, told in plain Lean -/
structure RS where
  breaks : Tx
  hard : Tx
  soft : Tx
  bend : Tx
  note : Tx
def RS.f (r : RS) : List (Str × V) := [("breaks", .str (S r.breaks)), ("hard", .str (S r.hard)), ("soft", .str (S r.soft)), ("bend", .str (S r.bend)), ("note", .str (S r.note))]
def RS.quotes (r : RS) : Tx := r.hard ++ r.soft
abbrev NT : Tx := [110, 111, 116, 101]
abbrev LE : Nat := 10
abbrev W3 := Tx × Nat × Nat
structure MS where
  rules : Addr
  state : Tx
  bent : Bool
  word : Option Tx
  begun : Nat
  opened : Nat
  place : Nat
def oV : Option Tx → V
  | none => .non
  | some w => .str (S w)
def MS.f (m : MS) : List (Str × V) := [("rules", .ref m.rules), ("state", .str (S m.state)), ("bent", .bl m.bent), ("word", oV m.word), ("begun", .int m.begun), ("opened", .int m.opened), ("place", .int m.place)]
def MS.zero (r : Addr) : MS := ⟨r, [], false, none, 0, 0, 0⟩
def MS.begin (m : MS) : MS := match m.word with
  | none => { m with word := some [], begun := m.place }
  | some _ => m
def MS.out (m : MS) : List W3 := match m.word with
  | none => []
  | some w => [(w, m.begun, m.place)]
def MS.drop (m : MS) : MS := { m with word := none }
def MS.add (m : MS) (c : Nat) : MS := { m with word := m.word.map (· ++ [c]) }
def MS.plain (r : RS) (m : MS) (c : Nat) : MS × List W3 :=
  if c ∈ r.breaks then (m.drop, m.out)
  else if c ∈ r.note then ({ m.drop with state := NT }, m.out)
  else if c ∈ r.quotes then ({ m.begin with state := [c], opened := m.begin.place }, [])
  else if c ∈ r.bend then ({ m.begin with bent := true, opened := m.begin.place }, [])
  else (m.begin.add c, [])
section lk
variable (r : RS) (m : MS)
theorem lk_breaks : List.lookup ("breaks" : Str) r.f = some (.str (S r.breaks)) := by kernel_rfl
theorem lk_hard : List.lookup ("hard" : Str) r.f = some (.str (S r.hard)) := by kernel_rfl
theorem lk_soft : List.lookup ("soft" : Str) r.f = some (.str (S r.soft)) := by kernel_rfl
theorem lk_bend : List.lookup ("bend" : Str) r.f = some (.str (S r.bend)) := by kernel_rfl
theorem lk_note : List.lookup ("note" : Str) r.f = some (.str (S r.note)) := by kernel_rfl
theorem lk_rules : List.lookup ("rules" : Str) m.f = some (.ref m.rules) := by kernel_rfl
theorem lk_state : List.lookup ("state" : Str) m.f = some (.str (S m.state)) := by kernel_rfl
theorem lk_bent : List.lookup ("bent" : Str) m.f = some (.bl m.bent) := by kernel_rfl
theorem lk_word : List.lookup ("word" : Str) m.f = some (oV m.word) := by kernel_rfl
theorem lk_begun : List.lookup ("begun" : Str) m.f = some (.int m.begun) := by kernel_rfl
theorem lk_opened : List.lookup ("opened" : Str) m.f = some (.int m.opened) := by kernel_rfl
theorem lk_place : List.lookup ("place" : Str) m.f = some (.int m.place) := by kernel_rfl
theorem pt_state (x : Tx) : putF ("state" : Str) (.str (S x)) m.f = { m with state := x }.f := by kernel_rfl
theorem pt_bent (x : Bool) : putF ("bent" : Str) (.bl x) m.f = { m with bent := x }.f := by kernel_rfl
theorem pt_word (x : Option Tx) : putF ("word" : Str) (oV x) m.f = { m with word := x }.f := by kernel_rfl
theorem pt_begun (x : Nat) : putF ("begun" : Str) (.int x) m.f = { m with begun := x }.f := by kernel_rfl
theorem pt_opened (x : Nat) : putF ("opened" : Str) (.int x) m.f = { m with opened := x }.f := by kernel_rfl
theorem pt_place (x : Nat) : putF ("place" : Str) (.int x) m.f = { m with place := x }.f := by kernel_rfl
theorem pt_wordS (x : Tx) : putF ("word" : Str) (.str (S x)) m.f = { m with word := some x }.f := by kernel_rfl
theorem pt_wordN : putF ("word" : Str) .non m.f = { m with word := none }.f := by kernel_rfl
theorem pt_place1 (x : Nat) : putF ("place" : Str) (.int ((x : Int) + 1)) m.f = { m with place := x + 1 }.f := by kernel_rfl
theorem litv_empty : V.str (Str.ofString "") = V.str (S []) := by decide +kernel
theorem litv_note : V.str (Str.ofString "note") = V.str (S NT) := by decide +kernel
theorem litv_nl : V.str (Str.ofString "\n") = V.str (S [LE]) := by decide +kernel
theorem lkn_begin : List.lookup ("begin" : Str) m.f = none := by kernel_rfl
theorem lkn_ended : List.lookup ("ended" : Str) m.f = none := by kernel_rfl
theorem lkn_plain : List.lookup ("plain" : Str) m.f = none := by kernel_rfl
theorem lkn_quoted : List.lookup ("quoted" : Str) m.f = none := by kernel_rfl
theorem lkn_step : List.lookup ("step" : Str) m.f = none := by kernel_rfl
theorem lkn_fault : List.lookup ("fault" : Str) m.f = none := by kernel_rfl
theorem lkn_key : List.lookup ("key" : Str) m.f = none := by kernel_rfl
theorem lkn_told : List.lookup ("told" : Str) r.f = none := by kernel_rfl
theorem lkn_quotes : List.lookup ("quotes" : Str) r.f = none := by kernel_rfl
theorem lkn_special : List.lookup ("special" : Str) r.f = none := by kernel_rfl
theorem oV_inj {x y : Option Tx} : oV x = oV y ↔ x = y := by
  cases x <;> cases y <;> simp [oV, S_inj]
theorem mf_inj {m m' : MS} : m.f = m'.f ↔ m = m' := by
  constructor
  · intro h
    cases m; cases m'
    simp only [MS.f, List.cons.injEq, Prod.mk.injEq, V.ref.injEq, V.str.injEq, V.bl.injEq, V.int.injEq, S_inj, oV_inj, true_and, and_true, Int.natCast_inj] at h
    obtain ⟨h1, h2, h3, h4, h5, h6, h7⟩ := h
    subst h1 h2 h3 h4 h5 h6 h7
    rfl
  · intro h; rw [h]
theorem rf_inj {r r' : RS} : r.f = r'.f ↔ r = r' := by
  constructor
  · intro h
    cases r; cases r'
    simp only [RS.f, List.cons.injEq, Prod.mk.injEq, V.str.injEq, S_inj, true_and, and_true] at h
    obtain ⟨h1, h2, h3, h4, h5⟩ := h
    subst h1 h2 h3 h4 h5
    rfl
  · intro h; rw [h]
theorem pt_open1 (x : Nat) : putF ("opened" : Str) (.int ((x : Int) + 1)) m.f = { m with opened := x + 1 }.f := by kernel_rfl
theorem len_mf : m.f.length < 1000 := by show 7 < 1000; decide
end lk
theorem cx_K {CX : CXT} {P : Program} {w : World} {K : PySem.W.Frag} {mg : Str → Option Value} {base : Heap} {N : List Str} {q : Str} {sc : Scope} {f : Addr} {cd : Value} {A : Around} {o : List Env} {s : Shared} {H : Hp} {E : XK} : (cxOf CX P w K mg base N q sc f cd A o s H E).K = K := rfl
theorem cx_N {CX : CXT} {P : Program} {w : World} {K : PySem.W.Frag} {mg : Str → Option Value} {base : Heap} {N : List Str} {q : Str} {sc : Scope} {f : Addr} {cd : Value} {A : Around} {o : List Env} {s : Shared} {H : Hp} {E : XK} : (cxOf CX P w K mg base N q sc f cd A o s H E).nox.K = K := rfl
local macro_rules | `(tactic| walk_at "rd") => `(tactic| simp only [tSeq, tNext, tAsg, tRet, tRetN, tDrop, tIfS, sFld, sFldAug, tVar, tC, tOp, tUn, tTest, tB, tAnd, tOr, tNot, tAndV, tOrV, tNotV, tIf, tTup, tLst, tCons, tNil, tCB, tCall, tMeth, tMake, tFld, rI, rI0, rU, rEq, rNe, rCat, gName, gTup, gCons, gNil, tPar, tPar3, tBM, tBM0, rAppend, rExtend, rPopAt, rIxL, rIxT, rIxS, tSl, rSlS, rSlL, tPart, tNoPart, iStr, iTup, iList, iRng1, tAug, ipI, L2.rAdd, L2.rSub, L2.rAddS, tChain, rIsB, rNotB, scal_ss, scal_ii, scal_bb, scal_nn, scal_in, scal_ni, tYes,
  cx_K, cx_N, List.getElem?_cons_zero, List.getElem?_cons_succ, List.set_cons_zero, List.set_cons_succ, List.nil_append, List.cons_append, List.append_nil, List.length_cons, List.length_nil, Nat.zero_add,
  Option.some.injEq, V.ref.injEq, V.int.injEq, V.str.injEq, V.bl.injEq, HO.ins.injEq, HO.lst.injEq, HO.tup.injEq, List.cons.injEq, exists_eq_left, exists_eq_left', exists_eq_right, exists_eq_right', and_true, true_and, exists_and_left, exists_and_right, and_assoc, decide_eq_true_eq, Bool.not_eq_true', decide_eq_false_iff_not, reduceCtorEq, exists_const, forall_const, if_true, if_false, false_and, and_false, ite_true, ite_false, Bool.true_eq_false, Bool.false_eq_true, Nat.reduceLeDiff, Nat.reduceAdd, small_line, small_lt, upd_ne, ne_eq, not_false_eq_true, Nat.zero_le, Prod.mk.injEq, upd_same, upd_upd, S_tl, S_len, S_app, S_one, S_inj,
  lk_breaks, lk_hard, lk_soft, lk_bend, lk_note, lk_rules, lk_state, lk_bent, lk_word, lk_begun, lk_opened, lk_place, pt_state, pt_bent, pt_word, pt_wordS, pt_wordN, pt_begun, pt_opened, pt_place, pt_place1, len_mf, litv_empty, litv_note, litv_nl, mf_inj, rf_inj, lkn_begin, lkn_ended, lkn_plain, lkn_quoted, lkn_step, lkn_fault, lkn_key, lkn_told, lkn_quotes, lkn_special, pt_open1, not_true_eq_false, not_false_eq_true])
local macro_rules | `(tactic| walk_at "rdh") => `(tactic| simp only [tSeq, tNext, tAsg, tRet, tRetN, tDrop, tIfS, sFld, sFldAug, tVar, tC, tOp, tUn, tTest, tB, tAnd, tOr, tNot, tAndV, tOrV, tNotV, tIf, tTup, tLst, tCons, tNil, tCB, tCall, tMeth, tMake, tFld, rI, rI0, rU, rEq, rNe, rCat, gName, gTup, gCons, gNil, tPar, tPar3, tBM, tBM0, rAppend, rExtend, rPopAt, rIxL, rIxT, rIxS, tSl, rSlS, rSlL, tPart, tNoPart, iStr, iTup, iList, iRng1, tAug, ipI, L2.rAdd, L2.rSub, L2.rAddS, tChain, rIsB, rNotB, scal_ss, scal_ii, scal_bb, scal_nn, scal_in, scal_ni, tYes,
  cx_K, cx_N, List.getElem?_cons_zero, List.getElem?_cons_succ, List.set_cons_zero, List.set_cons_succ, List.nil_append, List.cons_append, List.append_nil, List.length_cons, List.length_nil, Nat.zero_add,
  Option.some.injEq, V.ref.injEq, V.int.injEq, V.str.injEq, V.bl.injEq, HO.ins.injEq, HO.lst.injEq, HO.tup.injEq, List.cons.injEq, exists_eq_left, exists_eq_left', exists_eq_right, exists_eq_right', and_true, true_and, exists_and_left, exists_and_right, and_assoc, decide_eq_true_eq, Bool.not_eq_true', decide_eq_false_iff_not, reduceCtorEq, exists_const, forall_const, if_true, if_false, false_and, and_false, ite_true, ite_false, Bool.true_eq_false, Bool.false_eq_true, Nat.reduceLeDiff, Nat.reduceAdd, small_line, small_lt, upd_ne, ne_eq, not_false_eq_true, Nat.zero_le, Prod.mk.injEq, upd_same, upd_upd, S_tl, S_len, S_app, S_one, S_inj,
  lk_breaks, lk_hard, lk_soft, lk_bend, lk_note, lk_rules, lk_state, lk_bent, lk_word, lk_begun, lk_opened, lk_place, pt_state, pt_bent, pt_word, pt_wordS, pt_wordN, pt_begun, pt_opened, pt_place, pt_place1, len_mf, litv_empty, litv_note, litv_nl, mf_inj, rf_inj, lkn_begin, lkn_ended, lkn_plain, lkn_quoted, lkn_step, lkn_fault, lkn_key, lkn_told, lkn_quotes, lkn_special, pt_open1, not_true_eq_false, not_false_eq_true, *])
local macro_rules | `(tactic| walk_at "pl") => `(tactic| (first | decide | (refine Nat.lt_of_le_of_lt (length_putF _ _ _) ?_; repeat (first | decide | refine pl2 ?_))))
/-! ### what is told: words with their places -/
def Fnd (H : Hp) (x : V) (d : W3) : Prop := ∃ t u, x = .ref t ∧ H t = some (.tup [.str (S d.1), .ref u]) ∧ H u = some (.tup [.int d.2.1, .int d.2.2])
abbrev Fnds (H : Hp) (xs : List V) (ds : List W3) : Prop := Paired (Fnd H) xs ds
theorem Fnd.mono {H H' : Hp} {x : V} {d : W3} (h : Fnd H x d) (t : Tk H H') : Fnd H' x d := by
  obtain ⟨b, u, e, h1, h2⟩ := h
  exact ⟨b, u, e, t _ _ h1, t _ _ h2⟩
theorem Fnds.mono {H H' : Hp} {xs : List V} {ds : List W3} (h : Fnds H xs ds) (t : Tk H H') : Fnds H' xs ds := Paired.mapP h fun _ _ q => q.mono t
theorem Paired.app {α β : Type} {F : α → β → Prop} : ∀ {l₁ : List α} {l₂ : List β} {m₁ : List α} {m₂ : List β}, Paired F l₁ l₂ → Paired F m₁ m₂ → Paired F (l₁ ++ m₁) (l₂ ++ m₂)
  | _, _, _, _, .nil, h => h
  | _, _, _, _, .cons r t, h => .cons r (Paired.app t h)
/-! ### the machine's invariant -/
structure MS.Ok (m : MS) : Prop where
  st : m.state = [] ∨ m.state = NT ∨ ∃ q, m.state = [q]
  wd : (m.bent = true ∨ ∃ q, m.state = [q]) → ∃ w, m.word = some w
  ln : ∀ w, m.word = some w → w.length ≤ m.place
theorem MS.Ok.zero (r : Addr) : (MS.zero r).Ok := ⟨.inl rfl, fun h => (by rcases h with h | ⟨q, h⟩ <;> cases h), fun w h => (by cases h)⟩
def MS.quoted (r : RS) (m : MS) (c : Nat) : MS :=
  if [c] = m.state then { m with state := [] }
  else if c ∈ r.bend ∧ m.state.all (· ∈ r.soft) = true then { m with bent := true }
  else m.add c
def MS.step (r : RS) (m : MS) (c : Nat) : MS × List W3 :=
  let m1 := if m.state = NT ∧ c = LE then { m with state := [] } else m
  let x := if m1.bent = true then (({ m1 with bent := false } : MS).add c, []) else if m1.state = [] then m1.plain r c else if m1.state = NT then (m1, []) else (m1.quoted r c, [])
  ({ x.1 with place := x.1.place + 1 }, x.2)
def MS.fault (m : MS) : Option Nat := if m.bent = true ∨ (m.state ≠ [] ∧ m.state ≠ NT) then some m.opened else none
section
variable {P : Program} {w : World} {K : PySem.W.Frag} {mg : Str → Option Value} {base : Heap} {a : Ad}
theorem rm_ne {H : Hp} {p q C D dx dr : Addr} {m : MS} {r : RS} (h1 : H p = some (.ins C dx m.f)) (h2 : H q = some (.ins D dr r.f)) : q ≠ p :=
  Ne.symm (ne_of h1 h2 fun z => by injection z with _ _ z; exact absurd (congrArg List.length z) (by show ¬ (7 = 5); decide))
def sp_Machine_init (a : Ad) : Sp := fun vs H Q _ => ∃ p dx r, vs = [.ref p, .ref r] ∧ H p = some (.ins a.c_Machine dx []) ∧
  ∀ H', H' p = some (.ins a.c_Machine dx (MS.zero r).f) → Kp p H H' → Q .non H'
theorem ok_Machine_init (T : Txt K mg a) : FnOk P w K mg base CX0 1 a.f_Machine_init a.d_Machine_init P_Machine_init (sp_Machine_init a) := by
  refine T.F_Machine_init.ok sc_Machine_init (fun vs H Q E h => ?_) (fun cdv A outer s H vs Q E hr h => ?_)
  · obtain ⟨p, dx, m, rfl, _⟩ := h
    rfl
  · obtain ⟨p, dx, r, rfl, hM, k⟩ := h
    refine ⟨_,
(pss_cons (ps_fld (pv 0) (pv 1) rfl)
    (pss_cons (ps_fld (pv 0) (pe_glob (v := .str ("" : Str)) rfl T.g_PLAIN ⟨_, rfl⟩) rfl)
    (pss_cons (ps_fld (pv 0) pe_bl rfl)
    (pss_cons (ps_fld (pv 0) pe_non rfl)
    (pss_cons (ps_fld (pv 0) pe_int rfl)
    (pss_cons (ps_fld (pv 0) pe_int rfl)
    (pss_one (ps_fld (pv 0) pe_int rfl))))))))
      , ?_⟩
    rw [show start N_Machine_init [V.ref p, V.ref r] = [some (.ref p), some (.ref r)] from rfl]
    have hc := T.c_Machine.cl
    have n1 := T.n_Machine_word
    have n2 := T.n_Machine_place
    have n3 := T.n_Machine_begun
    have n4 := T.n_Machine_rules
    have n5 := T.n_Machine_state
    have n6 := T.n_Machine_bent
    have n7 := T.n_Machine_opened
    walk_at "rdh"
    refine ⟨by walk_at "pl", by walk_at "pl", by walk_at "pl", by walk_at "pl", by walk_at "pl", by walk_at "pl", by walk_at "pl", ?_⟩
    refine k _ ?_ kp_upd
    rw [upd_same]
    exact congrArg (fun l => some (HO.ins a.c_Machine dx l)) (show _ = (MS.zero r).f by kernel_rfl)
def sp_begin (a : Ad) : Sp := fun vs H Q _ => ∃ p dx m, vs = [.ref p] ∧ H p = some (.ins a.c_Machine dx (MS.f m)) ∧
  ∀ H', H' p = some (.ins a.c_Machine dx m.begin.f) → Kp p H H' → Q .non H'
theorem ok_Machine_begin (T : Txt K mg a) : FnOk P w K mg base CX0 1 a.f_Machine_begin a.d_Machine_begin P_Machine_begin (sp_begin a) := by
  refine T.F_Machine_begin.ok sc_Machine_begin (fun vs H Q E h => ?_) (fun cdv A outer s H vs Q E hr h => ?_)
  · obtain ⟨p, dx, m, rfl, _⟩ := h
    rfl
  · obtain ⟨p, dx, m, rfl, hM, k⟩ := h
    refine ⟨_,
(pss_one (ps_if (pt_cmpR op_isN (pe_fld (pv 0) rfl) pe_non (nomark _)) (pss_cons (ps_fld (pv 0) pe_str rfl)
    (pss_one (ps_fld (pv 0) (pe_fld (pv 0) rfl) rfl))) pss_nil))
      , ?_⟩
    rw [show start N_Machine_begin [V.ref p] = [some (.ref p)] from rfl]
    have hc := T.c_Machine.cl
    have n1 := T.n_Machine_word
    have n2 := T.n_Machine_place
    have n3 := T.n_Machine_begun
    walk_at "rdh"
    cases hw : m.word with
    | none =>
      simp only [oV, ite_true]
      refine k _ ?_ kp_upd
      rw [upd_same]
      simp only [MS.begin, hw]
    | some z =>
      simp only [oV, reduceCtorEq, ite_false]
      refine k _ ?_ fun b o e _ => e
      rw [hM]
      simp only [MS.begin, hw]
def sp_ended (a : Ad) : Sp := fun vs H Q _ => ∃ p dx m, vs = [.ref p] ∧ H p = some (.ins a.c_Machine dx (MS.f m)) ∧
  ∀ l H' xs, H l = none → H' l = some (.lst xs) → Fnds H' xs m.out → H' p = some (.ins a.c_Machine dx m.drop.f) → Kp p H H' → Q (.ref l) H'
theorem ok_Machine_ended (T : Txt K mg a) : FnOk P w K mg base CX0 1 a.f_Machine_ended a.d_Machine_ended P_Machine_ended (sp_ended a) := by
  refine T.F_Machine_ended.ok sc_Machine_ended (fun vs H Q E h => ?_) (fun cdv A outer s H vs Q E hr h => ?_)
  · obtain ⟨p, dx, m, rfl, _⟩ := h
    rfl
  · obtain ⟨p, dx, m, rfl, hM, k⟩ := h
    refine ⟨_,
(pss_cons (ps_if (pt_cmpR op_isN (pe_fld (pv 0) rfl) pe_non (nomark _)) (pss_one (ps_ret (pe_lst pa_nil))) pss_nil)
    (pss_cons (ps_set (i := 1) sc_Machine_ended.nd rfl (by first | exact Or.inl rfl | exact Or.inr rfl) (pe_lst (pa_cons (pe_tup (pa_cons (pe_fld (pv 0) rfl) (pa_cons (pe_tup (pa_cons (pe_fld (pv 0) rfl) (pa_cons (pe_fld (pv 0) rfl) pa_nil))) pa_nil))) pa_nil)))
    (pss_cons (ps_fld (pv 0) pe_non rfl)
    (pss_one (ps_ret (pv 1))))))
      , ?_⟩
    rw [show start N_Machine_ended [V.ref p] = [some (.ref p), none] from rfl]
    have hc := T.c_Machine.cl
    have n1 := T.n_Machine_word
    have n2 := T.n_Machine_place
    have n3 := T.n_Machine_begun
    walk_at "rdh"
    cases hw : m.word with
    | none =>
      simp only [oV, ite_true]
      intro l hl
      refine k l _ [] hl upd_same ?_ ?_ ((same_new hl).kp _)
      · simp only [MS.out, hw]; exact .nil
      · rw [upd_old hM hl]
        simp only [MS.drop, ← hw]
    | some z =>
      simp only [oV, reduceCtorEq, ite_false]
      intro t ht u hu l hl
      have ht' := none_upd hu
      have n4 := ne_upd hu
      have n5 := ne_upd hl
      have n6 := ne_upd (none_upd' hl n5)
      have n7 := none_upd (none_upd' hl n5)
      have e1 := ne_of_none hM ht
      have e2 := ne_of_none hM ht'
      have e3 := ne_of_none hM n7
      walk_at "rdh"
      refine k l _ [.ref u] n7 ?_ ?_ ?_ ?_
      · rw [upd_ne (Ne.symm e3), upd_same]
      · simp only [MS.out, hw]
        refine .cons ⟨u, t, rfl, ?_, ?_⟩ .nil
        · rw [upd_ne (Ne.symm e2), upd_ne (Ne.symm n5), upd_same]
        · rw [upd_ne (Ne.symm e1), upd_ne (Ne.symm n6), upd_ne (Ne.symm n4), upd_same]
      · rw [upd_same, MS.drop]
      · exact ((((same_new ht).trans (same_new hu)).trans (same_new hl)).kp p).upd
/-- the machine's sign: a sign outside of quoted stretches -/
def sp_plain (a : Ad) : Sp := fun vs H Q _ => ∃ p dx m c dr r, vs = [.ref p, .str (S [c])] ∧ H p = some (.ins a.c_Machine dx (MS.f m)) ∧ H m.rules = some (.ins a.c_Rules dr (RS.f r)) ∧ r.hard.length + r.soft.length ≤ 100 ∧ m.Ok ∧ m.place < 100000 ∧
  ∀ l H' xs, H l = none → H' l = some (.lst xs) → Fnds H' xs (m.plain r c).2 → H' p = some (.ins a.c_Machine dx (m.plain r c).1.f) → Kp p H H' → Q (.ref l) H'
def sp_quotes (a : Ad) : Sp := fun vs H Q _ => ∃ p dr r, vs = [.ref p] ∧ H p = some (.ins a.c_Rules dr (RS.f r)) ∧ r.hard.length + r.soft.length ≤ 100 ∧ Q (.str (S r.quotes)) H
theorem ok_Rules_quotes (T : Txt K mg a) : FnOk P w K mg base CX0 1 a.f_Rules_quotes a.d_Rules_quotes P_Rules_quotes (sp_quotes a) := by
  refine T.F_Rules_quotes.ok sc_Rules_quotes (fun vs H Q E h => ?_) (fun cdv A outer s H vs Q E hr h => ?_)
  · obtain ⟨p, dx, m, rfl, _⟩ := h
    rfl
  · obtain ⟨p, dx, m, rfl, hM, hz, k⟩ := h
    refine ⟨_,
(pss_one (ps_ret (pe_op op_add_str (pe_fld (pv 0) rfl) (pe_fld (pv 0) rfl))))
      , ?_⟩
    rw [show start N_Rules_quotes [V.ref p] = [some (.ref p)] from rfl]
    have hc := T.c_Rules.cl
    have n1 := T.n_Rules_hard
    have n2 := T.n_Rules_soft
    walk_at "rdh"
    exact ⟨Nat.le_trans hz (by decide), k⟩
theorem ok_Machine_plain (T : Txt K mg a) : FnOk P w K mg base CX0 2 a.f_Machine_plain a.d_Machine_plain P_Machine_plain (sp_plain a) := by
  refine T.F_Machine_plain.ok sc_Machine_plain (fun vs H Q E h => ?_) (fun cdv A outer s H vs Q E hr h => ?_)
  · obtain ⟨p, dx, m, c, dr, r, rfl, _⟩ := h
    rfl
  · obtain ⟨p, dx, m, c, dr, r, rfl, hM, hR, hq, ok, hz, k⟩ := h
    have G_Machine_ended := ok_Machine_ended (P := P) (w := w) (base := base) T
    have B_Machine_ended := bi_Machine_ended T
    have G_Machine_begin := ok_Machine_begin (P := P) (w := w) (base := base) T
    have B_Machine_begin := bi_Machine_begin T
    have G_Rules_quotes := ok_Rules_quotes (P := P) (w := w) (base := base) T
    have B_Rules_quotes := bi_Rules_quotes T
    refine ⟨_,
(pss_cons (ps_set (i := 2) sc_Machine_plain.nd rfl (by first | exact Or.inl rfl | exact Or.inr rfl) (pe_fld (pv 0) rfl))
    (pss_cons (ps_if (pt_cmpR op_in_sign (pv 1) (pe_fld (pv 2) rfl) rfl) (pss_one (ps_ret (pe_meth0 (pv 0) T.c_Machine.cl T.m_Machine_ended G_Machine_ended (hr.mono (by decide)) B_Machine_ended .nil pass0))) pss_nil)
    (pss_cons (ps_if (pt_cmpR op_in_sign (pv 1) (pe_fld (pv 2) rfl) rfl) (pss_cons (ps_fld (pv 0) (pe_glob (v := .str ("note" : Str)) rfl T.g_NOTED ⟨_, rfl⟩) rfl)
    (pss_one (ps_ret (pe_meth0 (pv 0) T.c_Machine.cl T.m_Machine_ended G_Machine_ended (hr.mono (by decide)) B_Machine_ended .nil pass0)))) pss_nil)
    (pss_cons (ps_expr (pe_meth0 (pv 0) T.c_Machine.cl T.m_Machine_begin G_Machine_begin (hr.mono (by decide)) B_Machine_begin .nil pass0))
    (pss_cons (ps_if (pt_cmpR op_in_sign (pv 1) (pe_meth0 (pv 2) T.c_Rules.cl T.m_Rules_quotes G_Rules_quotes (hr.mono (by decide)) B_Rules_quotes .nil pass0) rfl) (pss_cons (ps_fld (pv 0) (pv 1) rfl)
    (pss_one (ps_fld (pv 0) (pe_fld (pv 0) rfl) rfl))) (pss_one (ps_if (pt_cmpR op_in_sign (pv 1) (pe_fld (pv 2) rfl) rfl) (pss_cons (ps_fld (pv 0) pe_bl rfl)
    (pss_one (ps_fld (pv 0) (pe_fld (pv 0) rfl) rfl))) (pss_one (ps_fldaug (pv 0) (pv 1) in_addS)))))
    (pss_one (ps_ret (pe_lst pa_nil))))))))
      , ?_⟩
    rw [show start N_Machine_plain [V.ref p, V.str (S [c])] = [some (.ref p), some (.str (S [c])), none] from rfl]
    have hc := T.c_Machine.cl
    have hd := T.c_Rules.cl
    have n1 := T.n_Machine_word
    have n2 := T.n_Machine_place
    have n3 := T.n_Machine_rules
    have n4 := T.n_Machine_state
    have n5 := T.n_Machine_opened
    have n6 := T.n_Machine_bent
    have r1 := T.n_Rules_breaks
    have r2 := T.n_Rules_note
    have r3 := T.n_Rules_bend
    have hne := rm_ne hM hR
    walk_at "rdh"
    refine ite2 (fun c1 => ?_) (fun c1 => ?_)
    · refine ⟨p, dx, m, rfl, hM, fun l H' xs hl h1 h2 h3 h4 => k l H' xs hl h1 ?_ ?_ h4⟩
      · simpa only [MS.plain, if_pos c1] using h2
      · simpa only [MS.plain, if_pos c1] using h3
    refine ite2 (fun c2 => ?_) (fun c2 => ?_)
    · refine ⟨p, dx, _, rfl, upd_same, fun l H' xs hl h1 h2 h3 h4 => k l H' xs (none_upd hl) h1 ?_ ?_ (kp_upd.trans h4)⟩
      · simpa only [MS.plain, if_neg c1, if_pos c2, MS.out] using h2
      · simpa only [MS.plain, if_neg c1, if_pos c2, MS.drop] using h3
    refine ⟨p, dx, m, rfl, hM, fun H' h1 h2 => ?_⟩
    have hR' := h2 _ _ hR hne
    have er : m.begin.rules = m.rules := by unfold MS.begin; split <;> rfl
    have bk : ∀ {o u l}, upd (upd H' p o) l u p = some o → True := fun _ => trivial
    walk_at "rdh"
    refine ⟨_, _, _, rfl, hR', hq, ?_⟩
    walk_at "rdh"
    have fin : ∀ (m' : MS) (l : Addr), upd H' p (.ins a.c_Machine dx m'.f) l = none → MS.plain r m c = (m', []) → Q (.ref l) (upd (upd H' p (.ins a.c_Machine dx m'.f)) l (.lst [])) := fun m' l hl e => by
      have e1 := ne_upd hl
      refine k l _ [] ?_ upd_same ?_ ?_ ?_
      · cases q : H l with
        | none => rfl
        | some o => exact absurd (h2 l o q e1) (by rw [none_upd hl]; intro z; cases z)
      · rw [e]; exact .nil
      · rw [e, upd_ne (Ne.symm e1), upd_same]
      · exact (h2.upd).trans ((same_new hl).kp p)
    refine ite2 (fun c3 => ?_) (fun c3 => ?_)
    · intro l hl
      exact fin _ l hl (by simp only [MS.plain, if_neg c1, if_neg c2, if_pos c3, er])
    refine ite2 (fun c4 => ?_) (fun c4 => ?_)
    · intro l hl
      exact fin _ l hl (by simp only [MS.plain, if_neg c1, if_neg c2, if_neg c3, if_pos c4, er])
    obtain ⟨z, hz1, hz2⟩ : ∃ z, m.begin.word = some z ∧ z.length ≤ m.place := by
      unfold MS.begin
      cases hw : m.word with
      | none => exact ⟨[], rfl, Nat.zero_le _⟩
      | some z => exact ⟨z, hw, ok.ln z hw⟩
    rw [hz1]
    simp only [oV]
    walk_at "rdh"
    refine ⟨Nat.le_trans (Nat.succ_le_of_lt (Nat.lt_of_le_of_lt hz2 hz)) (by decide), fun l hl => ?_⟩
    exact fin _ l hl (by simp only [MS.plain, if_neg c1, if_neg c2, if_neg c3, if_neg c4, MS.add, er, hz1, Option.map])
def sp_quoted (a : Ad) : Sp := fun vs H Q _ => ∃ p dx m c dr r q z, vs = [.ref p, .str (S [c])] ∧ H p = some (.ins a.c_Machine dx (MS.f m)) ∧ H m.rules = some (.ins a.c_Rules dr (RS.f r)) ∧ m.state = [q] ∧ m.word = some z ∧ z.length ≤ m.place ∧ m.place < 100000 ∧
  ∀ H', H' p = some (.ins a.c_Machine dx (m.quoted r c).f) → Kp p H H' → Q .non H'
theorem ok_Machine_quoted (T : Txt K mg a) : FnOk P w K mg base CX0 1 a.f_Machine_quoted a.d_Machine_quoted P_Machine_quoted (sp_quoted a) := by
  refine T.F_Machine_quoted.ok sc_Machine_quoted (fun vs H Q E h => ?_) (fun cdv A outer s H vs Q E hr h => ?_)
  · obtain ⟨p, dx, m, c, dr, r, q, z, rfl, _⟩ := h
    rfl
  · obtain ⟨p, dx, m, c, dr, r, q, z, rfl, hM, hR, hs, hw, hz, hp, k⟩ := h
    obtain ⟨mr, ms, mb, mw, m1, m2, m3⟩ := m
    dsimp only at hs hw hR hz hp
    subst hs hw
    refine ⟨_,
(pss_one (ps_if (pt_cmpR op_eq (pv 1) (pe_fld (pv 0) rfl) (nomark _)) (pss_one (ps_fld (pv 0) (pe_glob (v := .str ("" : Str)) rfl T.g_PLAIN ⟨_, rfl⟩) rfl)) (pss_one (ps_if (PW.pt (pw_and (pt_cmpR op_in_sign (pv 1) (pe_fld (pe_fld (pv 0) rfl) rfl) rfl) (pw_and1 (pt_cmpR op_in_sign (pe_fld (pv 0) rfl) (pe_fld (pe_fld (pv 0) rfl) rfl) rfl)))) (pss_one (ps_fld (pv 0) pe_bl rfl)) (pss_one (ps_fldaug (pv 0) (pv 1) in_addS))))))
      , ?_⟩
    rw [show start N_Machine_quoted [V.ref p, V.str (S [c])] = [some (.ref p), some (.str (S [c]))] from rfl]
    have hc := T.c_Machine.cl
    have hd := T.c_Rules.cl
    have n1 := T.n_Machine_word
    have n3 := T.n_Machine_rules
    have n4 := T.n_Machine_state
    have n6 := T.n_Machine_bent
    have r1 := T.n_Rules_soft
    have r3 := T.n_Rules_bend
    have hne : mr ≠ p := rm_ne hM hR
    walk_at "rdh"
    simp only [oV]
    walk_at "rdh"
    have hl : List.length z + 1 ≤ sizeLine := Nat.le_trans (Nat.succ_le_of_lt (Nat.lt_of_le_of_lt hz hp)) (by decide)
    simp only [MS.quoted, MS.add, List.cons.injEq, and_true, List.all_cons, List.all_nil, Bool.and_true, decide_eq_true_eq, Option.map] at k
    refine ite2 (fun c1 => ?_) (fun c1 => ?_)
    · refine k _ ?_ kp_upd
      rw [upd_same, if_pos c1]
    refine ite2 (fun c2 => ?_) (fun c2 => ?_)
    · refine ite2 (fun c3 => ?_) (fun c3 => ?_)
      · refine k _ ?_ kp_upd
        rw [upd_same, if_neg c1, if_pos ⟨c2, c3⟩]
      · refine ⟨hl, k _ ?_ kp_upd⟩
        rw [upd_same, if_neg c1, if_neg (fun h => c3 h.2)]
    · refine ⟨hl, k _ ?_ kp_upd⟩
      rw [upd_same, if_neg c1, if_neg (fun h => c2 h.1)]
def sp_fault (a : Ad) : Sp := fun vs H Q _ => ∃ p dx m, vs = [.ref p] ∧ H p = some (.ins a.c_Machine dx (MS.f m)) ∧
  ∀ H', Same H H' → Q (match m.fault with | none => .non | some n => .int n) H'
theorem ok_Machine_fault (T : Txt K mg a) : FnOk P w K mg base CX0 1 a.f_Machine_fault a.d_Machine_fault P_Machine_fault (sp_fault a) := by
  refine T.F_Machine_fault.ok sc_Machine_fault (fun vs H Q E h => ?_) (fun cdv A outer s H vs Q E hr h => ?_)
  · obtain ⟨p, dx, m, rfl, _⟩ := h
    rfl
  · obtain ⟨p, dx, m, rfl, hM, k⟩ := h
    refine ⟨_,
(pss_one (ps_ret (pe_ifExp (PW.pt (pw_or (pt_val (pe_fld (pv 0) rfl)) (pw_or1 (pt_cmpR op_notIn_seq (pe_fld (pv 0) rfl) (pe_tup (pa_cons (pe_glob (v := .str ("" : Str)) rfl T.g_PLAIN ⟨_, rfl⟩) (pa_cons (pe_glob (v := .str ("note" : Str)) rfl T.g_NOTED ⟨_, rfl⟩) pa_nil))) rfl)))) (pe_fld (pv 0) rfl) pe_non)))
      , ?_⟩
    rw [show start N_Machine_fault [V.ref p] = [some (.ref p)] from rfl]
    have hc := T.c_Machine.cl
    have n4 := T.n_Machine_state
    have n5 := T.n_Machine_opened
    have n6 := T.n_Machine_bent
    walk_at "rdh"
    refine ite2 (fun c1 => ?_) (fun c1 => ?_)
    · have := k H (Same.refl H)
      rw [MS.fault, if_pos (.inl c1)] at this
      exact this
    intro t ht
    refine ⟨t, _, rfl, .inr (SqT.of upd_same), rfl, rfl, _, rfl, ?_⟩
    have hM' : upd H t (HO.tup [V.str (S []), V.str (S NT)]) p = some (HO.ins a.c_Machine dx m.f) := upd_old hM ht
    have c2 : (if true = true then !inV (V.str (S m.state)) [V.str (S []), V.str (S NT)] else inV (V.str (S m.state)) [V.str (S []), V.str (S NT)]) = decide (m.state ≠ [] ∧ m.state ≠ NT) := by
      simp only [inV, List.any, eqV, S_inj, ite_true, S_beq, Bool.or_false]
      rw [Bool.eq_iff_iff]
      simp only [Bool.not_eq_true', Bool.or_eq_false_iff, decide_eq_false_iff_not, decide_eq_true_eq]
      exact ⟨fun h => ⟨fun e => h.1 e.symm, fun e => h.2 e.symm⟩, fun h => ⟨fun e => h.1 e.symm, fun e => h.2 e.symm⟩⟩
    rw [c2]
    refine ite2 (fun c3 => ?_) (fun c3 => ?_)
    · walk_at "rdh"
      have := k (upd H t (HO.tup [V.str (S []), V.str (S NT)])) (same_new ht)
      rw [MS.fault, if_pos (.inr (of_decide_eq_true c3))] at this
      exact this
    · have := k (upd H t (HO.tup [V.str (S []), V.str (S NT)])) (same_new ht)
      rw [MS.fault, if_neg (fun h => h.elim c1 fun h => c3 (decide_eq_true h))] at this
      exact this
/-! ### a sign -/
theorem MS.rules_begin (m : MS) : m.begin.rules = m.rules := by unfold MS.begin; split <;> rfl
def sp_step (a : Ad) : Sp := fun vs H Q _ => ∃ p dx m c dr r, vs = [.ref p, .str (S [c])] ∧ H p = some (.ins a.c_Machine dx (MS.f m)) ∧ H m.rules = some (.ins a.c_Rules dr (RS.f r)) ∧ r.hard.length + r.soft.length ≤ 100 ∧ m.Ok ∧ m.place < 100000 ∧
  ∀ l H' xs, H l = none → H' l = some (.lst xs) → Fnds H' xs (m.step r c).2 → H' p = some (.ins a.c_Machine dx (m.step r c).1.f) → Kp p H H' → Q (.ref l) H'
theorem ok_Machine_step (T : Txt K mg a) : FnOk P w K mg base CX0 3 a.f_Machine_step a.d_Machine_step P_Machine_step (sp_step a) := by
  refine T.F_Machine_step.ok sc_Machine_step (fun vs H Q E h => ?_) (fun cdv A outer s H vs Q E hr h => ?_)
  · obtain ⟨p, dx, m, c, dr, r, rfl, _⟩ := h
    rfl
  · obtain ⟨p, dx, m, c, dr, r, rfl, hM, hR, hq, ok, hz, k⟩ := h
    have G_Machine_plain := ok_Machine_plain (P := P) (w := w) (base := base) T
    have B_Machine_plain := bi_Machine_plain T
    have G_Machine_quoted := ok_Machine_quoted (P := P) (w := w) (base := base) T
    have B_Machine_quoted := bi_Machine_quoted T
    refine ⟨_,
(pss_cons (ps_set (i := 2) sc_Machine_step.nd rfl (by first | exact Or.inl rfl | exact Or.inr rfl) (pe_lst pa_nil))
    (pss_cons (ps_if (PW.pt (pw_and (pt_cmpR op_eq (pe_fld (pv 0) rfl) (pe_glob (v := .str ("note" : Str)) rfl T.g_NOTED ⟨_, rfl⟩) (nomark _)) (pw_and1 (pt_cmpR op_eq (pv 1) (pe_glob (v := .str ("\n" : Str)) rfl T.g_LINE_END ⟨_, rfl⟩) (nomark _))))) (pss_one (ps_fld (pv 0) (pe_glob (v := .str ("" : Str)) rfl T.g_PLAIN ⟨_, rfl⟩) rfl)) pss_nil)
    (pss_cons (ps_if (pt_val (pe_fld (pv 0) rfl)) (pss_cons (ps_fld (pv 0) pe_bl rfl)
    (pss_one (ps_fldaug (pv 0) (pv 1) in_addS))) (pss_one (ps_if (pt_cmpR op_eq (pe_fld (pv 0) rfl) (pe_glob (v := .str ("" : Str)) rfl T.g_PLAIN ⟨_, rfl⟩) (nomark _)) (pss_one (ps_set (i := 2) sc_Machine_step.nd rfl (by first | exact Or.inl rfl | exact Or.inr rfl) (pe_meth (pv 0) T.c_Machine.cl T.m_Machine_plain G_Machine_plain (hr.mono (by decide)) B_Machine_plain .nil pass0 (pa_cons (pv 1) pa_nil)))) (pss_one (ps_if (pt_cmpR op_ne (pe_fld (pv 0) rfl) (pe_glob (v := .str ("note" : Str)) rfl T.g_NOTED ⟨_, rfl⟩) (nomark _)) (pss_one (ps_expr (pe_meth (pv 0) T.c_Machine.cl T.m_Machine_quoted G_Machine_quoted (hr.mono (by decide)) B_Machine_quoted .nil pass0 (pa_cons (pv 1) pa_nil)))) pss_nil)))))
    (pss_cons (ps_fldaug (pv 0) pe_int in_add)
    (pss_one (ps_ret (pv 2)))))))
      , ?_⟩
    rw [show start N_Machine_step [V.ref p, V.str (S [c])] = [some (.ref p), some (.str (S [c])), none] from rfl]
    have hc := T.c_Machine.cl
    have hd := T.c_Rules.cl
    have n1 := T.n_Machine_word
    have n2 := T.n_Machine_place
    have n4 := T.n_Machine_state
    have n6 := T.n_Machine_bent
    have hne := rm_ne hM hR
    walk_at "rdh"
    intro l0 hl0
    have S1 := same_new (o := HO.lst []) hl0
    have hM1 := S1 _ _ hM
    have hR1 := S1 _ _ hR
    have hL1 : upd H l0 (HO.lst []) l0 = some (HO.lst []) := upd_same
    generalize upd H l0 (HO.lst []) = H1 at *
    have np : p ≠ l0 := ne_of_none hM hl0
    -- the end: the place, and what is told
    have fin : ∀ (m' : MS) (l : Addr) (H' : Hp) (xs : List V), H l = none → H' l = some (.lst xs) → Fnds H' xs (m.step r c).2 → H' p = some (.ins a.c_Machine dx m'.f) → { m' with place := m'.place + 1 } = (m.step r c).1 → Kp p H H' →
        Q (.ref l) (upd H' p (.ins a.c_Machine dx { m' with place := m'.place + 1 }.f)) := fun m' l H' xs h1 h2 h3 h4 h5 h6 => by
      have e1 : l ≠ p := fun z => by rw [z] at h1; rw [h1] at hM; cases hM
      refine k l _ xs h1 ?_ (h3.mono (kp_upd.tk h4 fun _ z => by cases z)) ?_ (h6.upd)
      · rw [upd_ne e1]; exact h2
      · rw [upd_same, h5]
    have fin0 : ∀ m'' : MS, m.step r c = (m'', []) → Q (.ref l0) (upd H1 p (.ins a.c_Machine dx m''.f)) := fun m'' e => by
      refine k l0 _ [] hl0 ?_ (by rw [e]; exact .nil) (by rw [upd_same, e]) ((S1.kp p).upd)
      rw [upd_ne (Ne.symm np)]
      exact hL1
    have word : m.bent = true ∨ (∃ q, m.state = [q]) → ∃ z, m.word = some z ∧ z.length ≤ m.place := fun h => by
      obtain ⟨z, e⟩ := ok.wd h
      exact ⟨z, e, ok.ln z e⟩
    have room : ∀ z : Tx, z.length ≤ m.place → z.length + 1 ≤ sizeLine := fun z h => Nat.le_trans (Nat.succ_le_of_lt (Nat.lt_of_le_of_lt h hz)) (by decide)
    walk_at "rdh"
    by_cases hb : m.bent = true
    · obtain ⟨z, w1, w2⟩ := word (.inl hb)
      simp only [hb, w1, oV, ite_true]
      walk_at "rdh"
      refine ite2 (fun c1 => ?_) (fun c1 => ?_)
      · refine ite2 (fun c2 => ?_) (fun c2 => ?_)
        · exact fin0 _ (by simp [MS.step, c1, c2, hb, MS.add, w1])
        · exact fin0 _ (by simp [MS.step, c1, c2, hb, MS.add, w1])
      · exact fin0 _ (by simp [MS.step, c1, hb, MS.add, w1])
    · have hb' : m.bent = false := by simpa using hb
      simp only [hb', Bool.false_eq_true, ite_false]
      -- plain
      have pl : ∀ (m1 : MS) (H2 : Hp), H2 p = some (.ins a.c_Machine dx m1.f) → Kp p H H2 → m1.rules = m.rules → m1.place = m.place → m1.Ok → m.step r c = ({ (m1.plain r c).1 with place := (m1.plain r c).1.place + 1 }, (m1.plain r c).2) →
          sp_plain a [V.ref p, V.str (S [c])] H2 (fun x H1 => ∃ x_1 x_2 x_3, H1 p = some (HO.ins x_1 x_2 x_3) ∧ Cls K x_1 ∧ NoAttr K x_1 (Str.ofString "place") ∧ ∃ x_4, List.lookup (Str.ofString "place") x_3 = some x_4 ∧
            ∃ i, x_4 = V.int i ∧ ∃ dx' fs', H1 p = some (HO.ins x_1 dx' fs') ∧ fs'.length < 1000 ∧ Q x (upd H1 p (HO.ins x_1 dx' (putF (Str.ofString "place") (V.int (i + 1)) fs')))) E0 := fun m1 H2 h1 h2 h3 h4 h5 h6 => by
        refine ⟨p, dx, m1, c, dr, r, rfl, h1, (by rw [h3]; exact h2 _ _ hR hne), hq, h5, (by rw [h4]; exact hz), fun l H' xs g1 g2 g3 g4 g5 => ?_⟩
        walk_at "rdh"
        refine fin _ l H' xs ?_ g2 (by rw [h6]; exact g3) g4 (by rw [h6]) (h2.trans g5)
        cases e : H l with
        | none => rfl
        | some o =>
          have ne : l ≠ p := fun z => by rw [z] at g1; rw [g1] at h1; cases h1
          have := h2 _ _ e ne
          rw [g1] at this; cases this
      refine ite2 (fun c1 => ?_) (fun c1 => ?_)
      · refine ite2 (fun c2 => ?_) (fun c2 => ?_)
        · refine pl { m with state := [], bent := false } _ upd_same ((S1.kp p).upd) rfl rfl ⟨.inl rfl, fun h => ?_, ok.ln⟩ ?_
          · rcases h with h | ⟨q, h⟩ <;> cases h
          · simp only [MS.step, c1, c2, and_self, ite_true, hb', Bool.false_eq_true, ite_false]
        · have c3 : ¬ m.state = [] := by rw [c1]; intro z; cases z
          refine ite2 (fun c => absurd c c3) (fun _ => ?_)
          refine ite2 (fun c => absurd c1 c) (fun _ => ?_)
          exact fin0 _ (by simp [MS.step, c1, c2, hb'])
      · refine ite2 (fun c2 => ?_) (fun c2 => ?_)
        · refine pl m H1 hM1 (S1.kp p) rfl rfl ok ?_
          simp only [MS.step, if_neg (show ¬ (m.state = NT ∧ c = LE) from fun h => c1 h.1), hb', Bool.false_eq_true, ite_false, if_pos c2]
        · refine ite2 (fun _ => ?_) (fun c => absurd c1 c)
          obtain ⟨q, hs⟩ : ∃ q, m.state = [q] := by
            rcases ok.st with h | h | h
            · exact absurd h c2
            · exact absurd h c1
            · exact h
          obtain ⟨z, w1, w2⟩ := word (.inr ⟨q, hs⟩)
          refine ⟨p, dx, m, c, dr, r, q, z, rfl, hM1, hR1, hs, w1, w2, hz, fun H' g1 g2 => ?_⟩
          walk_at "rdh"
          have hL' := g2 _ _ hL1 (Ne.symm np)
          refine fin (m.quoted r c) l0 H' [] hl0 hL' (by simp [MS.step, c1, c2, hb']; exact .nil) g1 (by simp [MS.step, c1, c2, hb']) ((S1.kp p).trans g2)
end
end Qw

set_option Elab.async false
set_option linter.all false
set_option maxRecDepth 100000
set_option maxHeartbeats 4000000
namespace Qw
open PySem L2
local macro_rules | `(tactic| walk_at "rd") => `(tactic| simp only [tSeq, tNext, tAsg, tRet, tRetN, tDrop, tIfS, sFld, sFldAug, tVar, tC, tOp, tUn, tTest, tB, tAnd, tOr, tNot, tAndV, tOrV, tNotV, tIf, tTup, tLst, tCons, tNil, tCB, tCall, tMeth, tMake, tFld, rI, rI0, rU, rEq, rNe, rCat, gName, gTup, gCons, gNil, tPar, tPar3, tBM, tBM0, rAppend, rExtend, rPopAt, rIxL, rIxT, rIxS, tSl, rSlS, rSlL, tPart, tNoPart, iStr, iTup, iList, iRng1, tAug, ipI, L2.rAdd, L2.rSub, L2.rAddS, tChain, rIsB, rNotB, scal_ss, scal_ii, scal_bb, scal_nn, scal_in, scal_ni, tYes,
  cx_K, cx_N, List.getElem?_cons_zero, List.getElem?_cons_succ, List.set_cons_zero, List.set_cons_succ, List.nil_append, List.cons_append, List.append_nil, List.length_cons, List.length_nil, Nat.zero_add,
  Option.some.injEq, V.ref.injEq, V.int.injEq, V.str.injEq, V.bl.injEq, HO.ins.injEq, HO.lst.injEq, HO.tup.injEq, List.cons.injEq, exists_eq_left, exists_eq_left', exists_eq_right, exists_eq_right', and_true, true_and, exists_and_left, exists_and_right, and_assoc, decide_eq_true_eq, Bool.not_eq_true', decide_eq_false_iff_not, reduceCtorEq, exists_const, forall_const, if_true, if_false, false_and, and_false, ite_true, ite_false, Bool.true_eq_false, Bool.false_eq_true, Nat.reduceLeDiff, Nat.reduceAdd, small_line, small_lt, upd_ne, ne_eq, not_false_eq_true, Nat.zero_le, Prod.mk.injEq, upd_same, upd_upd, S_tl, S_len, S_app, S_one, S_inj,
  lk_breaks, lk_hard, lk_soft, lk_bend, lk_note, lk_rules, lk_state, lk_bent, lk_word, lk_begun, lk_opened, lk_place, pt_state, pt_bent, pt_word, pt_wordS, pt_wordN, pt_begun, pt_opened, pt_place, pt_place1, len_mf, litv_empty, litv_note, litv_nl, mf_inj, rf_inj, lkn_begin, lkn_ended, lkn_plain, lkn_quoted, lkn_step, lkn_fault, lkn_key, lkn_told, lkn_quotes, lkn_special, pt_open1, not_true_eq_false, not_false_eq_true])
local macro_rules | `(tactic| walk_at "rdh") => `(tactic| simp only [tSeq, tNext, tAsg, tRet, tRetN, tDrop, tIfS, sFld, sFldAug, tVar, tC, tOp, tUn, tTest, tB, tAnd, tOr, tNot, tAndV, tOrV, tNotV, tIf, tTup, tLst, tCons, tNil, tCB, tCall, tMeth, tMake, tFld, rI, rI0, rU, rEq, rNe, rCat, gName, gTup, gCons, gNil, tPar, tPar3, tBM, tBM0, rAppend, rExtend, rPopAt, rIxL, rIxT, rIxS, tSl, rSlS, rSlL, tPart, tNoPart, iStr, iTup, iList, iRng1, tAug, ipI, L2.rAdd, L2.rSub, L2.rAddS, tChain, rIsB, rNotB, scal_ss, scal_ii, scal_bb, scal_nn, scal_in, scal_ni, tYes,
  cx_K, cx_N, List.getElem?_cons_zero, List.getElem?_cons_succ, List.set_cons_zero, List.set_cons_succ, List.nil_append, List.cons_append, List.append_nil, List.length_cons, List.length_nil, Nat.zero_add,
  Option.some.injEq, V.ref.injEq, V.int.injEq, V.str.injEq, V.bl.injEq, HO.ins.injEq, HO.lst.injEq, HO.tup.injEq, List.cons.injEq, exists_eq_left, exists_eq_left', exists_eq_right, exists_eq_right', and_true, true_and, exists_and_left, exists_and_right, and_assoc, decide_eq_true_eq, Bool.not_eq_true', decide_eq_false_iff_not, reduceCtorEq, exists_const, forall_const, if_true, if_false, false_and, and_false, ite_true, ite_false, Bool.true_eq_false, Bool.false_eq_true, Nat.reduceLeDiff, Nat.reduceAdd, small_line, small_lt, upd_ne, ne_eq, not_false_eq_true, Nat.zero_le, Prod.mk.injEq, upd_same, upd_upd, S_tl, S_len, S_app, S_one, S_inj,
  lk_breaks, lk_hard, lk_soft, lk_bend, lk_note, lk_rules, lk_state, lk_bent, lk_word, lk_begun, lk_opened, lk_place, pt_state, pt_bent, pt_word, pt_wordS, pt_wordN, pt_begun, pt_opened, pt_place, pt_place1, len_mf, litv_empty, litv_note, litv_nl, mf_inj, rf_inj, lkn_begin, lkn_ended, lkn_plain, lkn_quoted, lkn_step, lkn_fault, lkn_key, lkn_told, lkn_quotes, lkn_special, pt_open1, not_true_eq_false, not_false_eq_true, *])
/-! ### the machine over a text -/
theorem MS.rules_plain (r : RS) (m : MS) (c : Nat) : (m.plain r c).1.rules = m.rules := by
  unfold MS.plain
  repeat' split
  all_goals first | rfl | exact m.rules_begin
theorem MS.rules_quoted (r : RS) (m : MS) (c : Nat) : (m.quoted r c).rules = m.rules := by
  unfold MS.quoted
  repeat' split
  all_goals rfl
theorem MS.place_begin (m : MS) : m.begin.place = m.place := by unfold MS.begin; split <;> rfl
theorem MS.place_plain (r : RS) (m : MS) (c : Nat) : (m.plain r c).1.place = m.place := by
  unfold MS.plain
  repeat' split
  all_goals first | rfl | exact m.place_begin
theorem MS.place_quoted (r : RS) (m : MS) (c : Nat) : (m.quoted r c).place = m.place := by
  unfold MS.quoted
  repeat' split
  all_goals rfl
/-- the sign's ways -/
theorem MS.step_cases (r : RS) (m : MS) (c : Nat) (R : MS × List W3 → Prop)
    (h1 : ∀ m1 : MS, (m1 = m ∨ m1 = { m with state := [] }) → m1.bent = true → R ({ (({ m1 with bent := false } : MS).add c) with place := m1.place + 1 }, []))
    (h2 : ∀ m1 : MS, (m1 = m ∨ m1 = { m with state := [] }) → m1.bent = false → m1.state = [] → R ({ (m1.plain r c).1 with place := (m1.plain r c).1.place + 1 }, (m1.plain r c).2))
    (h3 : m.bent = false → m.state = NT → c ≠ LE → R ({ m with place := m.place + 1 }, []))
    (h4 : m.bent = false → m.state ≠ [] → m.state ≠ NT → R ({ (m.quoted r c) with place := (m.quoted r c).place + 1 }, [])) : R (m.step r c) := by
  by_cases e : m.state = NT ∧ c = LE
  · simp only [MS.step, if_pos e]
    by_cases b : m.bent = true
    · simp only [if_pos b]
      exact h1 _ (.inr rfl) b
    · have b' : m.bent = false := by simpa using b
      simp only [if_neg b, if_true]
      exact h2 _ (.inr rfl) b' rfl
  · simp only [MS.step, if_neg e]
    by_cases b : m.bent = true
    · simp only [if_pos b]
      exact h1 _ (.inl rfl) b
    · have b' : m.bent = false := by simpa using b
      simp only [if_neg b]
      by_cases s1 : m.state = []
      · simp only [if_pos s1]
        exact h2 _ (.inl rfl) b' s1
      · by_cases s2 : m.state = NT
        · simp only [if_neg s1, if_pos s2]
          exact h3 b' s2 fun z => e ⟨s2, z⟩
        · simp only [if_neg s1, if_neg s2]
          exact h4 b' s1 s2
theorem MS.Ok.begin {m : MS} (ok : m.Ok) : m.begin.Ok ∧ ∃ w, m.begin.word = some w := by
  unfold MS.begin
  cases h : m.word with
  | none => exact ⟨⟨ok.st, fun _ => ⟨[], rfl⟩, fun w e => by cases e; exact Nat.zero_le _⟩, ⟨[], rfl⟩⟩
  | some w => exact ⟨ok, ⟨w, h⟩⟩
theorem MS.Ok.step {m : MS} (ok : m.Ok) (r : RS) (c : Nat) : (m.step r c).1.Ok := by
  have same : ∀ m1 : MS, (m1 = m ∨ m1 = { m with state := [] }) → m1.bent = false ∨ m1 = m → m1.Ok := fun m1 h b => by
    rcases h with h | h
    · rw [h]; exact ok
    · rcases b with b | b
      · rw [h] at b ⊢
        exact ⟨.inl rfl, fun z => z.elim (fun z => absurd (b.symm.trans z) (by decide)) (fun ⟨q, z⟩ => nomatch z), ok.ln⟩
      · rw [b]; exact ok
  refine MS.step_cases r m c (fun x => x.1.Ok) (fun m1 h b => ?_) (fun m1 h b s1 => ?_) (fun b s1 _ => ?_) fun b s1 s2 => ?_
  · have e : m1.word = m.word ∧ m1.place = m.place ∧ (m1.bent = true → ∃ w, m1.word = some w) ∧ (m1.state = [] ∨ m1.state = NT ∨ ∃ q, m1.state = [q]) := by
      rcases h with h | h <;> subst h
      · exact ⟨rfl, rfl, fun z => ok.wd (.inl z), ok.st⟩
      · exact ⟨rfl, rfl, fun z => ok.wd (.inl z), .inl rfl⟩
    obtain ⟨w, hw⟩ := e.2.2.1 b
    refine ⟨e.2.2.2, fun _ => ⟨w ++ [c], by simp [MS.add, hw]⟩, fun w' e' => ?_⟩
    simp only [MS.add, hw, Option.map, Option.some.injEq] at e'
    subst e'
    have := ok.ln w (e.1 ▸ hw)
    simp only [List.length_append, List.length_cons, List.length_nil]
    show _ ≤ m1.place + 1
    rw [e.2.1]; omega
  · have ok1 := same m1 h (.inl b)
    have up : ∀ m2 : MS, m2.Ok → ({ m2 with place := m2.place + 1 } : MS).Ok := fun m2 o => ⟨o.st, o.wd, fun w e => Nat.le_succ_of_le (o.ln w e)⟩
    suffices q : ((m1.plain r c).1).Ok ∨ (∃ w, m1.begin.word = some w ∧ (m1.plain r c).1 = m1.begin.add c) by
      rcases q with q | ⟨w, hw, q⟩
      · exact up _ q
      · have o := ok1.begin.1
        show ({ (m1.plain r c).1 with place := (m1.plain r c).1.place + 1 } : MS).Ok
        rw [q]
        refine ⟨o.st, fun _ => ⟨w ++ [c], by simp [MS.add, hw]⟩, fun w' e' => ?_⟩
        simp only [MS.add, hw, Option.map, Option.some.injEq] at e'
        subst e'
        have := o.ln w hw
        simp only [List.length_append, List.length_cons, List.length_nil, MS.add]
        omega
    have o := ok1.begin
    unfold MS.plain
    split
    · exact .inl ⟨ok1.st, fun z => z.elim (fun z => absurd (b.symm.trans z) (by decide)) (fun ⟨q, z⟩ => absurd (s1.symm.trans z) (by intro y; cases y)), fun w e => by cases e⟩
    split
    · exact .inl ⟨.inr (.inl rfl), fun z => z.elim (fun z => absurd (b.symm.trans z) (by decide)) (fun ⟨q, z⟩ => absurd (show NT = [q] from z) (by intro y; cases y)), fun w e => by cases e⟩
    split
    · exact .inl ⟨.inr (.inr ⟨c, rfl⟩), fun _ => o.2, o.1.ln⟩
    split
    · exact .inl ⟨o.1.st, fun _ => o.2, o.1.ln⟩
    · obtain ⟨w, hw⟩ := o.2
      exact .inr ⟨w, hw, rfl⟩
  · exact ⟨ok.st, ok.wd, fun w e => Nat.le_succ_of_le (ok.ln w e)⟩
  · obtain ⟨q, hq⟩ : ∃ q, m.state = [q] := by
      rcases ok.st with h | h | h
      · exact absurd h s1
      · exact absurd h s2
      · exact h
    obtain ⟨w, hw⟩ := ok.wd (.inr ⟨q, hq⟩)
    have l := ok.ln w hw
    show ({ m.quoted r c with place := (m.quoted r c).place + 1 } : MS).Ok
    rw [MS.place_quoted]
    unfold MS.quoted
    split
    · exact ⟨.inl rfl, fun _ => ⟨w, hw⟩, fun w' e => Nat.le_succ_of_le (ok.ln w' e)⟩
    split
    · exact ⟨.inr (.inr ⟨q, hq⟩), fun _ => ⟨w, hw⟩, fun w' e => Nat.le_succ_of_le (ok.ln w' e)⟩
    · refine ⟨.inr (.inr ⟨q, hq⟩), fun _ => ⟨w ++ [c], by simp [MS.add, hw]⟩, fun w' e' => ?_⟩
      simp only [MS.add, hw, Option.map, Option.some.injEq] at e'
      subst e'
      simp only [List.length_append, List.length_cons, List.length_nil]
      omega
theorem MS.place_step (r : RS) (m : MS) (c : Nat) : (m.step r c).1.place = m.place + 1 := by
  refine MS.step_cases r m c (fun x => x.1.place = m.place + 1) (fun m1 h _ => ?_) (fun m1 h _ _ => ?_) (fun _ _ _ => rfl) fun _ _ _ => congrArg (· + 1) (m.place_quoted r c)
  · rcases h with h | h <;> subst h <;> rfl
  · show (m1.plain r c).1.place + 1 = _
    rw [MS.place_plain]
    rcases h with h | h <;> subst h <;> rfl
theorem MS.rules_step (r : RS) (m : MS) (c : Nat) : (m.step r c).1.rules = m.rules := by
  refine MS.step_cases r m c (fun x => x.1.rules = m.rules) (fun m1 h _ => ?_) (fun m1 h _ _ => ?_) (fun _ _ _ => rfl) fun _ _ _ => m.rules_quoted r c
  · rcases h with h | h <;> subst h <;> rfl
  · show (m1.plain r c).1.rules = _
    rw [MS.rules_plain]
    rcases h with h | h <;> subst h <;> rfl
theorem MS.out_step (r : RS) (m : MS) (c : Nat) : (m.step r c).2.length ≤ 1 := by
  have o : ∀ m1 : MS, m1.out.length ≤ 1 := fun m1 => by unfold MS.out; split <;> simp
  refine MS.step_cases r m c (fun x => x.2.length ≤ 1) (fun m1 h _ => Nat.zero_le _) (fun m1 h _ _ => ?_) (fun _ _ _ => Nat.zero_le _) fun _ _ _ => Nat.zero_le _
  show (m1.plain r c).2.length ≤ 1
  unfold MS.plain
  repeat' split
  all_goals first | exact o m1 | exact Nat.zero_le _
def MS.run (r : RS) (m : MS) : Tx → MS × List W3
  | [] => (m, [])
  | c :: t => (((m.step r c).1.run r t).1, (m.step r c).2 ++ ((m.step r c).1.run r t).2)
theorem MS.run_app (r : RS) : ∀ (t u : Tx) (m : MS), m.run r (t ++ u) = (((m.run r t).1.run r u).1, (m.run r t).2 ++ ((m.run r t).1.run r u).2)
  | [], u, m => by simp [MS.run]
  | c :: t, u, m => by
    have ih := MS.run_app r t u (m.step r c).1
    simp only [List.cons_append, MS.run, ih, List.append_assoc]
theorem MS.run_one (r : RS) (t : Tx) (c : Nat) (m : MS) : m.run r (t ++ [c]) = (((m.run r t).1.step r c).1, (m.run r t).2 ++ ((m.run r t).1.step r c).2) := by
  rw [MS.run_app]
  simp [MS.run]
theorem MS.Ok.run (r : RS) : ∀ (t : Tx) {m : MS}, m.Ok → (m.run r t).1.Ok
  | [], _, ok => ok
  | c :: t, m, ok => MS.Ok.run r t (ok.step r c)
theorem MS.place_run (r : RS) : ∀ (t : Tx) (m : MS), (m.run r t).1.place = m.place + t.length
  | [], _ => rfl
  | c :: t, m => by
    show ((m.step r c).1.run r t).1.place = _
    rw [MS.place_run r t, MS.place_step, List.length_cons]; omega
theorem MS.rules_run (r : RS) : ∀ (t : Tx) (m : MS), (m.run r t).1.rules = m.rules
  | [], _ => rfl
  | c :: t, m => by
    show ((m.step r c).1.run r t).1.rules = _
    rw [MS.rules_run r t, MS.rules_step]
theorem MS.out_run (r : RS) : ∀ (t : Tx) (m : MS), (m.run r t).2.length ≤ t.length
  | [], _ => Nat.le_refl _
  | c :: t, m => by
    show ((m.step r c).2 ++ ((m.step r c).1.run r t).2).length ≤ _
    rw [List.length_append, List.length_cons]
    have h1 := MS.out_step r m c
    have h2 := MS.out_run r t (m.step r c).1
    omega
theorem take_more {α : Type} : ∀ {l : List α} {i : Nat} {x : α}, l[i]? = some x → l.take (i + 1) = l.take i ++ [x]
  | [], i, x, h => by simp at h
  | a :: l, 0, x, h => by
    have e : a = x := Option.some.inj h
    subst e
    rfl
  | a :: l, i + 1, x, h => by
    have ih := take_more (l := l) (i := i) (x := x) h
    simp only [List.take_succ_cons, List.cons_append, List.cons.injEq, true_and]
    exact ih
/-- all words with their places, or the fault's place -/
def readAll (r : RS) (t : Tx) (rp : Addr) : Except Nat (List W3) :=
  match ((MS.zero rp).run r t).1.fault with
  | some n => .error n
  | none => .ok (((MS.zero rp).run r t).2 ++ ((MS.zero rp).run r t).1.out)
section
variable {P : Program} {w : World} {K : PySem.W.Frag} {mg : Str → Option Value} {base : Heap} {a : Ad}
/-- what read_all tells, at a new tuple -/
def ToldAll (H H' : Hp) (tp : Addr) (x : Except Nat (List W3)) : Prop :=
  match x with
  | .error n => H' tp = some (.tup [.non, .int n])
  | .ok ds => ∃ l xs, H l = none ∧ H' tp = some (.tup [.ref l, .non]) ∧ H' l = some (.lst xs) ∧ Fnds H' xs ds
def sp_read_all (a : Ad) : Sp := fun vs H Q _ => ∃ rp dr r t, vs = [.ref rp, .str (S t)] ∧ H rp = some (.ins a.c_Rules dr (RS.f r)) ∧ r.hard.length + r.soft.length ≤ 100 ∧ t.length ≤ 50000 ∧
  ∀ tp H', H tp = none → Same H H' → ToldAll H H' tp (readAll r t rp) → Q (.ref tp) H'
theorem ok_read_all (T : Txt K mg a) : FnOk P w K mg base CX0 4 a.f_read_all a.d_read_all P_read_all (sp_read_all a) := by
  refine T.F_read_all.ok sc_read_all (fun vs H Q E h => ?_) (fun cdv A outer s H vs Q E hr h => ?_)
  · obtain ⟨rp, dr, r, t, rfl, _⟩ := h
    rfl
  · obtain ⟨rp, dr, r, t, rfl, hR, hq, ht, k⟩ := h
    have G_Machine_init := ok_Machine_init (P := P) (w := w) (base := base) T
    have B_Machine_init := bi_Machine_init T
    have G_Machine_step := ok_Machine_step (P := P) (w := w) (base := base) T
    have B_Machine_step := bi_Machine_step T
    have G_Machine_fault := ok_Machine_fault (P := P) (w := w) (base := base) T
    have B_Machine_fault := bi_Machine_fault T
    have G_Machine_ended := ok_Machine_ended (P := P) (w := w) (base := base) T
    have B_Machine_ended := bi_Machine_ended T
    refine ⟨_,
(pss_cons (ps_par (i := 2) (j := 3) (by rfl) sc_read_all.nd rfl rfl (by decide) rfl rfl (pa_cons (pe_make T.c_Machine.mc G_Machine_init (hr.mono (by decide)) rfl T.c_Machine.g B_Machine_init .nil pass0 (pa_cons (pv 0) pa_nil)) (pa_cons (pe_lst pa_nil) pa_nil)) (by rfl))
    (pss_cons (ps_for PassesOwn.never rfl (pi_str (pv 1)) (pg_name (i := 4) sc_read_all.nd rfl (by first | exact Or.inl rfl | exact Or.inr rfl))
    (pss_one (ps_expr (pe_bm PySem.F.plainAttrs_list PySem.F.slot_list_extend PySem.F.type_list_extend mt_extend (pv 3) (pa_cons (pe_meth (pv 2) T.c_Machine.cl T.m_Machine_step G_Machine_step (hr.mono (by decide)) B_Machine_step .nil pass0 (pa_cons (pv 4) pa_nil)) pa_nil)))))
    (pss_cons (ps_if (pt_cmpR op_notN (pe_meth0 (pv 2) T.c_Machine.cl T.m_Machine_fault G_Machine_fault (hr.mono (by decide)) B_Machine_fault .nil pass0) pe_non (nomark _)) (pss_one (ps_ret (pe_tup (pa_cons pe_non (pa_cons (pe_meth0 (pv 2) T.c_Machine.cl T.m_Machine_fault G_Machine_fault (hr.mono (by decide)) B_Machine_fault .nil pass0) pa_nil))))) pss_nil)
    (pss_one (ps_ret (pe_tup (pa_cons (pe_op op_cat (pv 3) (pe_meth0 (pv 2) T.c_Machine.cl T.m_Machine_ended G_Machine_ended (hr.mono (by decide)) B_Machine_ended .nil pass0)) (pa_cons pe_non pa_nil))))))))
      , ?_⟩
    rw [show start N_read_all [V.ref rp, V.str (S t)] = [some (.ref rp), some (.str (S t)), none, none, none] from rfl]
    have hc := T.c_Machine.cl
    walk_at "rd"
    intro p dx hp hdx ne
    refine ⟨p, dx, rp, rfl, upd_same, fun H1 h1 h2 => ⟨rfl, fun f hf => ?_⟩⟩
    have S1 : Same H H1 := Same.made hp hdx h2
    have nf : H f = none := S1.free hf
    have npf : p ≠ f := ne_of_none h1 hf
    refine ⟨_, rfl, S t, rfl, for_it (n := t.length) (G := fun _ => True) (Y := fun i H v H' => H' = H ∧ ∃ c, t[i]? = some c ∧ v = .str (S [c])) ?_ (fun i σ H2 => ∃ v xs, σ = [some (.ref rp), some (.str (S t)), some (.ref p), some (.ref f), v] ∧
      H2 p = some (.ins a.c_Machine dx (((MS.zero rp).run r (t.take i)).1).f) ∧ H2 f = some (.lst xs) ∧ Fnds H2 xs ((MS.zero rp).run r (t.take i)).2 ∧ Same H H2)
      ?_ (fun _ _ _ _ _ => trivial) ?_ ?_⟩
    · have w := walk_str (z := S t)
      rw [S_size] at w
      exact w.mono (fun _ _ => trivial) fun i H x H' hi _ ⟨e, c, h1, h2⟩ => ⟨e, c, by simpa [S] using h1, h2⟩
    · refine ⟨none, [], rfl, ?_, upd_same, .nil, (S1.mut nf)⟩
      rw [upd_ne npf]
      exact h1
    · rintro i x σ H2 H3 hi ⟨v, xs, rfl, g1, g2, g3, g4⟩ ⟨rfl, c, hc1, rfl⟩
      walk_at "rdh"
      have pl : ((MS.zero rp).run r (t.take i)).1.place = i := by
        rw [MS.place_run, List.length_take]
        show 0 + _ = i
        omega
      have ru : ((MS.zero rp).run r (t.take i)).1.rules = rp := MS.rules_run r _ _
      have ok := (MS.Ok.zero rp).run r (t.take i)
      have e1 := take_more hc1
      have pf : f ≠ p := Ne.symm npf
      have el : xs.length ≤ i := by
        have h1 := g3.length
        have h2 := MS.out_run r (t.take i) (MS.zero rp)
        rw [List.length_take] at h2
        omega
      refine ⟨.inl ⟨rfl, _, .inl (.inl g2)⟩, p, dx, _, c, dr, r, rfl, g1, (by rw [ru]; exact g4 _ _ hR), hq, ok, (by rw [pl]; omega), fun l H' ys q1 q2 q3 q4 q5 => ?_⟩
      have nlf : l ≠ f := fun z => by rw [z, g2] at q1; cases q1
      refine ⟨l, rfl, xs, q5 _ _ g2 pf, ys, q2, ?_, ?_, ?_, ?_⟩
      · have h1 := q3.length
        have h2 := MS.out_step r ((MS.zero rp).run r (t.take i)).1 c
        exact Nat.le_trans (show xs.length + ys.length ≤ 100000 by omega) (by decide)
      · rw [e1, MS.run_one]
        exact q4
      · rw [e1, MS.run_one]
        have k2 : Tk H' (upd H' f (.lst (xs ++ ys))) := kp_upd.tk (q5 _ _ g2 pf) fun _ z => by cases z
        exact Paired.app ((g3.mono (q5.tk g1 fun _ z => by cases z)).mono k2) (q3.mono k2)
      · refine Same.mut (fun b o e => q5 b o (g4 b o e) fun z => ?_) nf
        rw [z, hp] at e; cases e
    · rintro σ H2 ⟨v, xs, rfl, g1, g2, g3, g4⟩
      rw [List.take_length] at g1 g3
      walk_at "rdh"
      refine ⟨p, dx, _, rfl, g1, fun H3 s3 => ?_⟩
      have nof : f ≠ p := Ne.symm npf
      cases ef : ((MS.zero rp).run r t).1.fault with
      | some n =>
        simp only [ef]
        refine ite2 (fun _ => ?_) (fun c => absurd (by intro z; cases z) c)
        refine ⟨dx, _, s3 _ _ g1, lkn_fault _, p, dx, _, rfl, s3 _ _ g1, fun H4 s4 => ?_⟩
        simp only [ef]
        intro tp htp
        refine k tp _ (((g4.trans s3).trans s4).free htp) (((g4.trans s3).trans s4).trans (same_new htp)) ?_
        simp only [readAll, ef, ToldAll]
        exact upd_same
      | none =>
        simp only [ef]
        refine ite2 (fun c => absurd trivial c) (fun _ => ?_)
        refine ⟨dx, _, s3 _ _ g1, lkn_ended _, p, dx, _, rfl, s3 _ _ g1, fun l H4 ys q1 q2 q3 q4 q5 => ?_⟩
        have f4 := q5 _ _ (s3 _ _ g2) nof
        have S4 : Same H H4 := fun b o e => q5 b o (s3 _ _ (g4 b o e)) fun z => by rw [z, hp] at e; cases e
        refine ⟨l, rfl, xs, f4, ys, q2, ?_, fun l2 h2' tp htp => ?_⟩
        · have h1 := q3.length
          have h2 := g3.length
          have h3 := MS.out_run r t (MS.zero rp)
          have h4 : ((MS.zero rp).run r t).1.out.length ≤ 1 := by unfold MS.out; split <;> simp
          exact Nat.le_trans (show xs.length + ys.length ≤ 100000 by omega) (by decide)
        have htp' := none_upd htp
        have n1 := ne_upd htp
        have s5 := same_new (o := HO.lst (xs ++ ys)) h2'
        have s6 := same_new (o := HO.tup [V.ref l2, V.non]) htp
        refine k tp _ (S4.free htp') ((S4.trans s5).trans s6) ?_
        simp only [readAll, ef, ToldAll]
        refine ⟨l2, xs ++ ys, S4.free h2', upd_same, ?_, ?_⟩
        · rw [upd_ne (Ne.symm n1), upd_same]
        · have tk : Tk H4 _ := (s5.trans s6).tk
          exact Paired.app (((g3.mono s3.tk).mono (q5.tk (s3 _ _ g1) fun _ z => by cases z)).mono tk) (q3.mono tk)
end
end Qw

set_option Elab.async false
set_option linter.all false
set_option maxRecDepth 100000
set_option maxHeartbeats 4000000
/-! promises of defs that know that no list is being shown around them; str of data -/
namespace Qw
open PySem L2 PySem.Spec PyProof.Rows

def Free (A : Around) : Prop := A.guards = some []
theorem Free.deeper {A : Around} (h : Free A) (e : Env) : Free (A.deeper e) := h
theorem free_caller : Free callerA := rfl

structure FnG (P : Program) (w : World) (K : PySem.W.Frag) (mg : Str → Option Value) (base : Heap) (k : Nat) (f : Addr) (fd : FuncData) (ps : List Str) (sp : Sp) : Prop where
  lenG : ∀ vs H Q E, sp vs H Q E → vs.length = ps.length
  runG : ∀ (A : Around) (out : List Env) (s : Shared) (H : Hp) (as : Args) (us : List Value) (vs : List V) (Q : VK) (E : XK),
    Free A → Room k A → Env0 P w K mg base A out s H → BindsTo s fd as (ps.zip us) → Vals vs us → sp vs H Q E → codeAny (model P w) A (.call (.ref f) as) (CR CX0 out P w H s Q E) s
section
variable {P : Program} {w : World} {K : PySem.W.Frag} {mg : Str → Option Value} {base : Heap}

theorem fnG_of {k : Nat} {x qual : Str} {st : Stmt} {f : Addr} {fd : FuncData} {N ps : List Str} {sp : Sp} (F : L2.Fun K x qual st f fd) (S : FnScope N ps (defScope st))
    (ln : ∀ vs H Q E, sp vs H Q E → vs.length = ps.length)
    (hb : ∀ (cd : Value) (A : Around) (out : List Env) (s : Shared) (H : Hp) (vs : List V) (Q : VK) (E : XK),
      Free (A.deeper (envOfC qual (defScope st) s.heap.objs.size f cd)) → Room k (A.deeper (envOfC qual (defScope st) s.heap.objs.size f cd)) → sp vs H Q E →
      ∃ t, PSs (cxOf CX0 P w K mg base N qual (defScope st) f cd A out s H E).nox (defBody st) t ∧ t { nx := fun _ H' => Q .non H', rt := Q } (start N vs) H) :
    FnG P w K mg base (k + 1) f fd ps sp := by
  obtain ⟨oc, od, kV, doc, pm, an, cd, ct, osl, rfl, lk, hc⟩ := F.ex
  refine ⟨ln, fun A out s H as us vs Q E hf hr e0 b r q => ?_⟩
  have KX : K.In s.heap := e0.mod.kin.keeps fun _ _ e => (e0.bs _ _ e).1
  have lim : s.heap.NoLimit := e0.mod.nolimit.keeps fun _ _ e => (e0.bs _ _ e).1
  have kinds : ∀ y ∈ ps.zip us, (defScope st).names.lookup y.1 = some .local ∨
      ((defScope st).names.lookup y.1 = some .cell ∧ ((cellsFrom (s.heap.objs.size + 1) (defScope st).names []).lookup y.1).isSome = true) := by
    rintro ⟨n, v⟩ hy
    exact (S.par n (List.of_mem_zip hy).1).imp id fun z => ⟨z, PySem.W.cellsFrom_some _ _ _ (.inl z)⟩
  refine codeAny_call_function hr.depth (KX _ _ lk) rfl S.co
    S.gen rfl (PySem.W.codeRec_of KX hc) (b _ _ _ _ ?_)
  refine wpAny_newFunctionEnv_cells S.kind kinds fun env he s1 x => ?_
  cases he
  refine ⟨lim.keeps x.toInCall.keep, codeAny_func ?_⟩
  obtain ⟨t, ht, hq⟩ := hb cd A out s H vs Q E (hf.deeper _) (hr.deeper _) q
  have J := inv_start (CX := CX0) (P := P) (w := w) (K := K) (mg := mg) (base := base) (N := N) (cd := cd) (E := E) S hr.hd e0 (ln _ _ _ _ q) r x
  refine wpAny_mono (ht.nox.run [] s1 (start N vs) H _ J hq) (fun fl s' hs => ?_) fun _ _ hs => hs
  cases fl with
  | brk => exact hs.elim fun _ z => z.elim fun _ z => z.2.elim
  | cont => exact hs.elim fun _ z => z.elim fun _ z => z.2.elim
  | ret u =>
    obtain ⟨v, σ', H', I, rv, h⟩ := hs
    exact ⟨v, H', I.os, I.bare, I.base, I.hok, rv, h⟩
  | next =>
    obtain ⟨σ', H', I, h⟩ := hs
    exact ⟨V.non, H', I.os, I.bare, I.base, I.hok, rfl, h⟩
end

section
variable {X : Cx} {k : Nat} {f : Addr} {fd : FuncData} {ps : List Str} {sp : Sp} {dvs : List V} {ds : List Value} {E : XK} {x : Str} {p pos : Pos} {e : Expr} {es : List Expr} {t : TA}
theorem run_fnG {pins : List (Addr × Obj)} {σ : L2.St} {H : Hp} {s : Shared} {Q : VK} {us : List Value} {vs : List V} (F : FnG X.prog X.w X.K X.mg X.base k f fd ps sp) (hf : Free X.A) (hr : Room k X.A)
    (hb : Binds X.K fd ps []) (I : Inv X pins σ H s) (r : Vals vs us) (h : sp vs H Q E) : wpAny (model X.prog X.w) X.A (call (.ref f) us) (EP X pins σ Q) X.xe s := by
  have hl : (us ++ []).length = ps.length := by
    rw [List.append_nil, ← r.length]
    exact F.lenG _ _ _ _ h
  have bd := hb s us I.kIn hl
  rw [List.append_nil] at bd
  refine wpAny_call (codeAny_mono (F.runG X.A X.stack s H ⟨us, []⟩ us vs Q E hf hr I.env0 bd r h) fun y s' q => ?_)
  match y, q with
  | .error _, q => exact q.elim
  | .ok (.ret u), q => exact I.after q
theorem pe_callG (F : FnG X.prog X.w X.K X.mg X.base k f fd ps sp) (hf : Free X.A) (hr : Room k X.A) (hg : Gl X x) (hm : X.mg x = some (.ref f)) (hk : PySem.W.keepIn X.K (.ref f) = true) (hb : Binds X.K fd ps [])
    (ha : PA X (e :: es) t) (hdb : (x == ("__debug__" : Str)) = false := by decide) (he : starEach (e :: es) X.env = (false, eval e X.env) :: starEach es X.env := by rfl)
    (hpl : (backTo pos (starEach es X.env)).any (·.1) = false := by rfl) : PE X (.Call (.Name x p) (e :: es) [] pos) (tCall sp [] E0 t) := by
  refine ⟨fun pins s σ H Q I h => wpAny_Call_Name_kw (ld_glob I hg hm ?_ hdb)⟩
  refine PySem.W.callWith_K (h₀ := X.base) I.ok.mod.kin hk ?_ he hpl
  refine thn (ha.run pos pins s σ H _ I h) fun us s1 ⟨vs, H1, I1, r, q⟩ => ⟨I1.kIn, ?_⟩
  have q : sp (vs ++ []) H1 Q E0 := q
  rw [List.append_nil] at q
  exact run_fnG F hf hr hb I1 r q
/-- str(x) of data that holds no dict -/
theorem call_str_data (hf : Free X.A) (hu : X.A.units + 64 < cLine) : CallR X (.type "str") (fun xs H Q => ∃ a d, xs = [.ref a] ∧ Dp X.K H (.ref a) d ∧ d.showable = true ∧ d.hasDict = false ∧ d.depth ≤ 32 ∧ d.shown.length ≤ sizeLine ∧
    Q (.str d.shown) H) := by
  intro pins s σ H xs us Q I r h
  obtain ⟨a, d, rfl, hd, h1, h2, h3, h4, q⟩ := h
  obtain ⟨u, rfl, ru⟩ := vals1 r
  obtain ⟨as, rd⟩ := Dp.reads I d _ u hd ru
  cases ru
  refine str_of_reads rd h1 (PyData.noDict_hsm h2) hf (by omega) (fun _ _ e => e) (fun h' u tk hk => ?_) h4
  exact ⟨.str d.shown, H, I.kept (t' := tk) hk, ⟨u, rfl⟩, q⟩
end

/-! ### the end -/
theorem law_callG {P : Program} {w : World} {K : PySem.W.Frag} {mg mb : Str → Option Value} {k : Nat} {fa a : Addr} {fd : FuncData} {x : Str} {sp : Sp} {s₁ : Shared} {vs : List Value} {ns : List Int}
    (KX : K.In s₁.heap) (hns : s₁.heap.Ns mainGlobals mg) (hb : s₁.heap.Ns builtinsNs mb) (hbb : ∀ x : Str, x ≠ "__name__" → mb x = bootBuiltins x)
    (hlim : s₁.heap.NoLimit) (hg : s₁.gens = #[]) (ha : s₁.heap.get? a = some { cls := .type "list", data := .seq vs.toArray }) (hi : IntsAre vs ns)
    (hl : ns.length ≤ sizeLine) (hr : Room k callerA) (F : ∀ base : Heap, K.In base → base.Ns mainGlobals mg → FnG P w K mg base k fa fd [x] sp)
    (hbind : ∀ (s : Shared) (u : Value), BindsTo s fd ⟨[u], []⟩ [(x, u)])
    (hsp : ∀ H : Hp, Only H → SqL K H a (ns.map V.int) → sp [.ref a] H (fun v _ => v = .bl true) E0) :
    codeAny (model P w) callerA (.call (.ref fa) ⟨[.ref a], []⟩)
      (fun r s' => r = .ok (.ret (.bool true)) ∧ OldK s₁.heap s'.heap ∧ s'.os = s₁.os ∧ AllBare s'.gens) s₁ := by
  have rv := vals_ints hi
  have core : ∀ H : Hp, Only H → SqL K H a (ns.map V.int) → HOk P w H s₁.heap → (∀ b, H b ≠ none → b = a) → (H a ≠ none → K.lookup a = none) →
      codeAny (model P w) callerA (.call (.ref fa) ⟨[.ref a], []⟩)
        (fun r s' => r = .ok (.ret (.bool true)) ∧ OldK s₁.heap s'.heap ∧ s'.os = s₁.os ∧ AllBare s'.gens) s₁ := by
    intro H hO hS hok hA hK
    have there : ∀ {b : Addr}, H b ≠ none → s₁.heap.get? b = some { cls := .type "list", data := .seq vs.toArray } ∧ K.lookup b = none := fun {b} z => by
      cases hA b z
      exact ⟨ha, hK z⟩
    have hid : ∀ {b : Addr} {o : Obj}, s₁.heap.get? b = some o → H b = none → (hidT s₁.heap H).get? b = some o := fun e n => hidT_get e n
    have ns' : ∀ {b : Addr} {m : Str → Option Value}, s₁.heap.Ns b m → (hidT s₁.heap H).Ns b m := by
      rintro b m ⟨o, es, ep, e, d, r⟩
      refine ⟨o, es, ep, hid e (Classical.byContradiction fun z => ?_), d, r⟩
      rw [(there z).1] at e
      cases e
      exact nomatch (show Data.seq vs.toArray _ = Data.dict es ep from d)
    have hKb : K.In (hidT s₁.heap H) := fun b o e => by
      refine hid (KX b o e) (Classical.byContradiction fun z => ?_)
      rw [(there z).2] at e
      cases e
    have hM : Mod K mg (hidT s₁.heap H) := by
      obtain ⟨mc, l1, l2⟩ := hlim
      exact ⟨hKb, ns' hns, ⟨mb, ns' hb, hbb⟩, ⟨mc, ns' l1, l2⟩⟩
    have e0 : Env0 P w K mg (hidT s₁.heap H) callerA [] s₁ H :=
      ⟨rfl, hM, fun _ _ e => of_hidT e, Nat.le_of_eq (hidT_size _ _), trivial, fun b z => (by cases z), hok, .of_eq hg⟩
    have run := (F _ hKb (ns' hns)).runG callerA [] s₁ H ⟨[.ref a], []⟩ [.ref a] [.ref a] _ _ free_caller hr e0 (hbind s₁ (.ref a)) (.cons rfl .nil) (hsp H hO hS)
    refine codeAny_mono run fun r s' h => ?_
    match r, h with
    | .error _, h => exact h.elim
    | .ok (.ret u), h =>
      obtain ⟨v, H', os, bare, un, hok', r', q⟩ := h
      cases (show v = .bl true from q)
      cases (show u = Value.bool true from r')
      refine ⟨rfl, OldK.of_keep fun b o e => ?_, os, bare⟩
      rcases hO b with z | ⟨ob, xs, z⟩
      · exact un.keep b o e z (by intro y; cases y) (by simp)
      · have e1 := (hok b _ z).1
        rw [e] at e1
        cases e1
        exact (hok' b _ (un.frzs b _ _ z)).1
  have lenV := hi.length
  rcases hk : K.lookup a with _ | o
  · let o : Obj := { cls := .type "list", data := .seq vs.toArray }
    have own : ∀ {b : Addr} {u : HO}, (if b = a then some (HO.frz o (.lst (ns.map V.int))) else none) = some u → b = a ∧ u = HO.frz o (.lst (ns.map V.int)) := fun {b u} z => by
      by_cases e : b = a
      · rw [if_pos e] at z
        exact ⟨e, (Option.some.inj z).symm⟩
      · rw [if_neg e] at z
        cases z
    refine core (fun b => if b = a then some (.frz o (.lst (ns.map V.int))) else none) (fun b => ?_) (.inl (.inr ⟨o, if_pos rfl⟩)) (fun b u z => ?_) (fun b z => ?_) fun _ => hk
    · by_cases e : b = a
      · exact .inr ⟨_, _, if_pos e⟩
      · exact .inl (if_neg e)
    · obtain ⟨rfl, rfl⟩ := own z
      exact ⟨ha, by rw [List.length_map]; exact hl, vs, _, rv, ha⟩
    · exact Classical.byContradiction fun e => z (if_neg e)
  · have e := KX a o hk
    rw [ha] at e
    cases e
    refine core (fun _ => none) (fun _ => .inl rfl) ?_ (fun b u z => nomatch (show (none : Option HO) = some u from z)) (fun b z => absurd rfl z) fun z => absurd rfl z
    exact .inr ⟨_, vs.toArray, _, hk, rfl, rfl, rfl, by rw [List.size_toArray, lenV]; exact hl, by simpa using rv⟩
/-- a law: F gives the written part, the function object, the promise over every base -/
theorem walk_ofG {l : PySem.W.OpenLaw} {n k : Nat} {q : Program} {loose : List Str} {XP : (Str → Option Value) → Heap → Prop} {YP : World → Heap → Prop} {d : DefRec} {x : Str}
    (hn : l.most = some n) (hn2 : n ≤ sizeLine) (hdf : d.params.defaults = []) (hr : Room k callerA)
    (F : ∀ (w : World) (mg : Str → Option Value) (fa : Addr) (h : Heap), YP w h → h.Ns mainGlobals mg → mg d.name = some (.ref fa) →
      ∃ (K : PySem.W.Frag) (fd : FuncData) (sp : Sp), K.In h ∧ (∀ (s : Shared) (u : Value), BindsTo s fd ⟨[u], []⟩ [(x, u)]) ∧
        (∀ (H : Hp) (a : Addr) (ns : List Int), ns.length ≤ n → (∀ z ∈ ns, Builtin.Int.intBits z ≤ 1048576) → Only H → SqL K H a (ns.map V.int) → sp [.ref a] H (fun v _ => v = .bl true) E0) ∧
        ∀ base : Heap, K.In base → base.Ns mainGlobals mg → FnG l.prog w K mg base k fa fd [x] sp) : PySem.W.WalkO q loose XP YP l.row.toRowW d [] (fun f vs => PySem.call f vs) := by
  refine Att.attach_callB hn hdf fun w _ s₁ mg mb fa o pm cd doc a vs ns G Y ho hd hcd hmg hob hin hlen hbits hg => ?_
  obtain ⟨K, fd, sp, KX, hb, hsp, hF⟩ := F w mg fa _ Y G.T.g hmg
  exact law_callG KX G.T.g G.T.b G.T.builtins G.T.nolimit hg hob hin (Nat.le_trans hlen hn2) hr hF hb fun H hO hS => hsp H a ns hlen hbits hO hS
end Qw

set_option Elab.async false
set_option linter.all false
set_option maxRecDepth 100000
set_option maxHeartbeats 4000000
/-! data of none, short ints, texts, lists and tuples: shown, compared -/
namespace Qw
open PySem L2
mutual
def tame : PyData → Bool
  | .none => true
  | .int i => decide (i.natAbs < 1000000000)
  | .str x => PyData.strOk x
  | .list xs => tameAll xs
  | .tuple xs => tameAll xs
  | .bool _ => false
  | .dict _ => false
def tameAll : List PyData → Bool
  | [] => true
  | x :: xs => tame x && tameAll xs
end
theorem tameAll_iff : ∀ {xs : List PyData}, tameAll xs = true ↔ ∀ x ∈ xs, tame x = true
  | [] => by simp [tameAll]
  | x :: xs => by simp [tameAll, tameAll_iff (xs := xs)]
theorem short13 {i : Int} (h : i.natAbs < 1000000000) : PyData.intsShort 13 (.int i) = true := by
  have := PyData.intsShortAll_ints [i] (fun n hn => by cases List.mem_singleton.mp hn; exact Nat.lt_trans h (by decide))
  simpa [PyData.intsShortAll] using this
mutual
theorem tame_has : ∀ d : PyData, tame d = true → PyData.canLay0 d = true ∧ PyData.showable d = true ∧ PyData.hasDict d = false ∧ PyData.intsShort 13 d = true
  | .none, _ => ⟨by simp [PyData.canLay0], by simp [PyData.showable], by simp [PyData.hasDict], by simp [PyData.intsShort]⟩
  | .int i, h => by
    have h' : i.natAbs < 1000000000 := by simpa [tame] using h
    refine ⟨by simp [PyData.canLay0], ?_, by simp [PyData.hasDict], short13 h'⟩
    simp only [PyData.showable, decide_eq_true_eq]
    by_cases z : i.natAbs = 0
    · rw [z]; decide
    · have : i.natAbs.log2 < 30 := (Nat.log2_lt z).mpr (by omega)
      omega
  | .str x, h => ⟨by simpa [tame, PyData.canLay0] using h, by simp [PyData.showable], by simp [PyData.hasDict], by simp [PyData.intsShort]⟩
  | .list xs, h => by
    have := tameAll_has xs (by simpa [tame] using h)
    exact ⟨by simp only [PyData.canLay0]; exact this.1, by simp only [PyData.showable]; exact this.2.1, by simp only [PyData.hasDict]; exact this.2.2.1, by simp only [PyData.intsShort]; exact this.2.2.2⟩
  | .tuple xs, h => by
    have := tameAll_has xs (by simpa [tame] using h)
    exact ⟨by simp only [PyData.canLay0]; exact this.1, by simp only [PyData.showable]; exact this.2.1, by simp only [PyData.hasDict]; exact this.2.2.1, by simp only [PyData.intsShort]; exact this.2.2.2⟩
  | .bool _, h => by simp [tame] at h
  | .dict _, h => by simp [tame] at h
theorem tameAll_has : ∀ xs : List PyData, tameAll xs = true → PyData.canLayAll0 xs = true ∧ PyData.showableAll xs = true ∧ PyData.hasDictAll xs = false ∧ PyData.intsShortAll 13 xs = true
  | [], _ => ⟨by simp [PyData.canLayAll0], by simp [PyData.showableAll], by simp [PyData.hasDictAll], by simp [PyData.intsShortAll]⟩
  | x :: xs, h => by
    have h' : tame x = true ∧ tameAll xs = true := by simpa [tameAll] using h
    have a := tame_has x h'.1
    have b := tameAll_has xs h'.2
    exact ⟨by simp [PyData.canLayAll0, a, b], by simp [PyData.showableAll, a, b], by simp [PyData.hasDictAll, a, b], by simp [PyData.intsShortAll, a, b]⟩
end
mutual
theorem eqv_iff : ∀ d e : PyData, tame d = true → tame e = true → (PyData.eqv d e = true ↔ d = e)
  | .list xs, .list ys, h, k => by
    simp only [PyData.eqv, PyData.list.injEq]
    exact eqvAll_iff xs ys (by simpa [tame] using h) (by simpa [tame] using k)
  | .tuple xs, .tuple ys, h, k => by
    simp only [PyData.eqv, PyData.tuple.injEq]
    exact eqvAll_iff xs ys (by simpa [tame] using h) (by simpa [tame] using k)
  | .none, e, _, k => by cases e <;> simp [PyData.eqv, tame] at k ⊢
  | .int _, e, _, k => by cases e <;> simp [PyData.eqv, tame] at k ⊢
  | .str _, e, _, k => by cases e <;> simp [PyData.eqv, tame] at k ⊢
  | .bool _, _, h, _ => by simp [tame] at h
  | .dict _, _, h, _ => by simp [tame] at h
  | .list _, .none, _, _ => by simp [PyData.eqv]
  | .list _, .int _, _, _ => by simp [PyData.eqv]
  | .list _, .str _, _, _ => by simp [PyData.eqv]
  | .list _, .tuple _, _, _ => by simp [PyData.eqv]
  | .list _, .bool _, _, k => by simp [tame] at k
  | .list _, .dict _, _, k => by simp [tame] at k
  | .tuple _, .none, _, _ => by simp [PyData.eqv]
  | .tuple _, .int _, _, _ => by simp [PyData.eqv]
  | .tuple _, .str _, _, _ => by simp [PyData.eqv]
  | .tuple _, .list _, _, _ => by simp [PyData.eqv]
  | .tuple _, .bool _, _, k => by simp [tame] at k
  | .tuple _, .dict _, _, k => by simp [tame] at k
theorem eqvAll_iff : ∀ xs ys : List PyData, tameAll xs = true → tameAll ys = true → (PyData.eqvAll xs ys = true ↔ xs = ys)
  | [], [], _, _ => by simp [PyData.eqvAll]
  | [], _ :: _, _, _ => by simp [PyData.eqvAll]
  | _ :: _, [], _, _ => by simp [PyData.eqvAll]
  | x :: xs, y :: ys, h, k => by
    have h' : tame x = true ∧ tameAll xs = true := by simpa [tameAll] using h
    have k' : tame y = true ∧ tameAll ys = true := by simpa [tameAll] using k
    simp only [PyData.eqvAll, Bool.and_eq_true, List.cons.injEq]
    rw [eqv_iff x y h'.1 k'.1, eqvAll_iff xs ys h'.2 k'.2]
end
theorem eqv_dec {d e : PyData} {p : Prop} [Decidable p] (h : tame d = true) (k : tame e = true) (i : d = e ↔ p) : PyData.eqv d e = decide p := by
  rw [Bool.eq_iff_iff, eqv_iff d e h k, i, decide_eq_true_eq]
theorem shaped_of {d : PyData} (h : tame d = true) (hd : d.depth ≤ 32) : SeqAt.shaped d = true := by
  show (PyData.canLay0 d && decide (d.depth ≤ 64)) = true
  rw [(tame_has d h).1, Bool.true_and, decide_eq_true_eq]
  omega
theorem shown_of {d : PyData} (h : tame d = true) (hd : d.depth ≤ 32) (hw : d.weight ≤ 1048576) : d.shown.length ≤ sizeLine := by
  refine PyData.shown_fits_of_layable0 (B := 13) (by decide) (by decide) ?_ (tame_has d h).2.2.2
  show (PyData.canLay0 d && decide (PyData.depth d ≤ 64) && decide (PyData.weight d ≤ 2 ^ 20)) = true
  rw [(tame_has d h).1, Bool.true_and, Bool.and_eq_true, decide_eq_true_eq, decide_eq_true_eq]
  exact ⟨by omega, hw⟩
/-! ### words, places -/
def ok8 (t : Tx) : Prop := ∀ c ∈ t, c < 1000
theorem strOk_S {t : Tx} (h : ok8 t) : PyData.strOk (S t) = true := by
  show (S t).cps.all (· < 0x110000) = true
  rw [show (S t).cps = t.toArray from rfl]
  simp only [List.all_toArray, List.all_eq_true, decide_eq_true_eq]
  exact fun c hc => Nat.lt_trans (h c hc) (by decide)
def wsD (ws : List Tx) : PyData := .list (ws.map fun t => .str (S t))
def plD (p : Int × Int) : PyData := .tuple [.int p.1, .int p.2]
def psD (ps : List (Int × Int)) : PyData := .list (ps.map plD)
theorem S_inj' {x y : Tx} : PyData.str (S x) = PyData.str (S y) ↔ x = y := by simp [S_inj]
theorem map_inj {α β : Type} {f : α → β} (h : ∀ {x y}, f x = f y ↔ x = y) {l m : List α} : l.map f = m.map f ↔ l = m :=
  ⟨fun e => List.map_inj_right (fun x y => h.mp) |>.mp e, fun e => by rw [e]⟩
theorem wsD_inj {x y : List Tx} : wsD x = wsD y ↔ x = y := by
  simp only [wsD, PyData.list.injEq]
  exact map_inj S_inj'
theorem plD_inj {x y : Int × Int} : plD x = plD y ↔ x = y := by
  obtain ⟨a, b⟩ := x; obtain ⟨c, d⟩ := y
  simp [plD]
theorem psD_inj {x y : List (Int × Int)} : psD x = psD y ↔ x = y := by
  simp only [psD, PyData.list.injEq]
  exact map_inj plD_inj
def okI (i : Int) : Prop := i.natAbs < 1000000
theorem wsD_tame {ws : List Tx} (h : ∀ t ∈ ws, ok8 t) : tame (wsD ws) = true := by
  simp only [wsD, tame, tameAll_iff, List.mem_map]
  rintro _ ⟨t, ht, rfl⟩
  simp only [tame]
  exact strOk_S (h t ht)
theorem psD_tame {ps : List (Int × Int)} (h : ∀ p ∈ ps, okI p.1 ∧ okI p.2) : tame (psD ps) = true := by
  simp only [psD, tame, tameAll_iff, List.mem_map]
  rintro _ ⟨p, hp, rfl⟩
  have := h p hp
  simp only [okI] at this
  simp only [plD, tame, tameAll, Bool.and_true, Bool.and_eq_true, decide_eq_true_eq]
  omega
theorem depthAll_le {n : Nat} : ∀ {xs : List PyData}, (∀ x ∈ xs, x.depth ≤ n) → PyData.depthAll xs ≤ n
  | [], _ => by simp [PyData.depthAll]
  | x :: xs, h => by
    simp only [PyData.depthAll]
    exact Nat.max_le.mpr ⟨h x (.head _), depthAll_le fun y hy => h y (.tail _ hy)⟩
theorem wsD_depth (ws : List Tx) : (wsD ws).depth ≤ 1 := by
  simp only [wsD, PyData.depth]
  refine Nat.succ_le_succ (depthAll_le fun x hx => ?_)
  obtain ⟨t, _, rfl⟩ := List.mem_map.mp hx
  simp [PyData.depth]
theorem psD_depth (ps : List (Int × Int)) : (psD ps).depth ≤ 2 := by
  simp only [psD, PyData.depth]
  refine Nat.succ_le_succ (depthAll_le fun x hx => ?_)
  obtain ⟨t, _, rfl⟩ := List.mem_map.mp hx
  simp [plD, PyData.depth, PyData.depthAll]
theorem weightAll_le {n : Nat} : ∀ {xs : List PyData}, (∀ x ∈ xs, x.weight ≤ n) → PyData.weightAll xs ≤ (n + 1) * xs.length
  | [], _ => by simp [PyData.weightAll]
  | x :: xs, h => by
    simp only [PyData.weightAll, List.length_cons, Nat.mul_succ]
    have h1 := h x (.head _)
    have h2 := weightAll_le (xs := xs) fun y hy => h y (.tail _ hy)
    omega
theorem wsD_weight {ws : List Tx} {n : Nat} (h : ∀ t ∈ ws, t.length ≤ n) : (wsD ws).weight ≤ (n + 1) * ws.length := by
  simp only [wsD, PyData.weight]
  have := weightAll_le (n := n) (xs := ws.map fun t => PyData.str (S t)) fun x hx => by
    obtain ⟨t, ht, rfl⟩ := List.mem_map.mp hx
    simp only [PyData.weight, S_size]
    exact h t ht
  rwa [List.length_map] at this
theorem int_weight {i : Int} (h : okI i) : (PyData.int i).weight ≤ 30 := by
  simp only [PyData.weight]
  split
  · omega
  · rename_i z
    have z' : i.natAbs ≠ 0 := by simpa using z
    have : i.natAbs.log2 < 20 := (Nat.log2_lt z').mpr (Nat.lt_trans h (by decide))
    omega
theorem psD_weight {ps : List (Int × Int)} (h : ∀ p ∈ ps, okI p.1 ∧ okI p.2) : (psD ps).weight ≤ 63 * ps.length := by
  simp only [psD, PyData.weight]
  have := weightAll_le (n := 62) (xs := ps.map plD) fun x hx => by
    obtain ⟨p, hp, rfl⟩ := List.mem_map.mp hx
    have h1 := int_weight (h p hp).1
    have h2 := int_weight (h p hp).2
    simp only [plD]
    rw [PyData.weight]
    simp only [PyData.weightAll]
    omega
  rwa [List.length_map] at this
/-! ### where they lie -/
def Pls (H : Hp) (x : V) (d : Int × Int) : Prop := ∃ t, x = .ref t ∧ H t = some (.tup [.int d.1, .int d.2])
theorem Pls.mono {H H' : Hp} {x : V} {d : Int × Int} (h : Pls H x d) (t : ∀ b xs, H b = some (.tup xs) → H' b = some (.tup xs)) : Pls H' x d := by
  obtain ⟨b, e, h1⟩ := h
  exact ⟨b, e, t _ _ h1⟩
theorem dpAll_map {α : Type} {K : PySem.W.Frag} {H : Hp} {f : α → V} {g : α → PyData} : ∀ (l : List α), (∀ x ∈ l, Dp K H (f x) (g x)) → DpAll K H (l.map f) (l.map g)
  | [], _ => .nil
  | x :: l, h => .cons (h x (.head _)) (dpAll_map l fun y hy => h y (.tail _ hy))
theorem dpAll_paired {α : Type} {K : PySem.W.Frag} {H : Hp} {F : V → α → Prop} {g : α → PyData} (h : ∀ x y, F x y → Dp K H x (g y)) : ∀ {xs : List V} {l : List α}, Paired F xs l → DpAll K H xs (l.map g)
  | _, _, .nil => .nil
  | _, _, .cons r t => .cons (h _ _ r) (dpAll_paired h t)
theorem dp_ws {K : PySem.W.Frag} {H : Hp} {p : Addr} {ws : List Tx} (h : SqL K H p (ws.map fun t => V.str (S t))) : Dp K H (.ref p) (wsD ws) := .lst h (dpAll_map ws fun _ _ => .str _)
theorem dp_pl {K : PySem.W.Frag} {H : Hp} {x : V} {d : Int × Int} (h : Pls H x d) : Dp K H x (plD d) := by
  obtain ⟨t, rfl, h⟩ := h
  exact .tup (.inl (.inl h)) (.cons (.int _) (.cons (.int _) .nil))
theorem dp_ps {K : PySem.W.Frag} {H : Hp} {p : Addr} {xs : List V} {ps : List (Int × Int)} (h : SqL K H p xs) (q : Paired (Pls H) xs ps) : Dp K H (.ref p) (psD ps) := .lst h (dpAll_paired (g := plD) (fun _ _ z => dp_pl z) q)
/-! ### what a reading tells -/
abbrev Told := Except Int (List Tx × List (Int × Int))
instance : DecidableEq Told := fun x y => match x, y with
  | .error i, .error j => decidable_of_iff (i = j) (by simp)
  | .ok p, .ok q => decidable_of_iff (p = q) (by simp)
  | .error _, .ok _ => isFalse (by simp)
  | .ok _, .error _ => isFalse (by simp)
def tD : Told → PyData
  | .error n => .int n
  | .ok (ws, ps) => .tuple [wsD ws, psD ps]
structure TOk (n : Nat) (x : Told) : Prop where
  er : ∀ i, x = .error i → okI i
  ws : ∀ l ps, x = .ok (l, ps) → (∀ t ∈ l, ok8 t ∧ t.length ≤ n) ∧ l.length ≤ n
  ps : ∀ l ps, x = .ok (l, ps) → (∀ p ∈ ps, okI p.1 ∧ okI p.2) ∧ ps.length ≤ n
theorem tD_inj {x y : Told} : tD x = tD y ↔ x = y := by
  cases x with
  | error i => cases y with
    | error j => simp [tD]
    | ok q => simp [tD]
  | ok p => cases y with
    | error j => simp [tD]
    | ok q =>
      obtain ⟨a, b⟩ := p; obtain ⟨c, d⟩ := q
      simp only [tD, PyData.tuple.injEq, List.cons.injEq, and_true, wsD_inj, psD_inj, Except.ok.injEq, Prod.mk.injEq]
theorem tD_tame {n : Nat} {x : Told} (h : TOk n x) : tame (tD x) = true := by
  cases x with
  | error i =>
    have := h.er i rfl
    simp only [okI] at this
    simp only [tD, tame, decide_eq_true_eq]
    omega
  | ok p =>
    obtain ⟨l, ps⟩ := p
    simp only [tD, tame, tameAll, Bool.and_true, Bool.and_eq_true]
    exact ⟨wsD_tame fun t ht => ((h.ws l ps rfl).1 t ht).1, psD_tame (h.ps l ps rfl).1⟩
theorem tD_depth (x : Told) : (tD x).depth ≤ 3 := by
  cases x with
  | error i => simp [tD, PyData.depth]
  | ok p =>
    obtain ⟨l, ps⟩ := p
    simp only [tD, PyData.depth, PyData.depthAll]
    have h1 := wsD_depth l
    have h2 := psD_depth ps
    omega
theorem tD_weight {n : Nat} (hn : n ≤ 900) {x : Told} (h : TOk n x) : (tD x).weight ≤ 1000000 := by
  cases x with
  | error i =>
    have := int_weight (h.er i rfl)
    simp only [tD]
    omega
  | ok p =>
    obtain ⟨l, ps⟩ := p
    have h1 := wsD_weight (n := n) fun t ht => ((h.ws l ps rfl).1 t ht).2
    have h2 := psD_weight (h.ps l ps rfl).1
    have h3 := (h.ws l ps rfl).2
    have h4 := (h.ps l ps rfl).2
    have h5 : (n + 1) * l.length ≤ 901 * 900 := Nat.mul_le_mul (by omega) (by omega)
    simp only [tD]
    rw [PyData.weight]
    simp only [PyData.weightAll]
    omega
end Qw

set_option Elab.async false
set_option linter.all false
set_option maxRecDepth 100000
set_option maxHeartbeats 4000000
namespace Qw
open PySem L2
def sgn (c : Nat) : Bool := decide (32 ≤ c ∧ c ≤ 126) || decide (c = 10)
def RS.every (r : RS) : Tx := r.breaks ++ (r.hard ++ (r.soft ++ (r.bend ++ r.note)))
structure RS.Ok (r : RS) : Prop where
  l1 : r.breaks.length ≤ 4
  l2 : r.hard.length ≤ 2
  l3 : r.soft.length ≤ 2
  l4 : r.bend.length ≤ 1
  l5 : r.note.length ≤ 1
  ne : r.breaks ≠ []
  sg : r.every.all sgn = true
  nd : r.every.Nodup
/-! ### bounds of what is read -/
/-- where a machine is behind a text u -/
structure MS.Bd (m : MS) (u : Tx) : Prop where
  wd : ∀ w, m.word = some w → (∀ c ∈ w, c ∈ u)
  be : m.begun ≤ m.place
  op : m.opened ≤ m.place
def W3.Bd (d : W3) (u : Tx) (n : Nat) : Prop := (∀ c ∈ d.1, c ∈ u) ∧ d.1.length ≤ n ∧ d.2.1 ≤ n ∧ d.2.2 ≤ n
theorem MS.Bd.begin {m : MS} {u : Tx} (b : m.Bd u) : m.begin.Bd u := by
  unfold MS.begin
  split
  · exact ⟨fun w e => by cases e; simp, Nat.le_refl _, b.op⟩
  · exact b
theorem MS.Bd.add {m : MS} {u : Tx} {c : Nat} (b : m.Bd u) (hc : c ∈ u) : (m.add c).Bd u := by
  refine ⟨fun w e => ?_, b.be, b.op⟩
  unfold MS.add at e
  cases h : m.word with
  | none => rw [h] at e; cases e
  | some z =>
    rw [h] at e
    cases (Option.some.inj e : z ++ [c] = w)
    intro x hx
    rcases List.mem_append.mp hx with q | q
    · exact b.wd z h x q
    · rw [List.mem_singleton.mp q]; exact hc
theorem MS.Bd.mono {m : MS} {u v : Tx} (b : m.Bd u) (h : ∀ c ∈ u, c ∈ v) : m.Bd v := ⟨fun w e c hc => h c (b.wd w e c hc), b.be, b.op⟩
theorem MS.Bd.up {m : MS} {u : Tx} (b : m.Bd u) : ({ m with place := m.place + 1 } : MS).Bd u := ⟨b.wd, Nat.le_succ_of_le b.be, Nat.le_succ_of_le b.op⟩
theorem MS.Bd.out {m : MS} {u : Tx} (b : m.Bd u) (ok : m.Ok) : ∀ d ∈ m.out, d.Bd u m.place := by
  intro d hd
  unfold MS.out at hd
  cases h : m.word with
  | none => rw [h] at hd; cases hd
  | some w =>
    rw [h] at hd
    cases List.mem_singleton.mp hd
    exact ⟨b.wd w h, ok.ln w h, b.be, Nat.le_refl _⟩
theorem MS.Bd.step {m : MS} {u : Tx} (b : m.Bd u) (ok : m.Ok) (r : RS) (c : Nat) : (m.step r c).1.Bd (u ++ [c]) ∧ ∀ d ∈ (m.step r c).2, d.Bd (u ++ [c]) m.place := by
  have hc : c ∈ u ++ [c] := by simp
  have b' : m.Bd (u ++ [c]) := b.mono fun x hx => by simp [hx]
  refine MS.step_cases r m c (fun x => x.1.Bd (u ++ [c]) ∧ ∀ d ∈ x.2, d.Bd (u ++ [c]) m.place) (fun m1 h _ => ?_) (fun m1 h _ _ => ?_) (fun _ _ _ => ⟨b'.up, fun _ z => (nomatch z)⟩) fun _ _ _ => ⟨?_, fun _ z => (nomatch z)⟩
  · have b1 : m1.Bd (u ++ [c]) := by rcases h with h | h <;> subst h <;> exact ⟨b'.wd, b'.be, b'.op⟩
    refine ⟨?_, fun _ z => (nomatch z)⟩
    have b2 : ({ m1 with bent := false } : MS).Bd (u ++ [c]) := ⟨b1.wd, b1.be, b1.op⟩
    exact (b2.add hc).up
  · have b1 : m1.Bd (u ++ [c]) := by rcases h with h | h <;> subst h <;> exact ⟨b'.wd, b'.be, b'.op⟩
    have e1 : m1.out = m.out := by rcases h with h | h <;> subst h <;> rfl
    have ot : ∀ d ∈ m1.out, d.Bd (u ++ [c]) m.place := fun d hd => by
      rw [e1] at hd
      exact b'.out ok d hd
    suffices q : (m1.plain r c).1.Bd (u ++ [c]) ∧ ∀ d ∈ (m1.plain r c).2, d.Bd (u ++ [c]) m.place from ⟨q.1.up, q.2⟩
    have bb := b1.begin
    unfold MS.plain
    split
    · exact ⟨⟨fun w e => (nomatch e), b1.be, b1.op⟩, ot⟩
    split
    · exact ⟨⟨fun w e => (nomatch e), b1.be, b1.op⟩, ot⟩
    split
    · exact ⟨⟨bb.wd, bb.be, Nat.le_refl _⟩, fun _ z => (nomatch z)⟩
    split
    · exact ⟨⟨bb.wd, bb.be, Nat.le_refl _⟩, fun _ z => (nomatch z)⟩
    · exact ⟨bb.add hc, fun _ z => (nomatch z)⟩
  · suffices q : (m.quoted r c).Bd (u ++ [c]) from q.up
    unfold MS.quoted
    split
    · exact ⟨b'.wd, b'.be, b'.op⟩
    split
    · exact ⟨b'.wd, b'.be, b'.op⟩
    · exact b'.add hc
theorem MS.Bd.run (r : RS) : ∀ (t : Tx) {m : MS} {u : Tx}, m.Bd u → m.Ok → (m.run r t).1.Bd (u ++ t) ∧ ∀ d ∈ (m.run r t).2, d.Bd (u ++ t) (m.place + t.length)
  | [], m, u, b, _ => ⟨by rw [List.append_nil]; exact b, fun _ z => (nomatch z)⟩
  | c :: t, m, u, b, ok => by
    have h1 := b.step ok r c
    have h2 := MS.Bd.run r t h1.1 (ok.step r c)
    rw [MS.place_step] at h2
    have e : u ++ c :: t = u ++ [c] ++ t := by simp
    rw [e, List.length_cons]
    refine ⟨h2.1, fun d hd => ?_⟩
    rcases List.mem_append.mp hd with q | q
    · obtain ⟨a1, a2, a3, a4⟩ := h1.2 d q
      exact ⟨fun x hx => List.mem_append_left _ (a1 x hx), by omega, by omega, by omega⟩
    · obtain ⟨a1, a2, a3, a4⟩ := h2.2 d q
      exact ⟨a1, by omega, by omega, by omega⟩
theorem readAll_bd (r : RS) (t : Tx) (rp : Addr) : match readAll r t rp with
    | .error n => n ≤ t.length
    | .ok ds => ds.length ≤ t.length + 1 ∧ ∀ d ∈ ds, d.Bd t t.length := by
  have z : (MS.zero rp).Bd [] := ⟨fun w e => (by cases e), Nat.le_refl _, Nat.le_refl _⟩
  have h := MS.Bd.run r t z (MS.Ok.zero rp)
  have pl := MS.place_run r t (MS.zero rp)
  have pz : (MS.zero rp).place = 0 := rfl
  have ok := (MS.Ok.zero rp).run r t
  rw [pz, Nat.zero_add] at pl
  rw [List.nil_append, pz, Nat.zero_add] at h
  unfold readAll
  split
  · rename_i n e
    split at e
    · rename_i n' e'
      cases e
      unfold MS.fault at e'
      split at e'
      · cases e'
        rw [← pl]; exact h.1.op
      · cases e'
    · cases e
  · rename_i ds e
    split at e
    · cases e
    · cases e
      refine ⟨?_, fun d hd => ?_⟩
      · rw [List.length_append]
        have h1 := MS.out_run r t (MS.zero rp)
        have h2 : ((MS.zero rp).run r t).1.out.length ≤ 1 := by unfold MS.out; split <;> simp
        omega
      · rcases List.mem_append.mp hd with q | q
        · exact h.2 d q
        · have := h.1.out ok d q
          rwa [pl] at this
/-- what an answer tells of a text -/
def told3 (x : Except Nat (List W3)) : Told := match x with
  | .error n => .error n
  | .ok ds => .ok (ds.map (·.1), ds.map fun d => ((d.2.1 : Int), (d.2.2 : Int)))
theorem TOk.mono {m n : Nat} {x : Told} (h : TOk m x) (le : m ≤ n) : TOk n x :=
  ⟨h.er, fun l ps e => ⟨fun t ht => ⟨((h.ws l ps e).1 t ht).1, Nat.le_trans ((h.ws l ps e).1 t ht).2 le⟩, Nat.le_trans (h.ws l ps e).2 le⟩, fun l ps e => ⟨(h.ps l ps e).1, Nat.le_trans (h.ps l ps e).2 le⟩⟩
theorem told3_ok1 {r : RS} {t : Tx} {rp : Addr} (h8 : ok8 t) (hn : t.length ≤ 10000) : TOk (t.length + 1) (told3 (readAll r t rp)) := by
  have h := readAll_bd r t rp
  cases e : readAll r t rp with
  | error n =>
    rw [e] at h
    refine ⟨fun i q => ?_, fun _ _ q => (nomatch q), fun _ _ q => (nomatch q)⟩
    cases q
    have h : n ≤ t.length := h
    simp only [okI]
    omega
  | ok ds =>
    rw [e] at h
    refine ⟨fun i q => (nomatch q), fun l ps q => ?_, fun l ps q => ?_⟩
    · cases q
      refine ⟨fun w hw => ?_, by rw [List.length_map]; have := h.1; omega⟩
      obtain ⟨d, hd, rfl⟩ := List.mem_map.mp hw
      have hb := h.2 d hd
      exact ⟨fun c hc => h8 c (hb.1 c hc), by have := hb.2.1; omega⟩
    · cases q
      refine ⟨fun w hw => ?_, by rw [List.length_map]; have := h.1; omega⟩
      obtain ⟨d, hd, rfl⟩ := List.mem_map.mp hw
      have hb := h.2 d hd
      have h1 := hb.2.2.1
      have h2 := hb.2.2.2
      simp only [okI]
      omega
theorem told3_ok {r : RS} {t : Tx} {rp : Addr} (h8 : ok8 t) (hn : t.length ≤ 800) : TOk 900 (told3 (readAll r t rp)) := (told3_ok1 h8 (by omega)).mono (by omega)
theorem ok8_of {t : Tx} (h : t.all sgn = true) : ok8 t := fun c hc => by
  have := List.all_eq_true.mp h c hc
  simp only [sgn, Bool.or_eq_true, decide_eq_true_eq] at this
  omega
end Qw

set_option Elab.async false
set_option linter.all false
set_option maxRecDepth 100000
set_option maxHeartbeats 4000000
namespace Qw
open PySem L2
/-! ### the law's own reading, in plain Lean -/
theorem drop_at {t : Tx} {i c : Nat} (h : t[i]? = some c) : t.drop i = c :: t.drop (i + 1) := by
  obtain ⟨hi, e⟩ := List.getElem?_eq_some_iff.mp h
  rw [List.drop_eq_getElem_cons hi, e]
theorem drop_end {t : Tx} {i : Nat} (h : t[i]? = none) : t.drop i = [] := List.drop_eq_nil_of_le (List.getElem?_eq_none_iff.mp h)
def lq (r : RS) (q b : Nat) : Tx → Nat → Tx → Except Nat (Tx × Nat)
  | [], _, _ => .error b
  | [c], k, f => if c = q then .ok (f, k + 1) else .error b
  | c :: d :: rest, k, f => if c = q then .ok (f, k + 1)
      else if q ∈ r.soft ∧ r.bend = [c] then lq r q b rest (k + 2) (f ++ [d]) else lq r q b (d :: rest) (k + 1) (f ++ [c])
theorem lq_one {r : RS} {q b c : Nat} {rest : Tx} {k : Nat} {f : Tx} (h : c = q) : lq r q b (c :: rest) k f = .ok (f, k + 1) := by
  cases rest <;> simp [lq, h]
theorem lq_plain {r : RS} {q b c : Nat} {rest : Tx} {k : Nat} {f : Tx} (h : c ≠ q) (h2 : ¬ (q ∈ r.soft ∧ r.bend = [c])) : lq r q b (c :: rest) k f = lq r q b rest (k + 1) (f ++ [c]) := by
  cases rest with
  | nil => simp [lq, h]
  | cons d l => simp only [lq, if_neg h, if_neg h2]
theorem lq_bend {r : RS} {q b c d : Nat} {rest : Tx} {k : Nat} {f : Tx} (h : c ≠ q) (h2 : q ∈ r.soft ∧ r.bend = [c]) : lq r q b (c :: d :: rest) k f = lq r q b rest (k + 2) (f ++ [d]) := by
  simp only [lq, if_neg h, if_pos h2]
theorem lq_last {r : RS} {q b c : Nat} {k : Nat} {f : Tx} (h : c ≠ q) : lq r q b [c] k f = .error b := by
  simp [lq, h]
theorem lq_bd (r : RS) (q b : Nat) : ∀ (t : Tx) (k : Nat) (f : Tx), match lq r q b t k f with
    | .error n => n = b
    | .ok (g, e) => k + 1 ≤ e ∧ e ≤ k + t.length ∧ g.length + k + 1 ≤ f.length + e
  | [], k, f => by simp [lq]
  | [c], k, f => by
    by_cases h : c = q
    · simp [lq, h]; omega
    · simp [lq, h]
  | c :: d :: rest, k, f => by
    have h1 := lq_bd r q b rest (k + 2) (f ++ [d])
    have h2 := lq_bd r q b (d :: rest) (k + 1) (f ++ [c])
    unfold lq
    by_cases c1 : c = q
    · simp only [if_pos c1, List.length_cons]; omega
    · by_cases c2 : q ∈ r.soft ∧ r.bend = [c]
      · simp only [if_neg c1, if_pos c2]
        cases e : lq r q b rest (k + 2) (f ++ [d]) with
        | error n => rw [e] at h1; exact h1
        | ok p =>
          obtain ⟨g, e'⟩ := p
          rw [e] at h1
          simp only [List.length_append, List.length_cons, List.length_nil] at h1 ⊢
          omega
      · simp only [if_neg c1, if_neg c2]
        cases e : lq r q b (d :: rest) (k + 1) (f ++ [c]) with
        | error n => rw [e] at h2; exact h2
        | ok p =>
          obtain ⟨g, e'⟩ := p
          rw [e] at h2
          simp only [List.length_append, List.length_cons, List.length_nil] at h2 ⊢
          omega
def lw (r : RS) (t : Tx) : Nat → Nat → Tx → Except Nat (Tx × Nat)
  | 0, k, f => .ok (f, k)
  | n + 1, k, f => match t[k]? with
    | none => .ok (f, k)
    | some c => if c ∈ r.breaks ++ r.note then .ok (f, k)
      else if c ∈ r.hard ++ r.soft then (match lq r c k (t.drop (k + 1)) (k + 1) [] with
        | .error b => .error b
        | .ok (g, e) => lw r t n e (f ++ g))
      else if r.bend = [c] then (match t[k + 1]? with
        | none => .error k
        | some d => lw r t n (k + 2) (f ++ [d]))
      else lw r t n (k + 1) (f ++ [c])
theorem lw_bd (r : RS) (t : Tx) : ∀ (n k : Nat) (f : Tx), k ≤ t.length → match lw r t n k f with
    | .error b => b ≤ t.length
    | .ok (g, e) => k ≤ e ∧ e ≤ t.length ∧ g.length + k ≤ f.length + e
  | 0, k, f, hk => by simp only [lw]; omega
  | n + 1, k, f, hk => by
    unfold lw
    cases h : t[k]? with
    | none => simp only []; omega
    | some c =>
      have hk' : k < t.length := (List.getElem?_eq_some_iff.mp h).1
      simp only []
      by_cases c1 : c ∈ r.breaks ++ r.note
      · simp only [if_pos c1]; omega
      by_cases c2 : c ∈ r.hard ++ r.soft
      · simp only [if_neg c1, if_pos c2]
        have b1 := lq_bd r c k (t.drop (k + 1)) (k + 1) []
        cases e : lq r c k (t.drop (k + 1)) (k + 1) [] with
        | error b => rw [e] at b1; simp only at b1 ⊢; omega
        | ok p =>
          obtain ⟨g, e'⟩ := p
          rw [e] at b1
          rw [List.length_drop] at b1
          simp only [List.length_nil] at b1
          have ih := lw_bd r t n e' (f ++ g) (by omega)
          cases e2 : lw r t n e' (f ++ g) with
          | error b => rw [e2] at ih; simp only [e2]; exact ih
          | ok p =>
            obtain ⟨g2, e3⟩ := p
            rw [e2] at ih
            simp only [List.length_append, e2] at ih ⊢
            omega
      by_cases c3 : r.bend = [c]
      · simp only [if_neg c1, if_neg c2, if_pos c3]
        cases h2 : t[k + 1]? with
        | none => simp only []; omega
        | some d =>
          have hk2 : k + 1 < t.length := (List.getElem?_eq_some_iff.mp h2).1
          have ih := lw_bd r t n (k + 2) (f ++ [d]) (by omega)
          simp only []
          cases e2 : lw r t n (k + 2) (f ++ [d]) with
          | error b => rw [e2] at ih; exact ih
          | ok p =>
            obtain ⟨g2, e3⟩ := p
            rw [e2] at ih
            simp only [List.length_append, List.length_cons, List.length_nil] at ih ⊢
            omega
      · simp only [if_neg c1, if_neg c2, if_neg c3]
        have ih := lw_bd r t n (k + 1) (f ++ [c]) (by omega)
        cases e2 : lw r t n (k + 1) (f ++ [c]) with
        | error b => rw [e2] at ih; exact ih
        | ok p =>
          obtain ⟨g2, e3⟩ := p
          rw [e2] at ih
          simp only [List.length_append, List.length_cons, List.length_nil] at ih ⊢
          omega
theorem lw_pos {r : RS} {t : Tx} {n k c : Nat} {f g : Tx} {e : Nat} (hc : t[k]? = some c) (h : c ∉ r.breaks ++ r.note) (q : lw r t (n + 1) k f = .ok (g, e)) : k + 1 ≤ e := by
  have hk : k < t.length := (List.getElem?_eq_some_iff.mp hc).1
  simp only [lw, hc, if_neg h] at q
  split at q
  · have b1 := lq_bd r c k (t.drop (k + 1)) (k + 1) []
    split at q
    · cases q
    · rename_i g2 e2 e3
      rw [e3, List.length_drop] at b1
      have b2 := lw_bd r t n e2 (f ++ g2) (by omega)
      rw [q] at b2
      omega
  · split at q
    · split at q
      · cases q
      · rename_i d h2
        have hk2 : k + 1 < t.length := (List.getElem?_eq_some_iff.mp h2).1
        have b2 := lw_bd r t n (k + 2) (f ++ [d]) (by omega)
        rw [q] at b2
        omega
    · have b2 := lw_bd r t n (k + 1) (f ++ [c]) (by omega)
      rw [q] at b2
      omega
/-- signs up to the line's end -/
def nlk : Tx → Nat
  | [] => 0
  | c :: r => if c = LE then 0 else nlk r + 1
def nlAt (t : Tx) (i : Nat) : Nat := i + nlk (t.drop i)
theorem nlk_spec : ∀ t : Tx, nlk t ≤ t.length ∧ (∀ v, v < nlk t → t[v]? ≠ some LE) ∧ (nlk t < t.length → t[nlk t]? = some LE)
  | [] => by simp [nlk]
  | c :: r => by
    have ih := nlk_spec r
    by_cases h : c = LE
    · simp [nlk, h]
    · simp only [nlk, if_neg h, List.length_cons]
      refine ⟨by omega, fun v hv => ?_, fun hl => ?_⟩
      · cases v with
        | zero => simpa using h
        | succ v => simpa using ih.2.1 v (by omega)
      · simpa using ih.2.2 (by omega)
theorem nlAt_spec {t : Tx} {i : Nat} (h : i ≤ t.length) : i ≤ nlAt t i ∧ nlAt t i ≤ t.length ∧ (∀ v, i ≤ v → v < nlAt t i → t[v]? ≠ some LE) ∧ (nlAt t i < t.length → t[nlAt t i]? = some LE) := by
  have s := nlk_spec (t.drop i)
  rw [List.length_drop] at s
  unfold nlAt
  refine ⟨by omega, by omega, fun v h1 h2 => ?_, fun hl => ?_⟩
  · have := s.2.1 (v - i) (by omega)
    rwa [List.getElem?_drop, show i + (v - i) = v by omega] at this
  · have := s.2.2 (by omega)
    rwa [List.getElem?_drop] at this
theorem find_nl {t : Tx} {i : Nat} (h : i ≤ t.length) : (Txt.find3 (S t) (S [LE]) (i : Int) = -1 ∧ nlAt t i = t.length) ∨ (Txt.find3 (S t) (S [LE]) (i : Int) = (nlAt t i : Int) ∧ nlAt t i < t.length) := by
  have s := nlAt_spec h
  have fi : fromIndex (S t).length (i : Int) = i := by
    unfold fromIndex
    rw [if_neg (by omega)]
    omega
  have gd : ∀ v, v < t.length → ((S t).cps.getD v 0 = LE ↔ t[v]? = some LE) := fun v hv => by
    rw [List.getElem?_eq_getElem hv, Option.some.injEq]
    simp [S, Array.getD, hv]
  have fs := StrLaws.find3_spec (S t) LE (i : Int)
  rw [fi, S_len] at fs
  rcases fs with ⟨e, hn⟩ | ⟨k, e, h1, h2, h3, h4⟩
  · refine .inl ⟨e, ?_⟩
    rcases Nat.lt_or_ge (nlAt t i) t.length with l | l
    · exact absurd ((gd _ l).mpr (s.2.2.2 l)) (hn _ s.1 l)
    · omega
  · have ek : k = nlAt t i := by
      rcases Nat.lt_trichotomy k (nlAt t i) with l | l | l
      · exact absurd ((gd _ h2).mp h3) (s.2.2.1 k h1 l)
      · exact l
      · exact absurd ((gd _ (by omega)).mpr (s.2.2.2 (by omega))) (h4 _ s.1 l)
    exact .inr ⟨by rw [← ek]; exact e, by omega⟩
def lr (r : RS) (t : Tx) : Nat → Nat → List W3 → Except Nat (List W3)
  | 0, _, acc => .ok acc
  | n + 1, k, acc => match t[k]? with
    | none => .ok acc
    | some c0 => match t[if r.note = [c0] then nlAt t (k + 1) else k]? with
      | none => .ok acc
      | some c => if c ∈ r.breaks then lr r t n ((if r.note = [c0] then nlAt t (k + 1) else k) + 1) acc
        else if c ∈ r.note then lr r t n (if r.note = [c0] then nlAt t (k + 1) else k) acc
        else match lw r t t.length (if r.note = [c0] then nlAt t (k + 1) else k) [] with
          | .error b => .error b
          | .ok (w, e) => lr r t n e (acc ++ [(w, (if r.note = [c0] then nlAt t (k + 1) else k), e)])
end Qw

set_option Elab.async false
set_option linter.all false
set_option maxRecDepth 100000
set_option maxHeartbeats 4000000
namespace Qw
open PySem L2
/-! ### the machine reads as the law's own reading does -/
def fin (r : RS) (m : MS) (rest : Tx) (acc : List W3) : Except Nat (List W3) := match (m.run r rest).1.fault with
  | some n => .error n
  | none => .ok (acc ++ ((m.run r rest).2 ++ (m.run r rest).1.out))
theorem fin_step (r : RS) (m : MS) (c : Nat) (rest : Tx) (acc : List W3) : fin r m (c :: rest) acc = fin r (m.step r c).1 rest (acc ++ (m.step r c).2) := by
  unfold fin
  rw [MS.run]
  dsimp only
  split
  · rfl
  · simp only [List.append_assoc]
theorem one_NT (q : Nat) : ¬ ([q] = NT) := by intro h; cases h
theorem nil_NT : ¬ (([] : Tx) = NT) := by intro h; cases h
theorem NT_nil : ¬ (NT = ([] : Tx)) := by intro h; cases h
/-- a sign in a quoted stretch -/
theorem step_quoted {r : RS} {m : MS} {q c : Nat} (hs : m.state = [q]) (hb : m.bent = false) : m.step r c = ({ (m.quoted r c) with place := m.place + 1 }, []) := by
  unfold MS.step
  rw [if_neg (fun h => one_NT q (hs ▸ h.1))]
  simp only [hb, Bool.false_eq_true, if_false, hs, List.cons_ne_nil, one_NT]
  rw [MS.place_quoted]
theorem step_bent {r : RS} {m : MS} {c : Nat} (hs : m.state ≠ NT) (hb : m.bent = true) : m.step r c = ({ (({ m with bent := false } : MS).add c) with place := m.place + 1 }, []) := by
  unfold MS.step
  rw [if_neg (fun h => hs h.1)]
  simp only [hb, if_true]
  rfl
theorem step_plain {r : RS} {m : MS} {c : Nat} (hs : m.state = []) (hb : m.bent = false) : m.step r c = ({ (m.plain r c).1 with place := m.place + 1 }, (m.plain r c).2) := by
  unfold MS.step
  rw [if_neg (fun h => nil_NT (hs ▸ h.1))]
  simp only [hb, Bool.false_eq_true, if_false, hs, if_true]
  rw [MS.place_plain]
theorem fin_lq (r : RS) (hb1 : r.bend.length ≤ 1) (q b : Nat) : ∀ (rest : Tx) (k : Nat) (f w0 : Tx) (m : MS) (acc : List W3), m.state = [q] → m.bent = false → m.word = some (w0 ++ f) → m.place = k → m.opened = b →
    match lq r q b rest k f with
    | .error _ => fin r m rest acc = .error b
    | .ok (g, e) => fin r m rest acc = fin r { m with state := [], word := some (w0 ++ g), place := e } (rest.drop (e - k)) acc
  | [], k, f, w0, m, acc, hs, hb, hw, hp, ho => by
    have : m.fault = some b := by
      unfold MS.fault
      rw [if_pos (.inr ⟨by rw [hs]; simp, by rw [hs]; exact one_NT q⟩), ho]
    simp [lq, fin, MS.run, this]
  | c :: rest, k, f, w0, m, acc, hs, hb, hw, hp, ho => by
    have mem : c ∈ r.bend ↔ r.bend = [c] := by
      constructor
      · intro h
        match hbn : r.bend, h, hb1 with
        | [x], h, _ => rw [List.mem_singleton.mp h]
      · intro h; rw [h]; exact List.mem_singleton.mpr rfl
    rw [fin_step, step_quoted hs hb, List.append_nil]
    by_cases c1 : c = q
    · rw [lq_one c1]
      have : m.quoted r c = { m with state := [] } := by
        unfold MS.quoted
        rw [if_pos (by rw [hs, c1])]
      rw [this]
      show fin r _ rest acc = fin r _ ((c :: rest).drop (k + 1 - k)) acc
      rw [show k + 1 - k = 1 by omega]
      show fin r { m with state := [], place := m.place + 1 } rest acc = fin r { m with state := [], word := some (w0 ++ f), place := k + 1 } rest acc
      rw [hp, ← hw]
    have c1' : ¬ ([c] = m.state) := fun h => c1 (by rw [hs] at h; cases h; rfl)
    by_cases c2 : q ∈ r.soft ∧ r.bend = [c]
    · have qd : m.quoted r c = { m with bent := true } := by
        unfold MS.quoted
        rw [if_neg c1', if_pos ⟨mem.mpr c2.2, by rw [hs]; simpa using c2.1⟩]
      rw [qd]
      cases rest with
      | nil =>
        rw [lq_last c1]
        have : ({ m with bent := true, place := m.place + 1 } : MS).fault = some b := by
          unfold MS.fault
          rw [if_pos (.inl rfl)]
          exact congrArg some ho
        simp [fin, MS.run, this]
      | cons d rest =>
        rw [lq_bend c1 c2, fin_step, step_bent (m := { m with bent := true, place := m.place + 1 }) (by show m.state ≠ NT; rw [hs]; exact one_NT q) rfl, List.append_nil]
        have ih := fin_lq r hb1 q b rest (k + 2) (f ++ [d]) w0 { (({ m with bent := false, place := m.place + 1 } : MS).add d) with place := m.place + 1 + 1 } acc hs rfl (by simp [MS.add, hw]) (by show m.place + 1 + 1 = k + 2; omega) ho
        cases e : lq r q b rest (k + 2) (f ++ [d]) with
        | error x => rw [e] at ih; exact ih
        | ok z =>
          obtain ⟨g, e2⟩ := z
          rw [e] at ih
          have bd := lq_bd r q b rest (k + 2) (f ++ [d])
          rw [e] at bd
          dsimp only at ih bd ⊢
          rw [show e2 - k = (e2 - (k + 2)) + 2 by omega]
          show _ = fin r _ (rest.drop (e2 - (k + 2))) acc
          refine Eq.trans ih ?_
          rw [hb]
          rfl
    · have qd : m.quoted r c = m.add c := by
        unfold MS.quoted
        rw [if_neg c1', if_neg (fun h => c2 ⟨by rw [hs] at h; simpa using h.2, mem.mp h.1⟩)]
      rw [qd, lq_plain c1 c2]
      have ih := fin_lq r hb1 q b rest (k + 1) (f ++ [c]) w0 { (m.add c) with place := m.place + 1 } acc hs hb (by simp [MS.add, hw]) (by show m.place + 1 = k + 1; omega) ho
      cases e : lq r q b rest (k + 1) (f ++ [c]) with
      | error x => rw [e] at ih; exact ih
      | ok z =>
        obtain ⟨g, e2⟩ := z
        rw [e] at ih
        have bd := lq_bd r q b rest (k + 1) (f ++ [c])
        rw [e] at bd
        dsimp only at ih bd ⊢
        rw [show e2 - k = (e2 - (k + 1)) + 1 by omega]
        exact ih
termination_by rest => rest.length
theorem bend_mem {r : RS} (hb1 : r.bend.length ≤ 1) {c : Nat} : c ∈ r.bend ↔ r.bend = [c] := by
  constructor
  · intro h
    match hbn : r.bend, h, hb1 with
    | [x], h, _ => rw [List.mem_singleton.mp h]
  · intro h; rw [h]; exact List.mem_singleton.mpr rfl
theorem begin_some {m : MS} {w : Tx} (h : m.word = some w) : m.begin = m := by
  unfold MS.begin
  rw [h]
theorem fin_lw (r : RS) (hb1 : r.bend.length ≤ 1) (t : Tx) : ∀ (n k : Nat) (f : Tx) (m : MS) (acc : List W3), m.state = [] → m.bent = false → m.word = some f → m.place = k → k ≤ t.length → t.length ≤ n + k →
    match lw r t n k f with
    | .error b => fin r m (t.drop k) acc = .error b
    | .ok (g, e) => (t[e]? = none ∨ ∃ c, t[e]? = some c ∧ c ∈ r.breaks ++ r.note) ∧ ∃ o, fin r m (t.drop k) acc = fin r { m with word := some g, place := e, opened := o } (t.drop e) acc
  | 0, k, f, m, acc, hs, hb, hw, hp, hk, hn => by
    simp only [lw]
    refine ⟨.inl (List.getElem?_eq_none_iff.mpr (by omega)), m.opened, ?_⟩
    rw [← hw, ← hp]
  | n + 1, k, f, m, acc, hs, hb, hw, hp, hk, hn => by
    have stay : ∃ o, fin r m (t.drop k) acc = fin r { m with word := some f, place := k, opened := o } (t.drop k) acc := ⟨m.opened, by rw [← hw, ← hp]⟩
    cases hc : t[k]? with
    | none =>
      simp only [lw, hc]
      exact ⟨.inl trivial, stay⟩
    | some c =>
      have hk' : k < t.length := (List.getElem?_eq_some_iff.mp hc).1
      by_cases c1 : c ∈ r.breaks ++ r.note
      · simp only [lw, hc, if_pos c1]
        exact ⟨.inr ⟨c, rfl, c1⟩, stay⟩
      have c1' : ¬ c ∈ r.breaks ∧ ¬ c ∈ r.note := ⟨fun h => c1 (List.mem_append_left _ h), fun h => c1 (List.mem_append_right _ h)⟩
      have bg := begin_some hw
      rw [drop_at hc, fin_step, step_plain hs hb]
      by_cases c2 : c ∈ r.hard ++ r.soft
      · have pl : m.plain r c = ({ m with state := [c], opened := m.place }, []) := by
          unfold MS.plain
          rw [if_neg c1'.1, if_neg c1'.2, if_pos (show c ∈ r.quotes from c2), bg]
        rw [pl]
        simp only [lw, hc, if_neg c1, if_pos c2, List.append_nil]
        have q := fin_lq r hb1 c k (t.drop (k + 1)) (k + 1) [] f { m with state := [c], opened := m.place, place := m.place + 1 } acc rfl hb (by simp [hw]) (by show m.place + 1 = k + 1; omega) hp
        have bd := lq_bd r c k (t.drop (k + 1)) (k + 1) []
        cases e : lq r c k (t.drop (k + 1)) (k + 1) [] with
        | error b =>
          rw [e] at q bd
          dsimp only at q bd ⊢
          rw [bd]
          exact q
        | ok z =>
          obtain ⟨g, e2⟩ := z
          rw [e] at q bd
          rw [List.length_drop] at bd
          dsimp only at q bd ⊢
          rw [List.drop_drop, show k + 1 + (e2 - (k + 1)) = e2 by omega] at q
          have ih := fin_lw r hb1 t n e2 (f ++ g) { m with state := [], opened := m.place, word := some (f ++ g), place := e2 } acc rfl hb rfl rfl (by omega) (by omega)
          cases e3 : lw r t n e2 (f ++ g) with
          | error b =>
            rw [e3] at ih
            exact Eq.trans q ih
          | ok z =>
            obtain ⟨g3, e4⟩ := z
            rw [e3] at ih
            obtain ⟨i1, o, i2⟩ := ih
            refine ⟨i1, o, Eq.trans q (Eq.trans i2 ?_)⟩
            rw [← hs]
      have c2' : ¬ c ∈ r.quotes := c2
      by_cases c3 : r.bend = [c]
      · have pl : m.plain r c = ({ m with bent := true, opened := m.place }, []) := by
          unfold MS.plain
          rw [if_neg c1'.1, if_neg c1'.2, if_neg c2', if_pos ((bend_mem hb1).mpr c3), bg]
        rw [pl]
        simp only [lw, hc, if_neg c1, if_neg c2, if_pos c3, List.append_nil]
        cases hd : t[k + 1]? with
        | none =>
          have e0 : t.drop (k + 1) = [] := drop_end hd
          rw [e0]
          have : ({ m with bent := true, opened := m.place, place := m.place + 1 } : MS).fault = some k := by
            unfold MS.fault
            rw [if_pos (.inl rfl)]
            exact congrArg some hp
          simp [fin, MS.run, this]
        | some d =>
          have hk2 : k + 1 < t.length := (List.getElem?_eq_some_iff.mp hd).1
          rw [drop_at hd, fin_step, step_bent (m := { m with bent := true, opened := m.place, place := m.place + 1 }) (by show m.state ≠ NT; rw [hs]; exact nil_NT) rfl, List.append_nil]
          have ih := fin_lw r hb1 t n (k + 2) (f ++ [d]) { (({ m with bent := false, opened := m.place, place := m.place + 1 } : MS).add d) with place := m.place + 1 + 1 } acc hs rfl (by simp [MS.add, hw]) (by show m.place + 1 + 1 = k + 2; omega) (by omega) (by omega)
          dsimp only
          cases e3 : lw r t n (k + 2) (f ++ [d]) with
          | error b =>
            rw [e3] at ih
            exact ih
          | ok z =>
            obtain ⟨g3, e4⟩ := z
            rw [e3] at ih
            obtain ⟨i1, o, i2⟩ := ih
            refine ⟨i1, o, Eq.trans i2 ?_⟩
            rw [hb]
            rfl
      · have pl : m.plain r c = (m.add c, []) := by
          unfold MS.plain
          rw [if_neg c1'.1, if_neg c1'.2, if_neg c2', if_neg (fun h => c3 ((bend_mem hb1).mp h)), bg]
        rw [pl]
        simp only [lw, hc, if_neg c1, if_neg c2, if_neg c3, List.append_nil]
        have ih := fin_lw r hb1 t n (k + 1) (f ++ [c]) { (m.add c) with place := m.place + 1 } acc hs hb (by simp [MS.add, hw]) (by show m.place + 1 = k + 1; omega) (by omega) (by omega)
        cases e3 : lw r t n (k + 1) (f ++ [c]) with
        | error b =>
          rw [e3] at ih
          exact ih
        | ok z =>
          obtain ⟨g3, e4⟩ := z
          rw [e3] at ih
          obtain ⟨i1, o, i2⟩ := ih
          exact ⟨i1, o, i2⟩
theorem fin_note (r : RS) : ∀ (rest : Tx) (m : MS) (acc : List W3), m.state = NT → m.bent = false → fin r m rest acc = fin r { m with place := m.place + nlk rest } (rest.drop (nlk rest)) acc
  | [], m, acc, _, _ => rfl
  | c :: rest, m, acc, hs, hb => by
    by_cases h : c = LE
    · simp only [nlk, if_pos h]
      rfl
    · have st : m.step r c = ({ m with place := m.place + 1 }, []) := by
        unfold MS.step
        rw [if_neg (fun z => h z.2)]
        simp only [hb, Bool.false_eq_true, if_false, hs, NT_nil, if_true]
      rw [fin_step, st, List.append_nil]
      simp only [nlk, if_neg h]
      have ih := fin_note r rest { m with place := m.place + 1 } acc hs hb
      rw [ih]
      show fin r { m with place := m.place + 1 + nlk rest } _ acc = fin r { m with place := m.place + (nlk rest + 1) } _ acc
      rw [show m.place + 1 + nlk rest = m.place + (nlk rest + 1) by omega]
      rfl
theorem step_begin {r : RS} {m : MS} {c : Nat} (hs : m.state = []) (hb : m.bent = false) (h1 : ¬ c ∈ r.breaks) (h2 : ¬ c ∈ r.note) : m.step r c = m.begin.step r c := by
  have bs : m.begin.state = [] := by unfold MS.begin; split <;> exact hs
  have bb : m.begin.bent = false := by unfold MS.begin; split <;> exact hb
  have bw : ∃ w, m.begin.word = some w := by
    unfold MS.begin
    cases h : m.word with
    | none => exact ⟨[], rfl⟩
    | some w => exact ⟨w, h⟩
  obtain ⟨w, bw⟩ := bw
  have b2 : m.begin.begin = m.begin := begin_some bw
  rw [step_plain hs hb, step_plain bs bb, MS.place_begin]
  have : m.begin.plain r c = m.plain r c := by
    unfold MS.plain
    rw [if_neg h1, if_neg h2, if_neg h1, if_neg h2, b2]
  rw [this]
theorem fin_lr (r : RS) (ok : r.Ok) (t : Tx) : ∀ (n k : Nat) (acc acc0 : List W3) (m : MS), m.state = [] → m.bent = false → m.place = k → k ≤ t.length → t.length < n + k → acc = acc0 ++ m.out →
    (m.word = none ∨ t[k]? = none ∨ ∃ c, t[k]? = some c ∧ c ∈ r.breaks ++ r.note) → fin r m (t.drop k) acc0 = lr r t n k acc
  | 0, k, acc, acc0, m, _, _, _, hk, hn, _, _ => by omega
  | n + 1, k, acc, acc0, m, hs, hb, hp, hk, hn, ha, hw => by
    have hb1 := ok.l4
    have fault0 : ∀ m' : MS, m'.bent = false → (m'.state = [] ∨ m'.state = NT) → m'.fault = none := fun m' h1 h2 => by
      unfold MS.fault
      rw [if_neg]
      rintro (h | h)
      · rw [h1] at h; cases h
      · exact h2.elim h.1 h.2
    have stop : ∀ (m' : MS) acc', m'.bent = false → (m'.state = [] ∨ m'.state = NT) → fin r m' [] acc' = .ok (acc' ++ m'.out) := fun m' acc' h1 h2 => by
      simp [fin, MS.run, fault0 m' h1 h2]
    cases hc : t[k]? with
    | none =>
      simp only [lr, hc]
      rw [drop_end hc, stop m acc0 hb (.inl hs), ha]
    | some c =>
      have hk' : k < t.length := (List.getElem?_eq_some_iff.mp hc).1
      -- a sign that is not the note's
      have go : ∀ (k1 : Nat) (m : MS) (acc0 : List W3) (c' : Nat), k ≤ k1 → m.state = [] → m.bent = false → m.place = k1 → t[k1]? = some c' → acc = acc0 ++ m.out → (m.word = none ∨ c' ∈ r.breaks ++ r.note) → (c' ∈ r.note → k < k1) →
          fin r m (t.drop k1) acc0 = (if c' ∈ r.breaks then lr r t n (k1 + 1) acc else if c' ∈ r.note then lr r t n k1 acc else match lw r t t.length k1 [] with
            | .error b => .error b
            | .ok (w, e) => lr r t n e (acc ++ [(w, k1, e)])) := fun k1 m acc0 c' hkk hs hb hp hc' ha hw hnn => by
        have hk1 : k1 < t.length := (List.getElem?_eq_some_iff.mp hc').1
        by_cases d1 : c' ∈ r.breaks
        · rw [if_pos d1, drop_at hc', fin_step, step_plain hs hb]
          have pl : m.plain r c' = (m.drop, m.out) := by
            unfold MS.plain
            rw [if_pos d1]
          rw [pl]
          exact fin_lr r ok t n (k1 + 1) acc (acc0 ++ m.out) { m.drop with place := m.place + 1 } hs hb (by show m.place + 1 = _; omega) (by omega) (by omega) (by rw [ha]; simp [MS.out, MS.drop]) (.inl rfl)
        rw [if_neg d1]
        by_cases d2 : c' ∈ r.note
        · rw [if_pos d2]
          have := hnn d2
          exact fin_lr r ok t n k1 acc acc0 m hs hb hp (by omega) (by omega) ha (.inr (.inr ⟨c', hc', List.mem_append_right _ d2⟩))
        rw [if_neg d2]
        have d3 : c' ∉ r.breaks ++ r.note := fun h => (List.mem_append.mp h).elim d1 d2
        have w0 : m.word = none := hw.elim id fun h => absurd h d3
        have out0 : m.out = [] := by unfold MS.out; rw [w0]
        rw [out0, List.append_nil] at ha
        have bg : m.begin = { m with word := some [], begun := m.place } := by
          unfold MS.begin
          rw [w0]
        have e0 : fin r m (t.drop k1) acc0 = fin r m.begin (t.drop k1) acc0 := by
          rw [drop_at hc', fin_step, fin_step, step_begin hs hb d1 d2]
        rw [e0, bg]
        have q := fin_lw r hb1 t t.length k1 [] { m with word := some [], begun := m.place } acc0 hs hb rfl hp (by omega) (by omega)
        cases e : lw r t t.length k1 [] with
        | error b =>
          rw [e] at q
          exact q
        | ok z =>
          obtain ⟨g, e2⟩ := z
          rw [e] at q
          obtain ⟨q1, o, q2⟩ := q
          have bd := lw_bd r t t.length k1 [] (by omega)
          rw [e] at bd
          have ps : k1 + 1 ≤ e2 := by
            obtain ⟨n', hn'⟩ : ∃ n', t.length = n' + 1 := ⟨t.length - 1, by omega⟩
            rw [hn'] at e
            exact lw_pos hc' d3 e
          dsimp only at bd ⊢
          refine Eq.trans q2 ?_
          exact fin_lr r ok t n e2 (acc ++ [(g, k1, e2)]) acc0 { m with word := some g, begun := m.place, place := e2, opened := o } hs hb rfl (by omega) (by omega) (by rw [ha]; simp [MS.out, hp]) (.inr q1)
      by_cases hnote : r.note = [c]
      · have cn : c ∈ r.note := by rw [hnote]; exact List.mem_singleton.mpr rfl
        have cb : ¬ c ∈ r.breaks := fun h => by
          have nd := ok.nd
          simp only [RS.every] at nd
          exact (List.nodup_append.mp nd).2.2 c h c (by simp [cn]) rfl
        have pl : m.plain r c = ({ m.drop with state := NT }, m.out) := by
          unfold MS.plain
          rw [if_neg cb, if_pos cn]
        simp only [lr, hc, if_pos hnote]
        rw [drop_at hc, fin_step, step_plain hs hb, pl]
        dsimp only
        rw [← ha]
        rw [fin_note r (t.drop (k + 1)) { m.drop with state := NT, place := m.place + 1 } acc rfl hb]
        have ns := nlAt_spec (t := t) (i := k + 1) (by omega)
        have ed : (t.drop (k + 1)).drop (nlk (t.drop (k + 1))) = t.drop (nlAt t (k + 1)) := by rw [List.drop_drop]; rfl
        have ep : m.place + 1 + nlk (t.drop (k + 1)) = nlAt t (k + 1) := by rw [hp]; rfl
        rw [ed]
        show fin r { m.drop with state := NT, place := m.place + 1 + nlk (t.drop (k + 1)) } _ acc = _
        rw [ep]
        generalize nlAt t (k + 1) = k1 at *
        cases hc' : t[k1]? with
        | none =>
          dsimp only
          rw [drop_end hc']
          refine Eq.trans (stop { m.drop with state := NT, place := k1 } acc hb (.inr rfl)) ?_
          simp [MS.out, MS.drop]
        | some c' =>
          have hk1 : k1 < t.length := (List.getElem?_eq_some_iff.mp hc').1
          have cl : c' = LE := by
            have := ns.2.2.2 hk1
            rw [hc'] at this
            exact Option.some.inj this
          have e1 : fin r { m.drop with state := NT, place := k1 } (t.drop k1) acc = fin r { m.drop with state := [], place := k1 } (t.drop k1) acc := by
            rw [drop_at hc', fin_step, fin_step]
            have : ({ m.drop with state := NT, place := k1 } : MS).step r c' = ({ m.drop with state := [], place := k1 } : MS).step r c' := by
              rw [step_plain (m := { m.drop with state := [], place := k1 }) rfl hb]
              unfold MS.step
              rw [if_pos ⟨rfl, cl⟩]
              have hb' : ({ m.drop with state := NT, place := k1 } : MS).bent = false := hb
              have hb'' : m.drop.bent = false := hb
              simp only [hb'', Bool.false_eq_true, if_false, if_true]
              rw [MS.place_plain]
            rw [this]
          rw [e1]
          exact go k1 { m.drop with state := [], place := k1 } acc c' (by omega) rfl hb rfl hc' (by simp [MS.out, MS.drop]) (.inl rfl) (fun _ => by omega)
      · simp only [lr, hc, if_neg hnote]
        have cn : ¬ c ∈ r.note := fun h => hnote (by
          have l5 := ok.l5
          match hnn : r.note, h, l5 with
          | [x], h, _ => rw [List.mem_singleton.mp h])
        refine go k m acc0 c (Nat.le_refl _) hs hb hp hc ha ?_ (fun h => absurd h cn)
        rcases hw with h | h | ⟨c', h, h2⟩
        · exact .inl h
        · rw [hc] at h; cases h
        · rw [hc] at h; cases h; exact .inr h2
theorem readAll_lr {r : RS} (ok : r.Ok) (t : Tx) (rp : Addr) : readAll r t rp = lr r t (t.length + 1) 0 [] := by
  have := fin_lr r ok t (t.length + 1) 0 [] [] (MS.zero rp) rfl rfl rfl (Nat.zero_le _) (by omega) rfl (.inl rfl)
  rw [List.drop_zero] at this
  rw [← this]
  unfold readAll fin
  split <;> simp_all
end Qw

set_option Elab.async false
set_option linter.all false
set_option maxRecDepth 100000
set_option maxHeartbeats 4000000
namespace Qw
open PySem L2
section
variable {X : Cx}
/-! ### list(text) -/
def rListStr : List V → Hp → VK → Prop := fun xs H Q => ∃ l : Tx, xs = [.str (S l)] ∧ l.length ≤ 100000 ∧ ∀ p, H p = none → Q (.ref p) (upd H p (.lst (l.map fun c => .str (S [c]))))
theorem call_list_str (hc : X.calm = true) : CallR X (.type "list") rListStr := by
  rintro pins s σ H xs us Q I r ⟨l, rfl, hl, q⟩
  obtain ⟨u, rfl, t, rfl⟩ := vals1 r
  have hz : (S l).cps.size ≤ sizeLine := by rw [S_size]; exact Nat.le_trans hl (by decide)
  refine PySem.call_list_str (hn := hz) (I.ok.hd hc) (S l) t fun h' tk acc c' hk hS hi => ?_
  have hv : Vals (l.map fun c => V.str (S [c])) acc.toList := by
    refine vals_of_at ?_ fun j x u h1 h2 => ?_
    · rw [List.length_map, ← S_size l]; exact hi.1.symm
    · rw [Array.getElem?_toList] at h2
      obtain ⟨c, t', e1, e2⟩ := hi.2 j u h2
      rw [List.getElem?_map] at h1
      have e3 : l[j]? = some c := by simpa [S] using e1
      rw [e3] at h1
      cases h1
      exact ⟨t', e2⟩
  refine ⟨.ref s.heap.objs.size, _, I.laid (t' := tk) (o := .lst (l.map fun c => V.str (S [c]))) hk (Nat.le_refl _) ⟨?_, acc.toList, c', hv, by simpa using hS⟩, rfl, q _ (I.hok.fresh (Nat.le_refl _))⟩
  rw [List.length_map]; rw [S_size] at hz; exact hz
/-! ### text * number -/
def rMulS : R2 := fun x y H Q => ∃ (l : Tx) (n : Nat), x = .str (S l) ∧ y = .int n ∧ n < 1000 ∧ l.length < 1000 ∧ Q (.str (S (List.replicate n l).flatten)) H
theorem foldl_cat (l : Tx) : ∀ (n : Nat) (acc : Array Nat), (List.replicate n (S l).cps).foldl (· ++ ·) acc = acc ++ ((List.replicate n l).flatten).toArray
  | 0, acc => by simp
  | n + 1, acc => by
    rw [List.replicate_succ, List.foldl_cons, foldl_cat l n, List.replicate_succ, List.flatten_cons]
    simp [S]
theorem op_mul_str : OpR X (binaryOp .Mult) rMulS := by
  rintro pins s σ H x y v u Q I rx ry ⟨l, n, rfl, rfl, hn, hl, q⟩
  obtain ⟨t, rfl⟩ := rx
  obtain ⟨t', rfl⟩ := ry
  have hS : (S l).length = l.length := S_len l
  have big : l.length * n ≤ 1000 * 1000 := Nat.mul_le_mul (Nat.le_of_lt hl) (Nat.le_of_lt hn)
  refine P.mul_str ?_ (fun h1 _ => ?_) (fun h1 _ => ?_) ?_
  · have a1 : ¬ ((n : Int) < -(2 ^ 63)) := by omega
    have a2 : ¬ ((n : Int) ≥ 2 ^ 63) := by omega
    rw [decide_eq_false a1, decide_eq_false a2]; rfl
  · rw [hS]
    have h2 : (0 : Int) < n := by omega
    intro z
    have z' : (2 ^ 63 - 1 : Int) / n < l.length := z
    have := (Int.ediv_lt_iff_lt_mul h2).mp z'
    have e : ((l.length : Nat) : Int) * n = ((l.length * n : Nat) : Int) := by push_cast; rfl
    rw [e] at this
    omega
  · rw [hS, Int.toNat_natCast]
    exact decide_eq_false (Nat.not_lt.mpr (Nat.le_trans big (by decide)))
  · have er : ((List.replicate n (S l).cps).foldl (· ++ ·) #[]) = ((List.replicate n l).flatten).toArray := by rw [foldl_cat]; simp
    have el : ((List.replicate n l).flatten).length = n * l.length := by simp
    split
    · have : n = 0 := by omega
      subst this
      exact ⟨Nat.zero_le _, .str (S []), H, I.tok _, ⟨_, rfl⟩, q⟩
    split
    · rename_i h1 h2
      have : n = 1 ∨ l = [] := by
        rcases Bool.or_eq_true _ _ ▸ h2 with h | h
        · left
          have := beq_iff_eq.mp h
          omega
        · right
          have := beq_iff_eq.mp h
          rw [hS] at this
          exact List.length_eq_zero_iff.mp this
      refine ⟨.str (S l), H, I, ⟨_, rfl⟩, ?_⟩
      have e : (List.replicate n l).flatten = l := by
        rcases this with h | h
        · subst h; simp
        · subst h; simp
      rw [e] at q
      exact q
    · rw [Int.toNat_natCast, er]
      refine ⟨?_, .str (S _), H, I.tok _, ⟨_, rfl⟩, q⟩
      show (S _).length ≤ _
      rw [S_len, el, Nat.mul_comm]
      exact Nat.le_trans big (by decide)
/-! ### list.count(True), of truths -/
def rCntB (K : PySem.W.Frag) : V → List V → Hp → VK → Prop := fun x xs H Q => ∃ (p : Addr) (bs : List Bool) (k : Bool), x = .ref p ∧ xs = [.bl k] ∧ SqL K H p (bs.map V.bl) ∧ Q (.int (bs.count k : Nat)) H
def isB (k : Bool) : Value → Bool
  | .bool b => b == k
  | _ => false
theorem mt_lcountB : MtR X "list.count" (rCntB X.K) := by
  rintro pins s σ H x xs v us Q I rx rxs ⟨p, bs, k, rfl, rfl, hs, q⟩
  cases rx
  obtain ⟨u, rfl, ru⟩ := rxs.one
  cases ru
  obtain ⟨its, rv, ⟨⟨cls, dd, data, sl⟩, n, ho, hc, hdn, hd⟩, hlen⟩ := I.list hs
  simp only at hc hd
  subst hc hd
  have bool_at : ∀ {bs : List Bool} {its : List Value}, Vals (bs.map V.bl) its → its.countP (isB k) = bs.count k ∧ ∀ y ∈ its, ∃ b, y = .bool b := by
    intro bs
    induction bs with
    | nil => intro its r; cases r; exact ⟨rfl, fun y hy => by cases hy⟩
    | cons b bs ih =>
      intro its r
      cases r with
      | cons r t =>
        cases r
        obtain ⟨h1, h2⟩ := ih t
        refine ⟨?_, fun y hy => ?_⟩
        · rw [List.countP_cons, List.count_cons, h1]; rfl
        · rcases List.mem_cons.mp hy with e | e
          · exact ⟨b, e⟩
          · exact h2 y e
  obtain ⟨ec, hb⟩ := bool_at rv
  refine call_meets PySem.F.slot_list_count ⟨_, ho, rfl⟩ PySem.F.entry_list_count (PySem.F.args_list_count_2 _ _)
    (SeqAt.list_countAt p its.toArray n dd sl (.bool k) (isB k)) ⟨ho, fun y hy => ?_, ?_⟩
  · obtain ⟨b, rfl⟩ := hb y (by simpa using hy)
    have := eqAt_V (A := X.A.in1) (s := s) (y := .bl b) (x := .bl k) (u := .bool b) (v := .bool k) rfl rfl rfl rfl
    exact this
  · refine ⟨.int (bs.count k : Nat), H, I.tok _, ⟨s.toks, ?_⟩, q⟩
    show Value.int ((its.toArray.toList.countP (isB k) : Nat) : Int) s.toks = Value.int ((bs.count k : Nat) : Int) s.toks
    rw [show its.toArray.toList = its from rfl, ec]
/-! ### text[::-1] -/
def tRevS (te : TE) : TE := fun σ H Q => te σ H fun x H1 => ∃ l : Tx, x = .str (S l) ∧ l.length ≤ 100000 ∧ Q (.str (S l.reverse)) H1
theorem rev_indices (n : Nat) : Builtin.Str.strSliceIndices none none (-1) n = (List.range n).reverse := by
  have h : Builtin.Str.strSliceIndices none none (-1) n = sliceRange ((n : Int) - 1) (-1) (-1) := rfl
  rw [h, PySem.W.krv_sliceRange, PySem.W.krv_range]
theorem pe_revS {e : Expr} {te : TE} {k : Nat} {p1 p2 p3 pos : Pos} (he : PE X e te) : PE X (.Subscript e (.Slice none none (some (.UnaryOp .USub (.Constant (.int 1) k p1) p2)) p3) pos) (tRevS te) := by
  refine ⟨fun pins s σ H Q I h => ?_⟩
  refine PyProof.Rows.Subscript_ (thn (he.run pins s σ H _ I h) fun v s1 hv => ?_)
  obtain ⟨x, H1, I1, r1, l, rfl, hl, q⟩ := hv
  obtain ⟨t, rfl⟩ := r1
  have third : PO X (some (.UnaryOp .USub (.Constant (.int 1) k p1) p2)) (tPart (tUn (rU fun i => .int (-i)) (tC (.int 1)))) := po_some (pe_un un_neg pe_int)
  refine wpAny_Slice (thn (po_none.run pins s1 σ H1 (fun o Hx => o = none ∧ Hx = H1) I1 ⟨rfl, rfl⟩) fun a1 s2 h2 => ?_)
  obtain ⟨o2, H2, I2, p2', rfl, rfl⟩ := h2
  cases p2'
  refine thn (po_none.run pins s2 σ H2 (fun o Hx => o = none ∧ Hx = H2) I2 ⟨rfl, rfl⟩) fun a2 s3 h3 => ?_
  obtain ⟨o3, H3, I3, p3', rfl, rfl⟩ := h3
  cases p3'
  refine thn (third.run pins s3 σ H3 (fun o Hx => o = some (-1) ∧ Hx = H3) I3 ⟨1, rfl, -1, rfl, rfl, rfl⟩) fun a3 s4 h4 => ?_
  obtain ⟨o4, H4, I4, p4', rfl, rfl⟩ := h4
  obtain ⟨t4, rfl⟩ : ∃ t4, a3 = .int (-1) t4 := by cases p4' with | int i t => exact ⟨t, rfl⟩
  have I5 : L2.Inv X pins σ H4 { s4 with heap := s4.heap.push { cls := .type "slice", data := .fields #[.none, .none, .int (-1) t4] } } := I4.kept (t' := s4.toks) fun b ob z => Heap.get?_push_of_some _ z
  refine PyProof.Rows.tail_any (ops := [.str (S l) t, .ref s4.heap.objs.size]) (typeIs_str _ _ _) (PySem.F.slot_str_getitem.lookup) ?_ (by with_unfolding_all rfl)
  refine wpAny_getItem_str_slice (l := none) (u := none) (st := some (-1, t4)) ⟨_, Heap.get?_push_size _ rfl, rfl, rfl⟩ (show ((-1 : Int) == 0) = false by decide) ?_
  have e1 : slicePicked (S l) none none (some (-1, t4)) = (List.range l.length).reverse := by
    show Builtin.Str.strSliceIndices none none (-1) (S l).length = _
    rw [S_len, rev_indices]
  have e2 : ((List.range l.length).reverse.filterMap ((S l).cps[·]?)) = l.reverse := by
    rw [List.filterMap_reverse]
    have := PySem.W.krv_all (S l).cps
    rw [S_size] at this
    rw [this]
    rfl
  unfold sliceMade
  split
  · rename_i hc
    have hc' : ((-1 : Int) == 1 && (slicePicked (S l) none none (some (-1, t4))).length == (S l).length) = true := hc
    rw [show ((-1 : Int) == 1) = false by decide, Bool.false_and] at hc'
    cases hc'
  rw [e1, e2]
  refine ⟨?_, .str (S l.reverse), H4, I5.tok _, ⟨_, rfl⟩, q⟩
  show (S l.reverse).length ≤ _
  rw [S_len, List.length_reverse]
  exact Nat.le_trans hl (by decide)
/-! ### zip(list, tuple) -/
theorem nn {x y : Nat} (h : x ≠ y) : (x : Addr) ≠ y := h
theorem sep_nat (n a b : Nat) (la : a < n) (lb : b < n) : ZipSep2 (n + 4) (n + 2) (n + 3) n (n + 1) [n, a] [n + 1, b] := by
  have nl : ∀ (x y z : Nat), x ≠ y → x ≠ z → x ∉ [y, z] := fun x y z h1 h2 h => by
    rcases List.mem_cons.mp h with e | e
    · exact h1 e
    · exact h2 (List.mem_singleton.mp e)
  exact ⟨nn (by omega), nn (by omega), nn (by omega), nn (by omega), List.mem_cons_self .., nl _ _ _ (by omega) (by omega), nl _ _ _ (by omega) (by omega), nn (by omega), List.mem_cons_self .., nl _ _ _ (by omega) (by omega), nl _ _ _ (by omega) (by omega), nl _ _ _ (by omega) (by omega), nl _ _ _ (by omega) (by omega)⟩
theorem back : ∀ {xs : List V} {us : List Value} {i : Nat} {u : Value}, Vals xs us → us[i]? = some u → ∃ x, xs[i]? = some x ∧ RelV x u
  | _, _, _, _, .nil, e => by simp at e
  | _, _, 0, _, .cons r _, e => by simp at e; subst e; exact ⟨_, rfl, r⟩
  | _, _, i + 1, u, .cons _ t, e => by
    obtain ⟨x, h1, h2⟩ := back (i := i) (u := u) t (by simpa using e)
    exact ⟨x, by simpa using h1, h2⟩
/-- the list at a and the tuple at b as they stand at each turn, the items in new pairs -/
def ItzLT (K : PySem.W.Frag) (a b : Addr) : It :=
  ⟨fun i H => ∃ (xs ys : List V), SqL K H a xs ∧ SqT K H b ys ∧ i < min xs.length ys.length,
    fun i H v H' => ∃ T x y, v = .ref T ∧ H T = none ∧ H' = upd H T (.tup [x, y]) ∧ (∀ xs, SqL K H a xs → xs[i]? = some x) ∧ ∀ ys, SqT K H b ys → ys[i]? = some y,
    fun i H => ∃ xs ys : List V, SqL K H a xs ∧ SqT K H b ys ∧ i = min xs.length ys.length⟩
def ZiSt (a b z TI TO i1 i2 : Addr) (i : Nat) (h : Heap) : Prop :=
  IsZip h z TI TO .none ∧ IsTupOf2 h TI (.ref i1) (.ref i2) ∧ (∃ a1 a2, IsTupOf2 h TO a1 a2) ∧ h.IsListIter i1 a i ∧ h.IsTupleIter i2 b i
theorem in5 {c z TI TO i1 i2 : Addr} : c ∈ [z, TI, TO, i1, i2] ↔ c = z ∨ c = TI ∨ c = TO ∨ c = i1 ∨ c = i2 := by simp
theorem turn_zipLT {P : Program} {w : World} {K : PySem.W.Frag} {elts : List Expr} {kk : Nat} {tpos : Pos} {a b z TI TO i1 i2 : Addr} (D : ZipSep2 z TI TO i1 i2 [i1, a] [i2, b]) (na : a ≠ i1) (nb : b ≠ i2) :
    Turn P w K (.Tuple elts kk tpos) (ItzLT K a b) [z, TI, TO, i1, i2] z (ZiSt a b z TI TO i1 i2) where
  mem := in5.mpr (.inl rfl)
  obj := fun i h st c hc => by
    obtain ⟨h1, h2, ⟨x, y, h3⟩, ⟨o1, e1, _, d1⟩, ⟨o2, e2, _, d2⟩⟩ := st
    rcases in5.mp hc with q | q | q | q | q <;> subst q
    · exact ⟨_, h1, nofun⟩
    · exact ⟨_, h2, nofun⟩
    · exact ⟨_, h3, nofun⟩
    · exact ⟨o1, e1, fun v q => by rw [d1] at q; cases q⟩
    · exact ⟨o2, e2, fun v q => by rw [d2] at q; cases q⟩
  keep := fun i h h' st k => by
    obtain ⟨h1, h2, ⟨x, y, h3⟩, h4, h5⟩ := st
    exact ⟨k z (by simp) _ h1, k TI (by simp) _ h2, ⟨x, y, k TO (by simp) _ h3⟩, h4.at fun o q => k i1 (by simp) o q, h5.at fun o q => k i2 (by simp) o q⟩
  item := by
    intro X hP hw hK hc i pins s σ H E I hf st hg
    subst hP hw hK
    obtain ⟨xs, ys, hqx, hqy, hi⟩ := hg
    obtain ⟨its, rv, p, _⟩ := I.list hqx
    obtain ⟨its2, rv2, p2, _⟩ := I.tuple hqy
    have hh : X.A.in1.handled = none := I.ok.hd hc
    have W := WalksT.zipD2 (prog := X.prog) (w := X.w) D (Draws.list hh i1 a na its.toArray) (Draws.tuple hh i2 b nb its2.toArray)
    obtain ⟨h1, h2, h3, h4, h5⟩ := st
    have l1 := rv.length
    have l2 := rv2.length
    refine W.item i s _ _ (by simp only [List.size_toArray]; omega) ⟨h1, h2, h3, ⟨h4, p.isList⟩, ⟨h5, p2⟩⟩ fun T vals h' tk hv hT tup mid kk' => ⟨_, rfl, ?_⟩
    obtain ⟨x1, x2, y1, y2, rfl⟩ := hv
    have nT : T ∉ [z, TO, i1, i2] := W.apart _ _ _ mid
    refine W.go elts kk tpos i T { s with heap := h', toks := tk } _ _ mid fun h'' st'' k2 => ?_
    have tup2 : PyProof.Rows.IsTup h'' T #[x1, x2] := by
      obtain ⟨o, ho, r⟩ := tup
      exact ⟨o, k2 _ _ nT ho, r⟩
    have g1 : its[i]? = some x1 := by simpa using y1
    have g2 : its2[i]? = some x2 := by simpa using y2
    obtain ⟨v1, e1, r1⟩ := back rv g1
    obtain ⟨v2, e2, r2⟩ := back rv2 g2
    have new : ObjOk X.prog X.w (upd H T (.tup [v1, v2])) h'' T (.tup [v1, v2]) := ⟨by show 2 ≤ sizeLine; decide, [x1, x2], .cons r1 (.cons r2 .nil), tup2⟩
    have sub5 : ∀ c, c ∈ [z, TO, i1, i2] → c ∈ [z, TI, TO, i1, i2] := fun c hc => by
      have : c = z ∨ c = TO ∨ c = i1 ∨ c = i2 := by simpa using hc
      rcases this with q | q | q | q <;> subst q <;> simp
    have I1 : L2.Inv X pins σ (upd H T (.tup [v1, v2])) { s with heap := h'', toks := tk } := I.turnedNew (t' := tk) (ch := [z, TI, TO, i1, i2])
      (fun c o hb q => k2 c o (fun h => hb (sub5 c h)) (kk' c o (fun h => hb (sub5 c h)) q)) hf hT new
    obtain ⟨a1, a2, a3, a4, a5⟩ := st''
    refine ⟨.ref T, _, I1, rfl, ⟨T, v1, v2, rfl, I.hok.fresh hT, rfl, fun l hl => by rw [I.list_inj hl hqx]; exact e1, fun l hl => by rw [I.tuple_inj hl hqy]; exact e2⟩, ⟨a1, a2, a3, a4.1, a5.1⟩, fun c hcm => ?_⟩
    have hlt : c < s.heap.objs.size := by
      obtain ⟨x0, y0, h3⟩ := h3
      rcases in5.mp hcm with q | q | q | q | q <;> subst q
      · exact Heap.lt_size h1
      · exact Heap.lt_size h2
      · exact Heap.lt_size h3
      · obtain ⟨_, e, _⟩ := h4; exact Heap.lt_size e
      · obtain ⟨_, e, _⟩ := h5; exact Heap.lt_size e
    rw [upd_ne (Nat.ne_of_lt (Nat.lt_of_lt_of_le hlt hT))]
    exact (hf c hcm).1
  done := by
    intro X hP hw hK hc i pins s σ H E I hf st hg
    subst hP hw hK
    obtain ⟨xs, ys, hqx, hqy, hi⟩ := hg
    obtain ⟨its, rv, p, _⟩ := I.list hqx
    obtain ⟨its2, rv2, p2, _⟩ := I.tuple hqy
    have hh : X.A.in1.handled = none := I.ok.hd hc
    have W := WalksT.zipD2 (prog := X.prog) (w := X.w) D (Draws.list hh i1 a na its.toArray) (Draws.tuple hh i2 b nb its2.toArray)
    obtain ⟨h1, h2, h3, h4, h5⟩ := st
    have l1 := rv.length
    have l2 := rv2.length
    have hi' : i = min its.toArray.size its2.toArray.size := by simp only [List.size_toArray]; omega
    subst hi'
    refine W.done s _ _ ⟨h1, h2, h3, ⟨h4, p.isList⟩, ⟨h5, p2⟩⟩ fun h' tk k => ⟨rfl, I.turnedL (t' := tk) (ch := [z, TI, TO, i1, i2]) (fun c o hb q => k c o (fun h => hb ?_) q) hf⟩
    have : c = z ∨ c = TO ∨ c = i1 ∨ c = i2 := by simpa using h
    rcases this with q | q | q | q <;> subst q <;> simp
  self := fun A i s Q E st h => wpAny_pyIter_zip st.1 h
def iZipLT (K : PySem.W.Frag) (ta : TA) : TI := fun σ H R => ta σ H fun vs H1 => ∃ a b xs ys, vs = [.ref a, .ref b] ∧ SqL K H1 a xs ∧ SqT K H1 b ys ∧ R (ItzLT K a b) H1
theorem pi_zipLT {e e2 : Expr} {ta : TA} {p pos tpos : Pos} {elts : List Expr} {kk : Nat} (hg : Gl X "zip") (hm : X.mg "zip" = none) (ha : PA X [e, e2] ta)
    (hs : starEach [e, e2] X.env = (false, eval e X.env) :: starEach [e2] X.env := by rfl) (hpl : (backTo pos (starEach [e2] X.env)).any (·.1) = false := by rfl) :
    PI X (.Tuple elts kk tpos) (.Call (.Name "zip" p) [e, e2] [] pos) (iZipLT X.K ta) := by
  refine ⟨fun pins s σ H R I h => ?_⟩
  refine PyProof.Rows.Call_ (ld_blt I hg hm PyProof.Rows.boot_zip (PyProof.Rows.callWith_type1 (thn (ha.run pos pins s σ H _ I h) fun us s1 hv => ?_) hs hpl))
  obtain ⟨vs, H1, I1, r1, a, b, xs, ys, rfl, hqx, hqy, q⟩ := hv
  obtain ⟨u1, u2, rfl, ra, rb⟩ := vals2 r1
  cases ra
  cases rb
  obtain ⟨its, rv, p1, _⟩ := I1.list hqx
  obtain ⟨its2, rv2, p2, _⟩ := I1.tuple hqy
  have la : a < s1.heap.objs.size := by obtain ⟨o, e, _⟩ := p1.isList; exact Heap.lt_size e
  have lb : b < s1.heap.objs.size := by obtain ⟨o, e, _⟩ := p2; exact Heap.lt_size e
  have fr : ∀ c, s1.heap.objs.size ≤ c → FpOk X pins H1 c := fun c hc => I1.fpOk hc (I1.hok.fresh hc)
  generalize hn : s1.heap.objs.size = n at la lb fr
  have D := sep_nat n a b la lb
  refine zip_begins2 (begins_list a its.toArray) (begins_tuple b its2.toArray) p1.isList p2 fun h' hz hTI hTO h1 h2 hsz hk => wpAny_pyIter_zip hz ?_
  rw [hn] at hz hTI hTO h1 h2 hsz ⊢
  have I2 : L2.Inv X pins σ H1 { s1 with heap := h' } := I1.kept (t' := s1.toks) hk
  refine ⟨n + 4, [n + 4, n + 2, n + 3, n, n + 1], _, ItzLT X.K a b, H1, rfl, I2, turn_zipLT D (Nat.ne_of_lt la) (Nat.ne_of_lt (Nat.lt_succ_of_lt lb)), ⟨hz, hTI, ⟨_, _, hTO⟩, ⟨_, h1, rfl, rfl⟩, ⟨_, h2, rfl, rfl⟩⟩, fun c hc => fr c ?_, q⟩
  rcases in5.mp hc with q | q | q | q | q <;> subst q <;> first | exact Nat.le_refl _ | exact Nat.le_add_right _ _
end
/-! ### len(set(text)) -/
/-- the unlike signs, in the turn in which they are met -/
def uniq (l : Tx) : Tx := l.foldl (fun acc c => if c ∈ acc then acc else acc ++ [c]) []
theorem uniq_snoc (l : Tx) (c : Nat) : uniq (l ++ [c]) = if c ∈ uniq l then uniq l else uniq l ++ [c] := by
  unfold uniq
  rw [List.foldl_append]
  rfl
theorem mem_uniq (l : Tx) : ∀ c, c ∈ uniq l ↔ c ∈ l := by
  have key : ∀ (l acc : Tx) (c : Nat), c ∈ l.foldl (fun acc c => if c ∈ acc then acc else acc ++ [c]) acc ↔ c ∈ acc ∨ c ∈ l := by
    intro l
    induction l with
    | nil => intro acc c; simp
    | cons d l ih =>
      intro acc c
      rw [List.foldl_cons, ih]
      by_cases h : d ∈ acc
      · rw [if_pos h]
        constructor
        · rintro (h1 | h1)
          · exact .inl h1
          · exact .inr (List.mem_cons_of_mem _ h1)
        · rintro (h1 | h1)
          · exact .inl h1
          · rcases List.mem_cons.mp h1 with e | e
            · subst e; exact .inl h
            · exact .inr e
      · rw [if_neg h]
        simp only [List.mem_append, List.mem_cons, List.not_mem_nil, or_false, or_assoc]
  intro c
  rw [uniq, key]
  simp
theorem uniq_le (l : Tx) : (uniq l).length ≤ l.length := by
  have key : ∀ (l acc : Tx), (l.foldl (fun acc c => if c ∈ acc then acc else acc ++ [c]) acc).length ≤ acc.length + l.length := by
    intro l
    induction l with
    | nil => intro acc; simp
    | cons d l ih =>
      intro acc
      rw [List.foldl_cons]
      refine Nat.le_trans (ih _) ?_
      split
      · simp only [List.length_cons]; omega
      · simp only [List.length_append, List.length_cons, List.length_nil]; omega
  have := key l []
  rw [List.length_nil, Nat.zero_add] at this
  exact this
theorem uniq_nodup {l : Tx} (h : l.Nodup) : uniq l = l := by
  have key : ∀ (l acc : Tx), (acc ++ l).Nodup → l.foldl (fun acc c => if c ∈ acc then acc else acc ++ [c]) acc = acc ++ l := by
    intro l
    induction l with
    | nil => intro acc _; simp
    | cons d l ih =>
      intro acc h
      have hd : d ∉ acc := fun z => by
        have := (List.nodup_append.mp h).2.2
        exact this d z d (List.mem_cons_self ..) rfl
      rw [List.foldl_cons, if_neg hd, ih (acc ++ [d]) (by rw [List.append_assoc]; exact h), List.append_assoc]
      rfl
  simpa [uniq] using key l [] (by simpa using h)
section
variable {P : Program} {w : World} {A : Around} {R : Result → Shared → Prop} {I : Addr} {St : Nat → Heap → Prop}
/-- what the set at a holds: the signs of l -/
def SetSigns (P : Program) (w : World) (h : Heap) (a : Addr) (l : Tx) : Prop := h.SetOf (PySem.strKind P w) a (fun k => (uniq l).any fun c => decide (k = S [c])) (uniq l).length
theorem fill_set (l : Tx) (hz : l.length ≤ 1000) (W : Walks P w A.in1 I [I] [I] (S l).cps.size (SignAt (S l)) St) (a : Addr) (ha : a ≠ I) :
    ∀ (k i : Nat) (s : Shared), i + k = l.length → St i s.heap → SetSigns P w s.heap a (l.take i) →
      (∀ h' tk, (∀ b o, b ≠ a → b ≠ I → s.heap.get? b = some o → h'.get? b = some o) → SetSigns P w h' a l → R (.ok (.ret .none)) { s with heap := h', toks := tk }) →
      codeAny (model P w) A (.builtin "set.update.loop" ⟨[.ref a, .ref I], []⟩) R s := by
  intro k
  induction k with
  | zero =>
    intro i s hk st hS hR
    refine codeAny_builtin PyProof.Rows.F.entry_set_update_loop ?_
    rw [Around.under_plainId PyProof.Rows.F.plain_set_update_loop _]
    show wpAny _ A.in1 (pyNext (.ref I) >>= _) _ _ s
    have e : i = (S l).cps.size := by rw [S_size]; omega
    subst e
    refine wpAny_bind (W.done s _ _ st fun h' tk kp => ?_)
    refine wpAny_pure (hR h' tk (fun b o _ hb e => kp b o (by simpa using hb) e) ?_)
    rw [S_size, List.take_length] at hS
    obtain ⟨o, es, ep, t, ho, rest⟩ := hS
    exact ⟨o, es, ep, t, kp a o (by simpa using ha) ho, rest⟩
  | succ k ih =>
    intro i s hk st hS hR
    refine codeAny_builtin PyProof.Rows.F.entry_set_update_loop ?_
    rw [Around.under_plainId PyProof.Rows.F.plain_set_update_loop _]
    show wpAny _ A.in1 (pyNext (.ref I) >>= _) _ _ s
    refine wpAny_bind (W.item i s _ _ (by rw [S_size]; omega) st fun v h1 tk1 hv st1 kp => ?_)
    obtain ⟨c, t, hc, rfl⟩ := hv
    have hc' : l[i]? = some c := by simpa [S] using hc
    have hS1 : SetSigns P w h1 a (l.take i) := by
      obtain ⟨o, es, ep, tb, ho, rest⟩ := hS
      exact ⟨o, es, ep, tb, kp a o (by simpa using ha) ho, rest⟩
    show wpAny _ A.in1 (holding [Value.str (S [c]) t] (setAdd a (.str (S [c]) t)) >>= _) _ _ { s with heap := h1, toks := tk1 }
    refine wpAny_bind (wpAny_holding ?_)
    unfold setAdd
    refine wpAny_holding (wpAny_bind ((PySem.strKind P w).pyHash (k := S [c]) (strKind_is _ _ _ _) ?_))
    have room : (uniq (l.take i)).length + 1 < scanBound := by
      have h1 := uniq_le (l.take i)
      have h2 : (l.take i).length ≤ l.length := by rw [List.length_take]; omega
      unfold scanBound
      omega
    refine wpAny_setAddHashed_of (knd := PySem.strKind P w) (s := { s with heap := h1, toks := tk1 + 1 }) (strKind_is _ _ _ _) rfl hS1 room fun h2 sb hS2 => ?_
    have tk' : l.take (i + 1) = l.take i ++ [c] := by
      rw [List.take_add_one, hc']
      rfl
    have hS3 : SetSigns P w h2 a (l.take (i + 1)) := by
      refine PyProof.Rows.SetOf_congr hS2 (fun k' => ?_) ?_
      · rw [tk', uniq_snoc]
        by_cases m : c ∈ uniq (l.take i)
        · rw [if_pos m]
          by_cases e : k' = S [c]
          · subst e
            have : ((uniq (l.take i)).any fun d => decide (S [c] = S [d])) = true := List.any_eq_true.mpr ⟨c, m, by simp⟩
            rw [this]
            rfl
          · rw [decide_eq_false e, Bool.or_false]
        · rw [if_neg m, List.any_append]
          simp
      · rw [tk', uniq_snoc]
        by_cases m : c ∈ uniq (l.take i)
        · rw [if_pos m]
          have : ((uniq (l.take i)).any fun d => decide (S [c] = S [d])) = true := List.any_eq_true.mpr ⟨c, m, by simp⟩
          rw [if_pos this]
        · rw [if_neg m]
          have : ¬ ((uniq (l.take i)).any fun d => decide (S [c] = S [d])) = true := fun z => by
            obtain ⟨d, hd, e⟩ := List.any_eq_true.mp z
            have : [c] = [d] := S_inj.mp (of_decide_eq_true e)
            cases this
            exact m hd
          rw [if_neg this]
          simp
    have st2 : St (i + 1) h2 := W.frame _ h1 _ st1 fun b hb o e => by
      have e' : b = I := by simpa using hb
      subst e'
      exact (sb.2 b (Ne.symm ha)).trans e
    refine wpAny_pure ⟨plainId_quiet PyProof.Rows.F.plain_set_update_loop _, ih (i + 1) _ (by omega) st2 hS3 fun h3 tk3 kp3 hS4 => ?_⟩
    refine hR h3 tk3 (fun b o h1' h2' e => kp3 b o h1' h2' ?_) hS4
    exact (sb.2 b h1').trans (kp b o (by simpa using h2') e)
end
theorem sub_str_set : isSubtype (.type "str") (.type "set") = pure false := by rw [isSubtype_type]; kernel_rfl
theorem sub_str_frozenset : isSubtype (.type "str") (.type "frozenset") = pure false := by rw [isSubtype_type]; kernel_rfl
section
variable {P : Program} {w : World} {A : Around} {E : Value → Shared → Prop} {s : Shared}
theorem call_set_text (hh : A.handled = none) (l : Tx) (t : Tok) (hz : l.length ≤ 1000) {Q : Value → Shared → Prop}
    (h : ∀ (h' : Heap) (tk : Nat), SetSigns P w h' s.heap.objs.size l → (∀ b o, s.heap.get? b = some o → h'.get? b = some o) → Q (.ref s.heap.objs.size) { s with heap := h', toks := tk }) :
    wpAny (model P w) A (call (.type "set") [.str (S l) t]) Q E s := by
  obtain ⟨c, tl, hmro⟩ := PySem.F.called_set.mro
  have hmade := PySem.F.called_set.made
  have hsub := PySem.F.called_set.sub
  refine wpAny_call (codeAny_of_tree ?_)
  show wpAny _ _ (callAny (.type "set") _) _ _ _
  refine wpAny_pure ⟨Code.quiet_builtin _ (by decide +kernel), codeAny_builtin PySem.F.entry_type_call ?_⟩
  rw [Around.under_plain (weight_type_call_type "set" [.str (S l) t] []) rfl]
  have q1 := PySem.F.called_set.notType
  have q2 := PySem.F.called_set.canCreate
  have q3 := PySem.F.typeCall_set_1 (.str (S l) t)
  repeat (any_goals (first | assumption | wp_step))
  refine codeAny_mono (PySem.code_set_new_1 (.str (S l) t) (E := E) (Q₁ := fun obj s₁ => ∃ led : Bool, obj = .ref s.heap.objs.size ∧ s₁ = { s with heap := s.heap.push { cls := .type "set", dict := none, data := .set #[] 0 (.fresh 0 0 led) } }) fun led => ⟨led, rfl, rfl⟩) fun r s₁ hr => ?_
  cases r with
  | error e => exact hr
  | ok fl =>
    cases fl with
    | ret obj =>
      obtain ⟨led, rfl, rfl⟩ := hr
      have hS : (s.heap.push { cls := .type "set", dict := none, data := .set #[] 0 (.fresh 0 0 led) }).get? s.heap.objs.size = some { cls := .type "set", dict := none, data := .set #[] 0 (.fresh 0 0 led) } := Heap.get?_push_size _ rfl
      have hT : Shared.TypeIs { s with heap := s.heap.push { cls := .type "set", dict := none, data := .set #[] 0 (.fresh 0 0 led) } } (.ref s.heap.objs.size) "set" := ⟨_, hS, rfl⟩
      have q4 := PySem.F.called_set.init.lookup
      have q5 := PySem.F.called_set.init.bind (.ref s.heap.objs.size)
      repeat (any_goals (first | assumption | wp_step))
      refine codeAny_mono (codeAny_call_builtin (R := wants (fun r s₂ => r = .none ∧ ∃ h' tk, s₂ = { s with heap := h', toks := tk } ∧ SetSigns P w h' s.heap.objs.size l ∧
          (∀ b o, s.heap.get? b = some o → h'.get? b = some o)) E) PySem.F.called_set.init.plain PySem.F.entry_set_init (PySem.check_set_init_1 hT ?_)) fun r₂ s₂ hr₂ => ?_
      · have q6 := sub_str_set
        have q7 := sub_str_frozenset
        have q8 : (Value.type "str" == Value.type "dict") = false := by decide
        unfold Builtin.«set.__init__» noKeywords Builtin.Frozenset.updateFrom
        generalize hPI : pyIter = PI
        wp_walk
        subst hPI
        refine wpAny_pyIter_str fun o St W st => ?_
        refine wpAny_bind (wpAny_runValue ?_)
        have sz : (s.heap.push { cls := .type "set", dict := none, data := .set #[] 0 (.fresh 0 0 led) }).objs.size = s.heap.objs.size + 1 := Heap.size_push _ _
        have na : s.heap.objs.size ≠ (s.heap.push { cls := .type "set", dict := none, data := .set #[] 0 (.fresh 0 0 led) }).objs.size := by
          rw [sz]; exact Nat.ne_of_lt (Nat.lt_succ_self _)
        refine fill_set l hz (W _ (by simp [hh])) s.heap.objs.size na l.length 0 _ (Nat.zero_add _) st ?_ fun h' tk kp hS' => ?_
        · have hget := Heap.get?_push_of_some o hS
          exact PyProof.Rows.SetOf_congr ((PyProof.Rows.setObjOf_fresh (knd := PySem.strKind P w) led).setOf hget (by unfold scanBound; omega)) (fun _ => rfl) rfl
        · refine wpAny_pure ?_
          show wpAny _ _ (ret Value.none) _ _ _
          refine wpAny_pure ⟨rfl, h', tk, rfl, hS', fun b ob e => ?_⟩
          have lt := Heap.lt_size e
          refine kp b ob (Nat.ne_of_lt lt) ?_ (Heap.get?_push_of_some _ (Heap.get?_push_of_some _ e))
          show b ≠ _
          rw [sz]
          exact Nat.ne_of_lt (Nat.lt_succ_of_lt lt)
      · cases r₂ with
        | error e => exact hr₂
        | ok fl₂ =>
          cases fl₂ with
          | ret r =>
            obtain ⟨rfl, h', tk, rfl, hS', hk'⟩ := hr₂
            repeat (any_goals (first | assumption | wp_step))
            exact h _ _ hS' hk'
          | _ => exact hr₂.elim
    | _ => exact hr.elim
end
section
variable {X : Cx}
def tLenSetS (ta : TE) : TE := fun σ H Q => ta σ H fun x H1 => ∃ l : Tx, x = .str (S l) ∧ l.length ≤ 1000 ∧ Q (.int ((uniq l).length : Nat)) H1
theorem pe_lenSetS {a : Expr} {ta : TE} {p p2 q pos : Pos} (hc : X.calm = true) (hg : Gl X "len") (hm : X.mg "len" = none) (hg2 : Gl X "set") (hm2 : X.mg "set" = none) (ha : PE X a ta)
    (na : starEach [a] X.env = (false, eval a X.env) :: starEach [] X.env := by rfl) : PE X (.Call (.Name "len" p) [.Call (.Name "set" p2) [a] [] q] [] pos) (tLenSetS ta) := by
  refine ⟨fun pins s σ H Q I h => ?_⟩
  refine PyProof.Rows.Call_ (ld_blt I hg hm boot_len (PyProof.Rows.callWith_builtin1 (PyProof.Rows.args_cons ?_ rfl) rfl rfl))
  refine PyProof.Rows.Call_ (ld_blt I hg2 hm2 PyProof.Rows.boot_set (PyProof.Rows.callWith_type1 (PyProof.Rows.args_cons (thn (ha.run pins s σ H _ I h) fun v s1 hv => PyProof.Rows.args_nil ?_) na) na rfl))
  obtain ⟨x, H1, I1, r1, l, rfl, hl, q1⟩ := hv
  obtain ⟨t, rfl⟩ := r1
  refine call_set_text (I1.ok.hd hc) l t hl fun h' tk hS hk => PyProof.Rows.args_nil ?_
  obtain ⟨o, es, ep, tb, ho, hex, hd, _, _, _, hf, hn⟩ := hS
  have I2 : L2.Inv X pins σ H1 { s1 with heap := h', toks := tk } := I1.kept hk
  have hz := Nat.le_trans (uniq_le l) hl
  exact call_len_set ho hex hd hf (by rw [hn] <;> omega) ⟨.int ((uniq l).length : Nat), H1, I2.tok _, ⟨_, by rw [hn]⟩, q1⟩
end
end Qw

set_option Elab.async false
set_option linter.all false
set_option maxRecDepth 100000
set_option maxHeartbeats 4000000
namespace Qw
open PySem L2
local macro_rules | `(tactic| walk_at "rd") => `(tactic| simp only [iEnum, iRng3, tRevL, rSlS, rSlL, gSub, rSetL, wipe, List.map_cons, List.map_nil, rAll, rAny, rIsi, tM1, tM0, iZipLT, iZip, iRng2, tLenSetS, rListStr, rMulS, rRep, rCntB, tRevS, rNeD, rEqD, tSeq, tNext, tAsg, tRet, tRetN, tDrop, tIfS, sFld, sFldAug, tVar, tC, tOp, tUn, tTest, tB, tAnd, tOr, tNot, tAndV, tOrV, tNotV, tIf, tTup, tLst, tCons, tNil, tCB, tCall, tMeth, tMake, tFld, rI, rI0, rU, rEq, rNe, rCat, gName, gTup, gCons, gNil, tPar, tPar3, tBM, tBM0, rAppend, rExtend, rPopAt, rIxL, rIxT, rIxS, tSl, rSlS, rSlL, tPart, tNoPart, iStr, iTup, iList, iRng1, tAug, ipI, L2.rAdd, L2.rSub, L2.rAddS, tChain, rIsB, rNotB, scal_ss, scal_ii, scal_bb, scal_nn, scal_in, scal_ni, tYes,
  cx_K, cx_N, List.getElem?_cons_zero, List.getElem?_cons_succ, List.set_cons_zero, List.set_cons_succ, List.nil_append, List.cons_append, List.append_nil, List.length_cons, List.length_nil, Nat.zero_add,
  Option.some.injEq, V.ref.injEq, V.int.injEq, V.str.injEq, V.bl.injEq, HO.ins.injEq, HO.lst.injEq, HO.tup.injEq, List.cons.injEq, exists_eq_left, exists_eq_left', exists_eq_right, exists_eq_right', and_true, true_and, exists_and_left, exists_and_right, and_assoc, decide_eq_true_eq, Bool.not_eq_true', decide_eq_false_iff_not, reduceCtorEq, exists_const, forall_const, if_true, if_false, false_and, and_false, ite_true, ite_false, Bool.true_eq_false, Bool.false_eq_true, Nat.reduceLeDiff, Nat.reduceAdd, small_line, small_lt, upd_ne, ne_eq, not_false_eq_true, Nat.zero_le, Prod.mk.injEq, upd_same, upd_upd, S_tl, S_len, S_app, S_one, S_inj,
  lk_breaks, lk_hard, lk_soft, lk_bend, lk_note, lk_rules, lk_state, lk_bent, lk_word, lk_begun, lk_opened, lk_place, pt_state, pt_bent, pt_word, pt_wordS, pt_wordN, pt_begun, pt_opened, pt_place, pt_place1, len_mf, litv_empty, litv_note, litv_nl, mf_inj, rf_inj, lkn_begin, lkn_ended, lkn_plain, lkn_quoted, lkn_step, lkn_fault, lkn_key, lkn_told, lkn_quotes, lkn_special, pt_open1, not_true_eq_false, not_false_eq_true])
local macro_rules | `(tactic| walk_at "rdh") => `(tactic| simp only [iEnum, iRng3, tRevL, rSlS, rSlL, gSub, rSetL, wipe, List.map_cons, List.map_nil, rAll, rAny, rIsi, tM1, tM0, iZipLT, iZip, iRng2, tLenSetS, rListStr, rMulS, rRep, rCntB, tRevS, rNeD, rEqD, tSeq, tNext, tAsg, tRet, tRetN, tDrop, tIfS, sFld, sFldAug, tVar, tC, tOp, tUn, tTest, tB, tAnd, tOr, tNot, tAndV, tOrV, tNotV, tIf, tTup, tLst, tCons, tNil, tCB, tCall, tMeth, tMake, tFld, rI, rI0, rU, rEq, rNe, rCat, gName, gTup, gCons, gNil, tPar, tPar3, tBM, tBM0, rAppend, rExtend, rPopAt, rIxL, rIxT, rIxS, tSl, rSlS, rSlL, tPart, tNoPart, iStr, iTup, iList, iRng1, tAug, ipI, L2.rAdd, L2.rSub, L2.rAddS, tChain, rIsB, rNotB, scal_ss, scal_ii, scal_bb, scal_nn, scal_in, scal_ni, tYes,
  cx_K, cx_N, List.getElem?_cons_zero, List.getElem?_cons_succ, List.set_cons_zero, List.set_cons_succ, List.nil_append, List.cons_append, List.append_nil, List.length_cons, List.length_nil, Nat.zero_add,
  Option.some.injEq, V.ref.injEq, V.int.injEq, V.str.injEq, V.bl.injEq, HO.ins.injEq, HO.lst.injEq, HO.tup.injEq, List.cons.injEq, exists_eq_left, exists_eq_left', exists_eq_right, exists_eq_right', and_true, true_and, exists_and_left, exists_and_right, and_assoc, decide_eq_true_eq, Bool.not_eq_true', decide_eq_false_iff_not, reduceCtorEq, exists_const, forall_const, if_true, if_false, false_and, and_false, ite_true, ite_false, Bool.true_eq_false, Bool.false_eq_true, Nat.reduceLeDiff, Nat.reduceAdd, small_line, small_lt, upd_ne, ne_eq, not_false_eq_true, Nat.zero_le, Prod.mk.injEq, upd_same, upd_upd, S_tl, S_len, S_app, S_one, S_inj,
  lk_breaks, lk_hard, lk_soft, lk_bend, lk_note, lk_rules, lk_state, lk_bent, lk_word, lk_begun, lk_opened, lk_place, pt_state, pt_bent, pt_word, pt_wordS, pt_wordN, pt_begun, pt_opened, pt_place, pt_place1, len_mf, litv_empty, litv_note, litv_nl, mf_inj, rf_inj, lkn_begin, lkn_ended, lkn_plain, lkn_quoted, lkn_step, lkn_fault, lkn_key, lkn_told, lkn_quotes, lkn_special, pt_open1, not_true_eq_false, not_false_eq_true, *])
local macro_rules | `(tactic| walk_at "pl") => `(tactic| (first | decide | (refine Nat.lt_of_le_of_lt (length_putF _ _ _) ?_; repeat (first | decide | refine pl2 ?_))))
local macro_rules | `(tactic| walk_at "al") => `(tactic| (intro p hp; generalize hH : upd _ p _ = H1; obtain ⟨S, e⟩ := gen_new hH hp; clear hH))
theorem walk_zipLT {K : PySem.W.Frag} {p q : Addr} {xs ys : List V} {n : Nat} (hn : n = min xs.length ys.length) : Walk (ItzLT K p q) n (fun H => SqL K H p xs ∧ SqT K H q ys) (YPair (fun i => xs[i]?) (fun i => ys[i]?)) := by
  subst hn
  refine ⟨fun i H hi g => ⟨xs, ys, g.1, g.2, hi⟩, fun H g => ⟨xs, ys, g.1, g.2, rfl⟩, ?_⟩
  rintro i H v H' hi g ⟨T, x, y, h1, h2, h3, h4, h5⟩
  exact ⟨T, x, y, h1, h2, h3, h4 _ g.1, h5 _ g.2⟩
def WF (p q : Addr) : List (Str × V) := [("words", .ref p), ("places", .ref q)]
theorem Paired.at' {α β : Type} {F : α → β → Prop} : ∀ {l : List α} {m : List β} {i : Nat} {x : α} {y : β}, Paired F l m → m[i]? = some y → l[i]? = some x → F x y
  | _, _, 0, _, _, .cons r _, h1, h2 => by cases h1; cases h2; exact r
  | _, _, i + 1, _, _, .cons _ t, h1, h2 => Paired.at' t (by simpa using h1) (by simpa using h2)
  | _, _, _, _, _, .nil, h1, _ => by simp at h1
theorem fnds_pl {H : Hp} : ∀ {xs : List V} {ds : List W3}, Fnds H xs ds → ∃ us : List V, us.length = ds.length ∧ Paired (Pls H) us (ds.map fun d => ((d.2.1 : Int), (d.2.2 : Int))) ∧
    ∀ (i : Nat) (x u : V), xs[i]? = some x → us[i]? = some u → ∃ b w, x = .ref b ∧ H b = some (.tup [w, u])
  | _, _, .nil => ⟨[], rfl, .nil, fun i x u h _ => by simp at h⟩
  | _, _, .cons r t => by
    obtain ⟨us, h1, h2, h3⟩ := fnds_pl t
    obtain ⟨b, u, rfl, g1, g2⟩ := r
    refine ⟨.ref u :: us, by simp [h1], .cons ⟨u, rfl, g2⟩ h2, fun i x v e1 e2 => ?_⟩
    match i, e1, e2 with
    | 0, e1, e2 => cases e1; cases e2; exact ⟨b, _, rfl, g1⟩
    | i + 1, e1, e2 => exact h3 i x v (by simpa using e1) (by simpa using e2)
/-- what split tells, at a new object: its lists are new -/
def Ansd (a : Ad) (H H' : Hp) (p : Addr) (x : Told) : Prop := match x with
  | .error n => ∃ dx, H' p = some (.ins a.c_Fault dx [("place", .int n)])
  | .ok (ws, ps) => ∃ dx l1 l2 ys, H' p = some (.ins a.c_Words dx (WF l1 l2)) ∧ H' l1 = some (.lst (ws.map fun w => .str (S w))) ∧ H' l2 = some (.lst ys) ∧ Paired (Pls H') ys ps ∧ H l1 = none ∧ H l2 = none ∧ l1 ≠ l2
section
variable {P : Program} {w : World} {K : PySem.W.Frag} {mg : Str → Option Value} {base : Heap} {a : Ad}
def sp_are_signs (a : Ad) : Sp := fun vs H Q _ => ∃ t, vs = [.str (S t)] ∧ t.length ≤ 50000 ∧ ∀ H', Same H H' → Q (.bl (t.all sgn)) H'
theorem ok_are_signs (T : Txt K mg a) : FnOk P w K mg base CX0 1 a.f_are_signs a.d_are_signs P_are_signs (sp_are_signs a) := by
  refine T.F_are_signs.ok sc_are_signs (fun vs H Q E h => ?_) (fun cdv A outer s H vs Q E hr h => ?_)
  · obtain ⟨t, rfl, _⟩ := h
    rfl
  · obtain ⟨t, rfl, ht, k⟩ := h

    refine ⟨_,
(pss_one (ps_ret (pe_and (pe_callB (call_isi) (by rfl) T.b_isinstance (by decide +kernel) (pa_cons (pv 0) (pa_cons (pe_bltn (v := .ty "str") (u := .type "str") rfl T.b_str (by decide +kernel) rfl) pa_nil))) (pe_one (pe_callB (cr_all rfl) (by rfl) T.b_all (by decide +kernel) (pa_cons (pe_lc (own := [("sign", 1)]) (g := gName 1) (tt := tYes) rfl sc_are_signs.nd (pi_str (pv 0)) (blkOk_by (own := [("sign", 1)]) (N := N_are_signs) (sc := defScope st_are_signs) (by decide +kernel)) (fun _ _ _ _ _ => (pg_name (i := 1) sc_are_signs.nd rfl (by first | exact Or.inl rfl | exact Or.inr rfl))) (fun _ _ _ _ _ => pts_nil) (fun _ _ _ _ _ => (pe_or (pe_chain op_le_str op_le_str pe_str (pv 1) pe_str) (pe_one (pe_cmpR op_eq (pv 1) (pe_glob (v := .str ("\n" : Str)) rfl T.g_LINE_END ⟨_, rfl⟩) (nomark _)))))) pa_nil))))))
      , ?_⟩
    rw [show start N_are_signs [V.str (S t)] = [some (.str (S t)), none] from rfl]
    walk_at "rdh"
    refine ⟨_, _, .ty _, .base (.str _), _, kit_ty (b := "str") (r := true) (by decide +kernel), ?_⟩
    refine iteT (tlc_map t (fun c => .bl (sgn c)) (J := Its (S t)) (H1 := H) (fun R hR => ?_) walk_text (by omega) (fun _ _ => trivial) ?_ ?_)
    · exact ⟨_, rfl, _, rfl, hR⟩
    · rintro R R' i c x H2 H3 hi s1 ⟨rfl, c', hc, rfl⟩ hR
      rw [hi] at hc
      cases hc
      walk_at "rdh"
      rw [show (Str.ofString " ").cps.toList = [32] by decide +kernel, show (Str.ofString "~").cps.toList = [126] by decide +kernel]
      have e1 := one_lt c 32
      have e2 := one_lt 126 c
      rw [sgn] at hR
      have hR := hR H3 (Same.refl _)
      refine ite2 (fun c1 => ?_) (fun c1 => ?_)
      · rw [e1] at c1
        refine ite2 (fun c2 => ?_) (fun c2 => ?_)
        · rw [e2] at c2
          rw [decide_eq_true (show 32 ≤ c ∧ c ≤ 126 by omega)] at hR
          exact hR
        · rw [e2] at c2
          rw [decide_eq_false (show ¬ (32 ≤ c ∧ c ≤ 126) by omega)] at hR
          exact hR
      · rw [e1] at c1
        rw [decide_eq_false (show ¬ (32 ≤ c ∧ c ≤ 126) by omega)] at hR
        exact hR
    · intro D H2 hD s1 e
      walk_at "rdh"
      refine ⟨t.map sgn, .inl (.inl (by rw [List.map_map]; exact e)), ?_⟩
      rw [List.all_map]
      exact k H2 s1
def sp_Rules_init (a : Ad) : Sp := fun vs H Q _ => ∃ p dx r, vs = [.ref p, .str (S r.breaks), .str (S r.hard), .str (S r.soft), .str (S r.bend), .str (S r.note)] ∧ r.Ok ∧ H p = some (.ins a.c_Rules dx []) ∧
  ∀ H', H' p = some (.ins a.c_Rules dx (RS.f r)) → Kp p H H' → Q .non H'
theorem ok_Rules_init (T : Txt K mg a) : FnOk P w K mg base CX0 2 a.f_Rules_init a.d_Rules_init P_Rules_init (sp_Rules_init a) := by
  refine T.F_Rules_init.ok sc_Rules_init (fun vs H Q E h => ?_) (fun cdv A outer s H vs Q E hr h => ?_)
  · obtain ⟨p, dx, r, rfl, _⟩ := h
    rfl
  · obtain ⟨p, dx, r, rfl, ok, hM, k⟩ := h
    have G_are_signs := ok_are_signs (P := P) (w := w) (base := base) T
    have B_are_signs := bi_are_signs T
    refine ⟨_,
(pss_cons (ps_set (i := 6) sc_Rules_init.nd rfl (by first | exact Or.inl rfl | exact Or.inr rfl) (pe_lst (pa_cons (pv 1) (pa_cons (pv 2) (pa_cons (pv 3) (pa_cons (pv 4) (pa_cons (pv 5) pa_nil)))))))
    (pss_cons (ps_if (PW.pt (pw_or (pt_not (pt_val (pe_callB (cr_all rfl) (by rfl) T.b_all (by decide +kernel) (pa_cons (pe_lc (own := [("part", 8), ("most", 9)]) (g := gTup _ 2 (gCons (gName 8) (gCons (gName 9) (gNil)))) (tt := tYes) rfl sc_Rules_init.nd (pi_zipLT rfl T.b_zip (pa_cons (pv 6) (pa_cons (pe_glob (v := .ref a.a_MOST) rfl T.g_MOST rfl) pa_nil))) (blkOk_by (own := [("part", 8), ("most", 9)]) (N := N_Rules_init) (sc := defScope st_Rules_init) (by decide +kernel)) (fun _ _ _ _ _ => (pg_tup rfl (pgs_cons (pg_name (i := 8) sc_Rules_init.nd rfl (by first | exact Or.inl rfl | exact Or.inr rfl)) (pgs_cons (pg_name (i := 9) sc_Rules_init.nd rfl (by first | exact Or.inl rfl | exact Or.inr rfl)) pgs_nil)))) (fun _ _ _ _ _ => pts_nil) (fun _ _ _ _ _ => (pe_and (pe_call G_are_signs (hr.mono (by decide)) rfl T.f_are_signs.g T.f_are_signs.k B_are_signs .nil pass0 (pa_cons (pv 8) pa_nil)) (pe_one (pe_cmpR op_le (pe_callB call_len_str (by rfl) T.b_len PySem.boot_len (pa_cons (pv 8) pa_nil)) (pv 9) (nomark _)))))) pa_nil)))) (pw_or1 (pt_cmpR op_eq (pv 1) pe_str (nomark _))))) (pss_one ps_never) pss_nil)
    (pss_cons (ps_set (i := 7) sc_Rules_init.nd rfl (by first | exact Or.inl rfl | exact Or.inr rfl) (pe_join pe_str (pv 6)))
    (pss_cons (ps_if (pt_cmpR op_lt (pe_lenSetS rfl rfl T.b_len rfl T.b_set (pv 7)) (pe_callB call_len_str (by rfl) T.b_len PySem.boot_len (pa_cons (pv 7) pa_nil)) (nomark _)) (pss_one ps_never) pss_nil)
    (pss_cons (ps_fld (pv 0) (pv 1) rfl)
    (pss_cons (ps_fld (pv 0) (pv 2) rfl)
    (pss_cons (ps_fld (pv 0) (pv 3) rfl)
    (pss_cons (ps_fld (pv 0) (pv 4) rfl)
    (pss_one (ps_fld (pv 0) (pv 5) rfl))))))))))
      , ?_⟩
    rw [show start N_Rules_init [V.ref p, V.str (S r.breaks), V.str (S r.hard), V.str (S r.soft), V.str (S r.bend), V.str (S r.note)] = [some (.ref p), some (.str (S r.breaks)), some (.str (S r.hard)), some (.str (S r.soft)), some (.str (S r.bend)), some (.str (S r.note)), none, none, none, none] from rfl]
    have hc := T.c_Rules.cl
    have n1 := T.n_Rules_breaks
    have n2 := T.n_Rules_hard
    have n3 := T.n_Rules_soft
    have n4 := T.n_Rules_bend
    have n5 := T.n_Rules_note
    walk_at "rd"
    intro l hl
    have S1 := same_new (o := HO.lst [V.str (S r.breaks), V.str (S r.hard), V.str (S r.soft), V.str (S r.bend), V.str (S r.note)]) hl
    have hL : upd H l (HO.lst [V.str (S r.breaks), V.str (S r.hard), V.str (S r.soft), V.str (S r.bend), V.str (S r.note)]) l = _ := upd_same
    generalize upd H l (HO.lst [V.str (S r.breaks), V.str (S r.hard), V.str (S r.soft), V.str (S r.bend), V.str (S r.note)]) = H1 at *
    have sm := T.s_MOST
    refine tlc_map (α := Tx × Int) [(r.breaks, 4), (r.hard, 2), (r.soft, 2), (r.bend, 1), (r.note, 1)] (fun _ => .bl true) (J := ItzLT K l a.a_MOST) (H1 := H1)
      (G := fun H => SqL K H l [V.str (S r.breaks), V.str (S r.hard), V.str (S r.soft), V.str (S r.bend), V.str (S r.note)] ∧ SqT K H a.a_MOST [.int 4, .int 2, .int 2, .int 1, .int 1]) (fun R hR => ?_) (walk_zipLT rfl) (by simp only [List.length_cons, List.length_nil]; omega) (fun H s => ⟨.inl (.inl (s _ _ hL)), sm H⟩) ?_ ?_
    · walk_at "rd"
      exact ⟨⟨_, .inl (.inl hL)⟩, ⟨_, sm _⟩, hR⟩
    · rintro R R' i ⟨c, n⟩ x H2 H3 hi s1 ⟨t, x, y, rfl, ht, rfl, hx, hy⟩ hR
      have hxy : x = .str (S c) ∧ y = .int n ∧ c.all sgn = true ∧ (c.length : Int) ≤ n ∧ n ≤ 4 := by
        have hs := ok.sg
        simp only [RS.every, List.all_append, Bool.and_eq_true] at hs
        obtain ⟨s1, s2, s3, s4, s5⟩ := hs
        match i, hi, hx, hy with
        | 0, hi, hx, hy => cases hi; cases hx; cases hy; exact ⟨rfl, rfl, s1, by have := ok.l1; omega, by decide⟩
        | 1, hi, hx, hy => cases hi; cases hx; cases hy; exact ⟨rfl, rfl, s2, by have := ok.l2; omega, by decide⟩
        | 2, hi, hx, hy => cases hi; cases hx; cases hy; exact ⟨rfl, rfl, s3, by have := ok.l3; omega, by decide⟩
        | 3, hi, hx, hy => cases hi; cases hx; cases hy; exact ⟨rfl, rfl, s4, by have := ok.l4; omega, by decide⟩
        | 4, hi, hx, hy => cases hi; cases hx; cases hy; exact ⟨rfl, rfl, s5, by have := ok.l5; omega, by decide⟩
      obtain ⟨rfl, rfl, g1, g2, g3⟩ := hxy
      walk_at "rdh"
      refine ⟨_, .inl (.inl upd_same), rfl, _, _, rfl, _, _, rfl, rfl, c, rfl, by omega, fun H4 s4 => ?_⟩
      walk_at "rdh"
      exact ⟨Nat.le_trans (show c.length ≤ 4 by omega) (by decide), hR _ ((same_new ht).trans s4)⟩
    · intro D H2 hD s1 e
      walk_at "rdh"
      refine ⟨[true, true, true, true, true], .inl (.inl e), ?_⟩
      refine ite2 (fun c => absurd c (by decide)) (fun _ => ?_)
      have ne := ok.ne
      walk_at "rdh"
      have ev : r.every.length ≤ 10 := by
        have h1 := ok.l1; have h2 := ok.l2; have h3 := ok.l3; have h4 := ok.l4; have h5 := ok.l5
        simp only [RS.every, List.length_append]; omega
      have jn : Txt.join (S []) [S r.breaks, S r.hard, S r.soft, S r.bend, S r.note] = S r.every := by
        have := join_flat [r.breaks, r.hard, r.soft, r.bend, r.note]
        simpa [RS.every] using this
      have hp := S1 _ _ hM
      have hp2 := s1 _ _ hp
      refine ⟨⟨_, rfl⟩, [S r.breaks, S r.hard, S r.soft, S r.bend, S r.note], .inl (.inl (.inl (s1 _ _ hL))), ?_, ?_⟩
      · have h1 := ok.l1; have h2 := ok.l2; have h3 := ok.l3; have h4 := ok.l4; have h5 := ok.l5
        simp only [List.map_cons, List.map_nil, List.sum_cons, List.sum_nil, S_len, List.length_cons, List.length_nil]; omega
      · rw [jn]
        refine ⟨_, rfl, by omega, ?_⟩
        walk_at "rdh"
        refine ⟨Nat.le_trans ev (by decide), ?_⟩
        rw [uniq_nodup ok.nd]
        refine ite2 (fun c => absurd c (by omega)) (fun _ => ?_)
        refine ⟨by walk_at "pl", by walk_at "pl", by walk_at "pl", by walk_at "pl", by walk_at "pl", ?_⟩
        refine k _ ?_ ((S1.trans s1).kp p).upd
        rw [upd_same]
        exact congrArg (fun l => some (HO.ins a.c_Rules dx l)) (show _ = r.f by kernel_rfl)
def sp_told (a : Ad) : Sp := fun vs H Q _ => ∃ p dr r, vs = [.ref p] ∧ H p = some (.ins a.c_Rules dr (RS.f r)) ∧
  ∀ t H', H t = none → H' = upd H t (.tup [.str (S r.breaks), .str (S r.hard), .str (S r.soft), .str (S r.bend), .str (S r.note)]) → Q (.ref t) H'
theorem ok_Rules_told (T : Txt K mg a) : FnOk P w K mg base CX0 1 a.f_Rules_told a.d_Rules_told P_Rules_told (sp_told a) := by
  refine T.F_Rules_told.ok sc_Rules_told (fun vs H Q E h => ?_) (fun cdv A outer s H vs Q E hr h => ?_)
  · obtain ⟨p, dx, r, rfl, _⟩ := h
    rfl
  · obtain ⟨p, dx, r, rfl, hM, k⟩ := h
    refine ⟨_,
(pss_one (ps_ret (pe_tup (pa_cons (pe_fld (pv 0) rfl) (pa_cons (pe_fld (pv 0) rfl) (pa_cons (pe_fld (pv 0) rfl) (pa_cons (pe_fld (pv 0) rfl) (pa_cons (pe_fld (pv 0) rfl) pa_nil))))))))
      , ?_⟩
    rw [show start N_Rules_told [V.ref p] = [some (.ref p)] from rfl]
    have hc := T.c_Rules.cl
    have n1 := T.n_Rules_breaks
    have n2 := T.n_Rules_hard
    have n3 := T.n_Rules_soft
    have n4 := T.n_Rules_bend
    have n5 := T.n_Rules_note
    walk_at "rdh"
    exact fun t ht => k t _ ht rfl
/-! ### answers -/
def sp_Words_init (a : Ad) : Sp := fun vs H Q _ => ∃ p dx l1 l2 xs ys, vs = [.ref p, .ref l1, .ref l2] ∧ H p = some (.ins a.c_Words dx []) ∧ H l1 = some (.lst xs) ∧ H l2 = some (.lst ys) ∧
  ∀ m1 m2 H', H m1 = none → H m2 = none → m1 ≠ m2 → H' m1 = some (.lst xs) → H' m2 = some (.lst ys) → H' p = some (.ins a.c_Words dx (WF m1 m2)) → Kp p H H' → Q .non H'
theorem ok_Words_init (T : Txt K mg a) : FnOk P w K mg base CX0 1 a.f_Words_init a.d_Words_init P_Words_init (sp_Words_init a) := by
  refine T.F_Words_init.ok sc_Words_init (fun vs H Q E h => ?_) (fun cdv A outer s H vs Q E hr h => ?_)
  · obtain ⟨p, dx, l1, l2, xs, ys, rfl, _⟩ := h
    rfl
  · obtain ⟨p, dx, l1, l2, xs, ys, rfl, hM, h1, h2, k⟩ := h
    refine ⟨_,
(pss_cons (ps_fld (pv 0) (pe_callTy call_list_of (by rfl) T.b_list (by decide +kernel) (pa_cons (pv 1) pa_nil)) rfl)
    (pss_one (ps_fld (pv 0) (pe_callTy call_list_of (by rfl) T.b_list (by decide +kernel) (pa_cons (pv 2) pa_nil)) rfl)))
      , ?_⟩
    rw [show start N_Words_init [V.ref p, V.ref l1, V.ref l2] = [some (.ref p), some (.ref l1), some (.ref l2)] from rfl]
    have hc := T.c_Words.cl
    have n1 := T.n_Words_words
    have n2 := T.n_Words_places
    walk_at "rdh"
    refine ⟨xs, .inl (.inl (.inl h1)), fun m1 hm1 => ?_⟩
    have S1 := same_new (o := HO.lst xs) hm1
    have p1 := S1 _ _ hM
    have q2 := S1 _ _ h2
    have e1 : upd H m1 (HO.lst xs) m1 = some (HO.lst xs) := upd_same
    generalize upd H m1 (HO.lst xs) = H1 at *
    have np : m1 ≠ p := Ne.symm (ne_of_none hM hm1)
    walk_at "rdh"
    have ql : upd H1 p (HO.ins a.c_Words dx (putF (Str.ofString "words") (V.ref m1) [])) l2 = some (HO.lst ys) := by
      rw [upd_ne (fun z => by rw [z, hM] at h2; cases h2)]
      exact q2
    refine ⟨by walk_at "pl", ys, .inl (.inl (.inl ql)), fun m2 hm2 => ?_⟩
    have hm2' := none_upd hm2
    have np2 : m2 ≠ p := ne_upd hm2
    have np2' := Ne.symm np2
    have n12 : m1 ≠ m2 := fun z => by rw [← z, e1] at hm2'; cases hm2'
    walk_at "rdh"
    refine ⟨by walk_at "pl", k m1 m2 _ hm1 (S1.free hm2') n12 ?_ ?_ ?_ ?_⟩
    · rw [upd_ne np, upd_ne n12, upd_ne np]
      exact e1
    · rw [upd_ne np2, upd_same]
    · rw [upd_same]
      exact congrArg (fun l => some (HO.ins a.c_Words dx l)) (show _ = WF m1 m2 by kernel_rfl)
    · exact (((S1.kp p).upd).trans ((same_new hm2).kp p)).upd
def sp_Fault_init (a : Ad) : Sp := fun vs H Q _ => ∃ p dx n, vs = [.ref p, .int n] ∧ H p = some (.ins a.c_Fault dx []) ∧
  ∀ H', H' p = some (.ins a.c_Fault dx [("place", .int n)]) → Kp p H H' → Q .non H'
theorem ok_Fault_init (T : Txt K mg a) : FnOk P w K mg base CX0 1 a.f_Fault_init a.d_Fault_init P_Fault_init (sp_Fault_init a) := by
  refine T.F_Fault_init.ok sc_Fault_init (fun vs H Q E h => ?_) (fun cdv A outer s H vs Q E hr h => ?_)
  · obtain ⟨p, dx, n, rfl, _⟩ := h
    rfl
  · obtain ⟨p, dx, n, rfl, hM, k⟩ := h
    refine ⟨_,
(pss_one (ps_fld (pv 0) (pv 1) rfl))
      , ?_⟩
    rw [show start N_Fault_init [V.ref p, V.int n] = [some (.ref p), some (.int n)] from rfl]
    have hc := T.c_Fault.cl
    have n1 := T.n_Fault_place
    walk_at "rdh"
    refine ⟨by walk_at "pl", k _ ?_ kp_upd⟩
    rw [upd_same]
    exact congrArg (fun l => some (HO.ins a.c_Fault dx l)) (show _ = [(Str.ofString "place", V.int n)] by kernel_rfl)
def sp_split (a : Ad) : Sp := fun vs H Q _ => ∃ rp dr r t, vs = [.ref rp, .str (S t)] ∧ H rp = some (.ins a.c_Rules dr (RS.f r)) ∧ r.hard.length + r.soft.length ≤ 100 ∧ t.length ≤ 400 ∧ t.all sgn = true ∧
  ∀ p H', H p = none → Same H H' → Ansd a H H' p (told3 (readAll r t rp)) → Q (.ref p) H'
theorem ok_split (T : Txt K mg a) : FnOk P w K mg base CX0 6 a.f_split a.d_split P_split (sp_split a) := by
  refine T.F_split.ok sc_split (fun vs H Q E h => ?_) (fun cdv A outer s H vs Q E hr h => ?_)
  · obtain ⟨rp, dr, r, t, rfl, _⟩ := h
    rfl
  · obtain ⟨rp, dr, r, t, rfl, hR, hq, ht, hs, k⟩ := h
    have G_are_signs := ok_are_signs (P := P) (w := w) (base := base) T
    have B_are_signs := bi_are_signs T
    have G_read_all := ok_read_all (P := P) (w := w) (base := base) T
    have B_read_all := bi_read_all T
    have G_Fault_init := ok_Fault_init (P := P) (w := w) (base := base) T
    have B_Fault_init := bi_Fault_init T
    have G_Words_init := ok_Words_init (P := P) (w := w) (base := base) T
    have B_Words_init := bi_Words_init T
    have gL := T.g_LONGEST
    refine ⟨_,
(pss_cons (ps_if (PW.pt (pw_or (pt_not (pt_val (pe_call G_are_signs (hr.mono (by decide)) rfl T.f_are_signs.g T.f_are_signs.k B_are_signs .nil pass0 (pa_cons (pv 1) pa_nil)))) (pw_or1 (pt_cmpR op_gt (pe_callB call_len_str (by rfl) T.b_len PySem.boot_len (pa_cons (pv 1) pa_nil)) (pe_glob (v := .int 400) rfl T.g_LONGEST ⟨_, rfl⟩) (nomark _))))) (pss_one ps_never) pss_nil)
    (pss_cons (ps_asg (pe_call G_read_all (hr.mono (by decide)) rfl T.f_read_all.g T.f_read_all.k B_read_all .nil pass0 (pa_cons (pv 0) (pa_cons (pv 1) pa_nil))) (pg_tup rfl (pgs_cons (pg_name (i := 2) sc_split.nd rfl (by first | exact Or.inl rfl | exact Or.inr rfl)) (pgs_cons (pg_name (i := 3) sc_split.nd rfl (by first | exact Or.inl rfl | exact Or.inr rfl)) pgs_nil))))
    (pss_cons (ps_if (pt_cmpR op_isN (pv 2) pe_non (nomark _)) (pss_one (ps_ret (pe_make T.c_Fault.mc G_Fault_init (hr.mono (by decide)) rfl T.c_Fault.g B_Fault_init .nil pass0 (pa_cons (pv 3) pa_nil)))) pss_nil)
    (pss_one (ps_ret (pe_make T.c_Words.mc G_Words_init (hr.mono (by decide)) rfl T.c_Words.g B_Words_init .nil pass0 (pa_cons (pe_lc (own := [("pair", 4)]) (g := gName 4) (tt := tYes) rfl sc_split.nd (pi_list (pv 2)) (blkOk_by (own := [("pair", 4)]) (N := N_split) (sc := defScope st_split) (by decide +kernel)) (fun _ _ _ _ _ => (pg_name (i := 4) sc_split.nd rfl (by first | exact Or.inl rfl | exact Or.inr rfl))) (fun _ _ _ _ _ => pts_nil) (fun _ _ _ _ _ => (pe_ix (ix_tupK (K := K) rfl) (pv 4) pe_int (fun _ _ => rfl)))) (pa_cons (pe_lc (own := [("pair", 4)]) (g := gName 4) (tt := tYes) rfl sc_split.nd (pi_list (pv 2)) (blkOk_by (own := [("pair", 4)]) (N := N_split) (sc := defScope st_split) (by decide +kernel)) (fun _ _ _ _ _ => (pg_name (i := 4) sc_split.nd rfl (by first | exact Or.inl rfl | exact Or.inr rfl))) (fun _ _ _ _ _ => pts_nil) (fun _ _ _ _ _ => (pe_ix (ix_tupK (K := K) rfl) (pv 4) pe_int (fun _ _ => rfl)))) pa_nil))))))))
      , ?_⟩
    rw [show start N_split [V.ref rp, V.str (S t)] = [some (.ref rp), some (.str (S t)), none, none, none] from rfl]
    walk_at "rd"
    refine ⟨t, rfl, by omega, fun H0 s0 => ⟨_, rfl, ?_⟩⟩
    rw [hs]
    refine ite2 (fun c => by cases c) (fun _ => ?_)
    refine ⟨Nat.le_trans ht (by decide), ?_⟩
    refine ite2 (fun c => absurd c (by omega)) (fun _ => ?_)
    refine ⟨rp, dr, r, t, rfl, s0 _ _ hR, hq, by omega, fun tp H1 htp s1 told => ?_⟩
    have s01 := s0.trans s1
    unfold ToldAll at told
    split at told
    · rename_i m e
      rw [e] at k
      walk_at "rd"
      refine ⟨_, .inl (.inl told), rfl, _, _, rfl, _, _, rfl, rfl, ?_⟩
      refine ite2 (fun _ => ?_) (fun c => absurd rfl c)
      intro x dx hx hdx ne
      refine ⟨x, dx, _, rfl, upd_same, fun H' g1 g2 => ⟨rfl, ?_⟩⟩
      refine k x H' (s01.free hx) (s01.trans (Same.made hx hdx g2)) ⟨dx, g1⟩
    · rename_i ds e
      rw [e] at k
      obtain ⟨l, xs, hl, t1, t2, t3⟩ := told
      have hb := readAll_bd r t rp
      rw [e] at hb
      have dl : ds.length ≤ 900 := by have := hb.1; omega
      have hlen := t3.length
      walk_at "rd"
      refine ⟨_, .inl (.inl t1), rfl, _, _, rfl, _, _, rfl, rfl, ?_⟩
      refine ite2 (fun c => by cases c) (fun _ => ?_)
      refine tlc_map ds (fun d => .str (S d.1)) (J := Itl K l) (H1 := H1) (G := fun H => SqL K H l xs) (fun R hR => ?_) (hlen ▸ walk_list) (by omega) (fun H s => .inl (.inl (s _ _ t2))) ?_ ?_
      · exact ⟨_, rfl, l, rfl, ⟨_, .inl (.inl t2)⟩, hR⟩
      · rintro R R' i d x H2 H3 hi s2 ⟨rfl, hx⟩ hR
        obtain ⟨b, u, rfl, g1, g2⟩ := Paired.at' t3 hi hx
        walk_at "rd"
        refine ⟨_, .inl (.inl (s2 _ _ g1)), _, rfl, hR _ (Same.refl _)⟩
      · intro D H2 hD s2 e2
        obtain ⟨us, u1, u2, u3⟩ := fnds_pl t3
        refine tlc_map us id (J := Itl K l) (H1 := H2) (G := fun H => SqL K H l xs) (fun R hR => ?_) ((hlen.trans u1.symm) ▸ walk_list) (by omega) (fun H s => .inl (.inl (s _ _ (s2 _ _ t2)))) ?_ ?_
        · exact ⟨_, rfl, l, rfl, ⟨_, .inl (.inl (s2 _ _ t2))⟩, hR⟩
        · rintro R R' i u x H3 H4 hi s3 ⟨rfl, hx⟩ hR
          obtain ⟨b, w, rfl, g1⟩ := u3 i x u hx hi
          walk_at "rd"
          exact ⟨_, .inl (.inl (s3 _ _ (s2 _ _ g1))), _, rfl, hR _ (Same.refl _)⟩
        · intro D3 H3 hD3 s3 e3
          rw [List.map_id] at e3
          intro x dx hx hdx ne
          have s03 := (s01.trans s2).trans s3
          have sm : Same H3 (upd (upd H3 dx (.own x)) x (.ins a.c_Words dx [])) := Same.made hx hdx fun _ _ e _ => e
          refine ⟨x, dx, D, D3, _, _, rfl, upd_same, sm _ _ (s3 _ _ e2), sm _ _ e3, fun m1 m2 H' f1 f2 f3 f4 f5 f6 f7 => ⟨rfl, ?_⟩⟩
          have sf : Same H3 H' := Same.made hx hdx f7
          refine k x H' (s03.free hx) (s03.trans sf) ⟨dx, m1, m2, us, f6, ?_, f5, ?_, (s03.trans sm).free f1, (s03.trans sm).free f2, f3⟩
          · rw [f4, List.map_map]; rfl
          · exact Paired.mapP u2 fun _ _ z => z.mono fun b xs => ((s2.trans s3).trans sf) b _
end
end Qw

set_option Elab.async false
set_option linter.all false
set_option maxRecDepth 100000
set_option maxHeartbeats 4000000
namespace Qw
open PySem L2
local macro_rules | `(tactic| walk_at "rd") => `(tactic| simp only [iEnum, iRng3, tRevL, rSlS, rSlL, gSub, rSetL, wipe, List.map_cons, List.map_nil, rAll, rAny, rIsi, tM1, tM0, iZipLT, iZip, iRng2, tLenSetS, rListStr, rMulS, rRep, rCntB, tRevS, rNeD, rEqD, tSeq, tNext, tAsg, tRet, tRetN, tDrop, tIfS, sFld, sFldAug, tVar, tC, tOp, tUn, tTest, tB, tAnd, tOr, tNot, tAndV, tOrV, tNotV, tIf, tTup, tLst, tCons, tNil, tCB, tCall, tMeth, tMake, tFld, rI, rI0, rU, rEq, rNe, rCat, gName, gTup, gCons, gNil, tPar, tPar3, tBM, tBM0, rAppend, rExtend, rPopAt, rIxL, rIxT, rIxS, tSl, rSlS, rSlL, tPart, tNoPart, iStr, iTup, iList, iRng1, tAug, ipI, L2.rAdd, L2.rSub, L2.rAddS, tChain, rIsB, rNotB, scal_ss, scal_ii, scal_bb, scal_nn, scal_in, scal_ni, tYes,
  cx_K, cx_N, List.getElem?_cons_zero, List.getElem?_cons_succ, List.set_cons_zero, List.set_cons_succ, List.nil_append, List.cons_append, List.append_nil, List.length_cons, List.length_nil, Nat.zero_add,
  Option.some.injEq, V.ref.injEq, V.int.injEq, V.str.injEq, V.bl.injEq, HO.ins.injEq, HO.lst.injEq, HO.tup.injEq, List.cons.injEq, exists_eq_left, exists_eq_left', exists_eq_right, exists_eq_right', and_true, true_and, exists_and_left, exists_and_right, and_assoc, decide_eq_true_eq, Bool.not_eq_true', decide_eq_false_iff_not, reduceCtorEq, exists_const, forall_const, if_true, if_false, false_and, and_false, ite_true, ite_false, Bool.true_eq_false, Bool.false_eq_true, Nat.reduceLeDiff, Nat.reduceAdd, small_line, small_lt, upd_ne, ne_eq, not_false_eq_true, Nat.zero_le, Prod.mk.injEq, upd_same, upd_upd, S_tl, S_len, S_app, S_one, S_inj,
  lk_breaks, lk_hard, lk_soft, lk_bend, lk_note, lk_rules, lk_state, lk_bent, lk_word, lk_begun, lk_opened, lk_place, pt_state, pt_bent, pt_word, pt_wordS, pt_wordN, pt_begun, pt_opened, pt_place, pt_place1, len_mf, litv_empty, litv_note, litv_nl, mf_inj, rf_inj, lkn_begin, lkn_ended, lkn_plain, lkn_quoted, lkn_step, lkn_fault, lkn_key, lkn_told, lkn_quotes, lkn_special, pt_open1, not_true_eq_false, not_false_eq_true])
local macro_rules | `(tactic| walk_at "rdh") => `(tactic| simp only [iEnum, iRng3, tRevL, rSlS, rSlL, gSub, rSetL, wipe, List.map_cons, List.map_nil, rAll, rAny, rIsi, tM1, tM0, iZipLT, iZip, iRng2, tLenSetS, rListStr, rMulS, rRep, rCntB, tRevS, rNeD, rEqD, tSeq, tNext, tAsg, tRet, tRetN, tDrop, tIfS, sFld, sFldAug, tVar, tC, tOp, tUn, tTest, tB, tAnd, tOr, tNot, tAndV, tOrV, tNotV, tIf, tTup, tLst, tCons, tNil, tCB, tCall, tMeth, tMake, tFld, rI, rI0, rU, rEq, rNe, rCat, gName, gTup, gCons, gNil, tPar, tPar3, tBM, tBM0, rAppend, rExtend, rPopAt, rIxL, rIxT, rIxS, tSl, rSlS, rSlL, tPart, tNoPart, iStr, iTup, iList, iRng1, tAug, ipI, L2.rAdd, L2.rSub, L2.rAddS, tChain, rIsB, rNotB, scal_ss, scal_ii, scal_bb, scal_nn, scal_in, scal_ni, tYes,
  cx_K, cx_N, List.getElem?_cons_zero, List.getElem?_cons_succ, List.set_cons_zero, List.set_cons_succ, List.nil_append, List.cons_append, List.append_nil, List.length_cons, List.length_nil, Nat.zero_add,
  Option.some.injEq, V.ref.injEq, V.int.injEq, V.str.injEq, V.bl.injEq, HO.ins.injEq, HO.lst.injEq, HO.tup.injEq, List.cons.injEq, exists_eq_left, exists_eq_left', exists_eq_right, exists_eq_right', and_true, true_and, exists_and_left, exists_and_right, and_assoc, decide_eq_true_eq, Bool.not_eq_true', decide_eq_false_iff_not, reduceCtorEq, exists_const, forall_const, if_true, if_false, false_and, and_false, ite_true, ite_false, Bool.true_eq_false, Bool.false_eq_true, Nat.reduceLeDiff, Nat.reduceAdd, small_line, small_lt, upd_ne, ne_eq, not_false_eq_true, Nat.zero_le, Prod.mk.injEq, upd_same, upd_upd, S_tl, S_len, S_app, S_one, S_inj,
  lk_breaks, lk_hard, lk_soft, lk_bend, lk_note, lk_rules, lk_state, lk_bent, lk_word, lk_begun, lk_opened, lk_place, pt_state, pt_bent, pt_word, pt_wordS, pt_wordN, pt_begun, pt_opened, pt_place, pt_place1, len_mf, litv_empty, litv_note, litv_nl, mf_inj, rf_inj, lkn_begin, lkn_ended, lkn_plain, lkn_quoted, lkn_step, lkn_fault, lkn_key, lkn_told, lkn_quotes, lkn_special, pt_open1, not_true_eq_false, not_false_eq_true, *])
local macro_rules | `(tactic| walk_at "pl") => `(tactic| (first | decide | (refine Nat.lt_of_le_of_lt (length_putF _ _ _) ?_; repeat (first | decide | refine pl2 ?_))))
local macro_rules | `(tactic| walk_at "al") => `(tactic| (intro p hp; generalize hH : upd _ p _ = H1; obtain ⟨S, e⟩ := gen_new hH hp; clear hH))
theorem while_rule {c : TT} {tb : TS} {D : Ends} {σ : St} {H : Hp} (W : Nat → St → Hp → Prop) (n0 : Nat) (h0 : W n0 σ H)
    (hs : ∀ n σ1 H1 (R : Bool → Hp → Prop), W n σ1 H1 →
      (∀ H2, tb { D with nx := fun σ' H' => ∃ n', n' < n ∧ W n' σ' H', ct := fun σ' H' => ∃ n', n' < n ∧ W n' σ' H', bk := D.nx } σ1 H2 → R true H2) → (∀ H2, D.nx σ1 H2 → R false H2) → c σ1 H1 R) : tWhile c tb D σ H := by
  refine ⟨W, ⟨n0, h0⟩, fun n σ1 H1 w => hs n σ1 H1 _ w (fun H2 q => ?_) fun H2 q => ?_⟩
  · exact iteT ⟨_, fun _ _ z => z, q⟩
  · exact iteF q
theorem tfor_it {wi : TI} {g : TG} {tb : TS} {D : Ends} {σ : St} {H H1 : Hp} {J : It} {n : Nat} {G : Hp → Prop} {Y : Nat → Hp → V → Hp → Prop} (hw : ∀ R : It → Hp → Prop, R J H1 → wi σ H R) (w : Walk J n G Y)
    (Pv : Nat → St → Hp → Prop) (h0 : Pv 0 σ H1) (hG : ∀ i σ H, i ≤ n → Pv i σ H → G H)
    (hs : ∀ i x σ H H', i < n → Pv i σ H → Y i H x H' → g x σ H' fun σ2 H2 => tb { D with nx := Pv (i + 1), ct := Pv (i + 1), bk := D.nx } σ2 H2) (hd : ∀ σ H, Pv n σ H → D.nx σ H) : tFor wi g tb D σ H :=
  hw _ (for_it w Pv h0 hG hs hd)
theorem tfor_all {ι : Type} {C : ι → Prop} {J : ι → It} {H1 : ι → Hp} {wi : TI} {g : TG} {tb : TS} {D : Ends} {σ : St} {H : Hp} (hw : ∀ R : It → Hp → Prop, (∀ x, C x → R (J x) (H1 x)) → wi σ H R)
    (h2 : ∀ x, C x → ∃ W : Nat → Nat → St → Hp → Prop, (∃ m, W 0 m σ (H1 x)) ∧ ∀ i m σ H, W i m σ H →
      ((J x).stop i H ∧ D.nx σ H) ∨ ((J x).go i H ∧ ∃ N : St → Hp → Prop, (∀ σ' H', N σ' H' → ∃ m', m' < m ∧ W (i + 1) m' σ' H') ∧ ∀ y H', (J x).yld i H y H' → g y σ H' fun σ2 H2 => tb { D with nx := N, ct := N, bk := D.nx } σ2 H2)) : tFor wi g tb D σ H := hw _ h2
theorem _root_.Qw.Kp.mut {p q : Addr} {H H' : Hp} {o : HO} (k : Kp p H H') (h : H q = none) : Kp p H (L2.upd H' q o) := fun b u e n => by
  rw [upd_ne (ne_of_none e h)]
  exact k b u e n
theorem map_eraseIdx' {α β : Type} (f : α → β) : ∀ (l : List α) (i : Nat), (l.map f).eraseIdx i = (l.eraseIdx i).map f
  | [], _ => rfl
  | _ :: _, 0 => rfl
  | a :: l, i + 1 => by
    show f a :: (l.map f).eraseIdx i = f a :: (l.eraseIdx i).map f
    rw [map_eraseIdx' f l i]
theorem perm_eraseIdx {α : Type} : ∀ {l : List α} {i : Nat} (h : i < l.length), (l[i] :: l.eraseIdx i).Perm l
  | _ :: _, 0, _ => List.Perm.refl _
  | a :: l, i + 1, h => by
    have h' : i < l.length := by simpa using h
    exact (List.Perm.swap a l[i] (l.eraseIdx i)).trans (List.Perm.cons a (perm_eraseIdx h'))
theorem at_in {α : Type} {xs : List α} {k : Int} (h0 : 0 ≤ k) (h : k < xs.length) : ∃ (j : Nat) (hj : j < xs.length), k = (j : Int) ∧ atI xs k = some xs[j] := by
  have hj : k.toNat < xs.length := by omega
  refine ⟨k.toNat, hj, by omega, ?_⟩
  have := atI_nat (xs := xs) (j := k.toNat) (v := xs[k.toNat]) (by simp [hj])
  rwa [show ((k.toNat : Nat) : Int) = k by omega] at this
theorem bi_Rules_init {K : PySem.W.Frag} {mg : Str → Option Value} {a : Ad} (T : Txt K mg a) : Binds K a.d_Rules_init P_Rules_init [] := by
  obtain ⟨ds, h1, h2⟩ := T.F_Rules_init.binds1 (ps := P_Rules_init) 6 5 (by decide) rfl fun T kV doc pm an cdv ct us its h1 h2 =>
    match us, h1, its, h2 with
    | [_, _, _, _, _, _], _, [_, _, _, _, _], _ => ⟨_, rfl, rfl⟩
  cases h1
  exact h2
theorem bi_Rules_init0 {K : PySem.W.Frag} {mg : Str → Option Value} {a : Ad} (T : Txt K mg a) : ∃ ds, Vals [.str (" " : Str), .str ("'" : Str), .str ("\"" : Str), .str ("\\" : Str), .str ("#" : Str)] ds ∧ Binds K a.d_Rules_init P_Rules_init ds :=
  T.F_Rules_init.binds1 (ps := P_Rules_init) 1 0 (by decide) rfl fun T kV doc pm an cdv ct us its h1 h2 =>
    match us, h1, its, h2 with
    | [_], _, [_, _, _, _, _], _ => ⟨_, rfl, rfl⟩
section
variable {P : Program} {w : World} {K : PySem.W.Frag} {mg : Str → Option Value} {base : Heap} {a : Ad}
/-! ### drawn numbers -/
end
end Qw

set_option Elab.async false
set_option linter.all false
set_option maxRecDepth 100000
set_option maxHeartbeats 4000000
namespace Qw
open PySem L2
local macro_rules | `(tactic| walk_at "rd") => `(tactic| simp only [iEnum, iRng3, tRevL, rSlS, rSlL, gSub, rSetL, wipe, List.map_cons, List.map_nil, rAll, rAny, rIsi, tM1, tM0, iZipLT, iZip, iRng2, tLenSetS, rListStr, rMulS, rRep, rCntB, tRevS, rNeD, rEqD, tSeq, tNext, tAsg, tRet, tRetN, tDrop, tIfS, sFld, sFldAug, tVar, tC, tOp, tUn, tTest, tB, tAnd, tOr, tNot, tAndV, tOrV, tNotV, tIf, tTup, tLst, tCons, tNil, tCB, tCall, tMeth, tMake, tFld, rI, rI0, rU, rEq, rNe, rCat, gName, gTup, gCons, gNil, tPar, tPar3, tBM, tBM0, rAppend, rExtend, rPopAt, rIxL, rIxT, rIxS, tSl, rSlS, rSlL, tPart, tNoPart, iStr, iTup, iList, iRng1, tAug, ipI, L2.rAdd, L2.rSub, L2.rAddS, tChain, rIsB, rNotB, scal_ss, scal_ii, scal_bb, scal_nn, scal_in, scal_ni, tYes,
  cx_K, cx_N, List.getElem?_cons_zero, List.getElem?_cons_succ, List.set_cons_zero, List.set_cons_succ, List.nil_append, List.cons_append, List.append_nil, List.length_cons, List.length_nil, Nat.zero_add,
  Option.some.injEq, V.ref.injEq, V.int.injEq, V.str.injEq, V.bl.injEq, HO.ins.injEq, HO.lst.injEq, HO.tup.injEq, List.cons.injEq, exists_eq_left, exists_eq_left', exists_eq_right, exists_eq_right', and_true, true_and, exists_and_left, exists_and_right, and_assoc, decide_eq_true_eq, Bool.not_eq_true', decide_eq_false_iff_not, reduceCtorEq, exists_const, forall_const, if_true, if_false, false_and, and_false, ite_true, ite_false, Bool.true_eq_false, Bool.false_eq_true, Nat.reduceLeDiff, Nat.reduceAdd, small_line, small_lt, upd_ne, ne_eq, not_false_eq_true, Nat.zero_le, Prod.mk.injEq, upd_same, upd_upd, S_tl, S_len, S_app, S_one, S_inj,
  lk_breaks, lk_hard, lk_soft, lk_bend, lk_note, lk_rules, lk_state, lk_bent, lk_word, lk_begun, lk_opened, lk_place, pt_state, pt_bent, pt_word, pt_wordS, pt_wordN, pt_begun, pt_opened, pt_place, pt_place1, len_mf, litv_empty, litv_note, litv_nl, mf_inj, rf_inj, lkn_begin, lkn_ended, lkn_plain, lkn_quoted, lkn_step, lkn_fault, lkn_key, lkn_told, lkn_quotes, lkn_special, pt_open1, not_true_eq_false, not_false_eq_true])
local macro_rules | `(tactic| walk_at "rdh") => `(tactic| simp only [iEnum, iRng3, tRevL, rSlS, rSlL, gSub, rSetL, wipe, List.map_cons, List.map_nil, rAll, rAny, rIsi, tM1, tM0, iZipLT, iZip, iRng2, tLenSetS, rListStr, rMulS, rRep, rCntB, tRevS, rNeD, rEqD, tSeq, tNext, tAsg, tRet, tRetN, tDrop, tIfS, sFld, sFldAug, tVar, tC, tOp, tUn, tTest, tB, tAnd, tOr, tNot, tAndV, tOrV, tNotV, tIf, tTup, tLst, tCons, tNil, tCB, tCall, tMeth, tMake, tFld, rI, rI0, rU, rEq, rNe, rCat, gName, gTup, gCons, gNil, tPar, tPar3, tBM, tBM0, rAppend, rExtend, rPopAt, rIxL, rIxT, rIxS, tSl, rSlS, rSlL, tPart, tNoPart, iStr, iTup, iList, iRng1, tAug, ipI, L2.rAdd, L2.rSub, L2.rAddS, tChain, rIsB, rNotB, scal_ss, scal_ii, scal_bb, scal_nn, scal_in, scal_ni, tYes,
  cx_K, cx_N, List.getElem?_cons_zero, List.getElem?_cons_succ, List.set_cons_zero, List.set_cons_succ, List.nil_append, List.cons_append, List.append_nil, List.length_cons, List.length_nil, Nat.zero_add,
  Option.some.injEq, V.ref.injEq, V.int.injEq, V.str.injEq, V.bl.injEq, HO.ins.injEq, HO.lst.injEq, HO.tup.injEq, List.cons.injEq, exists_eq_left, exists_eq_left', exists_eq_right, exists_eq_right', and_true, true_and, exists_and_left, exists_and_right, and_assoc, decide_eq_true_eq, Bool.not_eq_true', decide_eq_false_iff_not, reduceCtorEq, exists_const, forall_const, if_true, if_false, false_and, and_false, ite_true, ite_false, Bool.true_eq_false, Bool.false_eq_true, Nat.reduceLeDiff, Nat.reduceAdd, small_line, small_lt, upd_ne, ne_eq, not_false_eq_true, Nat.zero_le, Prod.mk.injEq, upd_same, upd_upd, S_tl, S_len, S_app, S_one, S_inj,
  lk_breaks, lk_hard, lk_soft, lk_bend, lk_note, lk_rules, lk_state, lk_bent, lk_word, lk_begun, lk_opened, lk_place, pt_state, pt_bent, pt_word, pt_wordS, pt_wordN, pt_begun, pt_opened, pt_place, pt_place1, len_mf, litv_empty, litv_note, litv_nl, mf_inj, rf_inj, lkn_begin, lkn_ended, lkn_plain, lkn_quoted, lkn_step, lkn_fault, lkn_key, lkn_told, lkn_quotes, lkn_special, pt_open1, not_true_eq_false, not_false_eq_true, *])
local macro_rules | `(tactic| walk_at "pl") => `(tactic| (first | decide | (refine Nat.lt_of_le_of_lt (length_putF _ _ _) ?_; repeat (first | decide | refine pl2 ?_))))
local macro_rules | `(tactic| walk_at "al") => `(tactic| (intro p hp; generalize hH : upd _ p _ = H1; obtain ⟨S, e⟩ := gen_new hH hp; clear hH))
theorem atI_S {t : Tx} {z : Int} (h0 : 0 ≤ z) (h : z < t.length) : ∃ (j : Nat) (hj : j < t.length), z = (j : Int) ∧ atI (S t).cps.toList z = some t[j] := by
  rw [S_tl]
  exact at_in h0 h
theorem atI_S' {t : Tx} {j c : Nat} (h : t[j]? = some c) : atI (S t).cps.toList (j : Int) = some c := by
  rw [S_tl]
  exact atI_nat h
theorem tseq_split {A B : TS} {D : Ends} {σ : St} {H : Hp} (Mid : St → Hp → Prop) (h1 : ∀ N : St → Hp → Prop, (∀ σ' H', Mid σ' H' → N σ' H') → A { D with nx := N } σ H) (h2 : ∀ σ' H', Mid σ' H' → B D σ' H') : tSeq A B D σ H := h1 _ h2
section
variable {P : Program} {w : World} {K : PySem.W.Frag} {mg : Str → Option Value} {base : Heap} {a : Ad}
end
end Qw

set_option Elab.async false
set_option linter.all false
set_option maxRecDepth 100000
set_option maxHeartbeats 4000000
namespace Qw
open PySem L2
/-! pieces of lists and texts, comprehensions told by a relation (for the laws but k01, where QwLawD and QwLawE hold them) -/
theorem cut_from (xs : List V) (k : Nat) : cutV xs (some (k : Int)) none = xs.drop k := by
  unfold cutV
  rw [HT.sIx_nat, HT.sIx_none]
  rcases Nat.le_total k xs.length with h | h
  · rw [Nat.min_eq_left h]
    exact List.take_of_length_le (by rw [List.length_drop]; exact Nat.le_refl _)
  · rw [Nat.min_eq_right h, List.drop_eq_nil_of_le (Nat.le_refl _), List.drop_eq_nil_of_le h]
    simp
theorem cutS_from (l : Tx) (k : Nat) : cutS (S l) (some (k : Int)) none = S (l.drop k) := by
  unfold cutS
  rw [S_len, HT.sIx_nat, HT.sIx_none]
  rcases Nat.le_total k l.length with h | h
  · rw [Nat.min_eq_left h]
    refine congrArg S ?_
    exact List.take_of_length_le (by rw [List.length_drop]; exact Nat.le_refl _)
  · rw [Nat.min_eq_right h]
    refine congrArg S ?_
    show (l.drop l.length).take _ = _
    rw [List.drop_eq_nil_of_le (Nat.le_refl _), List.drop_eq_nil_of_le h]
    simp
theorem cut_to (xs : List V) (k : Nat) : cutV xs none (some (k : Int)) = xs.take k := by
  unfold cutV
  rw [HT.sIx_nat, HT.sIx_none, List.drop_zero, Nat.sub_zero]
  rcases Nat.le_total k xs.length with h | h
  · rw [Nat.min_eq_left h]
  · rw [Nat.min_eq_right h, List.take_of_length_le (Nat.le_refl _), List.take_of_length_le h]
theorem Paired.rev {α β : Type} {F : α → β → Prop} : ∀ {l : List α} {m : List β}, Paired F l m → Paired F l.reverse m.reverse
  | _, _, .nil => .nil
  | _, _, .cons r t => by
    rw [List.reverse_cons, List.reverse_cons]
    exact Paired.app (Paired.rev t) (.cons r .nil)
theorem Paired.drop' {α β : Type} {F : α → β → Prop} : ∀ {l : List α} {m : List β} (k : Nat), Paired F l m → Paired F (l.drop k) (m.drop k)
  | _, _, 0, h => h
  | _, _, _ + 1, .nil => .nil
  | _, _, k + 1, .cons _ t => Paired.drop' k t
theorem Paired.take' {α β : Type} {F : α → β → Prop} : ∀ {l : List α} {m : List β} (k : Nat), Paired F l m → Paired F (l.take k) (m.take k)
  | _, _, 0, _ => by simp only [List.take_zero]; exact .nil
  | _, _, _ + 1, .nil => .nil
  | _, _, k + 1, .cons r t => .cons r (Paired.take' k t)
theorem kp_free {st p : Addr} {H H' : Hp} {o : HO} (k : Kp st H H') (hs : H' st = some o) (hp : H' p = none) : H p = none := by
  cases e : H p with
  | none => rfl
  | some u =>
    have := k _ _ e fun z => by rw [z, hs] at hp; cases hp
    rw [hp] at this; cases this
theorem fresh_ne {H : Hp} {p st : Addr} {o : HO} (hs : H st = some o) (hp : H p = none) : p ≠ st := Ne.symm (ne_of_none hs hp)
theorem cutS_to (l : Tx) (k : Nat) : cutS (S l) none (some (k : Int)) = S (l.take k) := by
  unfold cutS
  rw [S_len, HT.sIx_nat, HT.sIx_none]
  rcases Nat.le_total k l.length with h | h
  · rw [Nat.min_eq_left h]
    rfl
  · rw [Nat.min_eq_right h]
    refine congrArg S ?_
    show (l.drop 0).take _ = _
    rw [List.drop_zero, Nat.sub_zero, List.take_of_length_le (Nat.le_refl _), List.take_of_length_le h]
theorem lc_rel {α : Type} {J : It} {G : Hp → Prop} {Y : Nat → Hp → V → Hp → Prop} {g : TG} {tt : TT} {te : TE} {vs : List Nat} {σ : St} {H1 : Hp} {D : Addr} {Qd : Hp → Prop}
    (as : List α) (F : Hp → V → α → Prop) (mono : ∀ {p : Addr} {H H' : Hp} {v : V} {x : α}, Kp p H H' → (∃ xs, H p = some (.lst xs)) → F H v x → F H' v x)
    (w : Walk J as.length G Y) (hz : as.length ≤ 1000000) (h1 : H1 D = none) (hG : ∀ H, Same H1 H → G H)
    (hs : ∀ (R : VK) (R' : Hp → Prop) i a x H H', as[i]? = some a → Same H1 H → Y i H x H' → (∀ y H4, Same H H4 → F H4 y a → R y H4) →
      g x (wipe σ vs) H' fun σ2 H2 => wipe σ2 vs = wipe σ vs ∧ tt σ2 H2 fun b H3 => if b = true then te σ2 H3 R else R' H3)
    (hd : ∀ H ys, Same H1 H → H D = some (.lst ys) → Paired (F H) ys as → Qd H) :
    ∃ W : Nat → Nat → Hp → Prop, (∃ m, W 0 m (upd H1 D (.lst []))) ∧ ∀ i m H, W i m H →
      (J.stop i H ∧ Qd H) ∨ (J.go i H ∧ ∃ Nx : Hp → Prop, (∀ H', Nx H' → ∃ m', m' < m ∧ W (i + 1) m' H') ∧ ∀ x H', J.yld i H x H' → g x (wipe σ vs) H' fun σ2 H2 => wipe σ2 vs = wipe σ vs ∧ tt σ2 H2 fun b H3 =>
        if b = true then te σ2 H3 fun y H4 => ∃ acc, H4 D = some (.lst acc) ∧ acc.length < sizeLine ∧ Nx (upd H4 D (.lst (acc ++ [y]))) else Nx H3) := by
  refine lc_it w (fun i H => Same H1 H ∧ ∃ ys, H D = some (.lst ys) ∧ Paired (F H) ys (as.take i)) ⟨same_new h1, [], upd_same, by simp only [List.take_zero]; exact .nil⟩ (fun _ H _ p => hG H p.1) ?_ fun H p => by
    obtain ⟨p1, ys, p2, p3⟩ := p
    rw [List.take_length] at p3
    exact hd H ys p1 p2 p3
  rintro i x H H' hi ⟨p1, ys, p2, p3⟩ y
  obtain ⟨a, ha⟩ : ∃ a, as[i]? = some a := ⟨as[i], List.getElem?_eq_getElem hi⟩
  refine hs _ _ i a x H H' ha p1 y fun z H4 s4 f4 => ⟨_, s4 _ _ p2, ?_, ?_, _, upd_same, ?_⟩
  · rw [p3.length, List.length_take]
    exact Nat.lt_of_lt_of_le (show min i as.length < 1000001 by omega) (by decide)
  · exact Same.mut (p1.trans s4) h1
  · have kq : Kp D H4 (upd H4 D (.lst (ys ++ [z]))) := kp_upd
    rw [take_at ha]
    exact Paired.app (Paired.mapP p3 fun _ _ f => mono kq ⟨_, s4 _ _ p2⟩ (mono (s4.kp D) ⟨_, p2⟩ f)) (.cons (mono kq ⟨_, s4 _ _ p2⟩ f4) .nil)
theorem tlc_all {ι : Type} {C : ι → Prop} {J : ι → It} {H1 : ι → Hp} {wi : TI} {g : TG} {tt : TT} {te : TE} {vs : List Nat} {σ : St} {H : Hp} {Q : VK} (hw : ∀ R : It → Hp → Prop, (∀ x, C x → R (J x) (H1 x)) → wi σ H R)
    (h2 : ∀ x, C x → ∀ D, H1 x D = none → ∃ W : Nat → Nat → Hp → Prop, (∃ m, W 0 m (upd (H1 x) D (.lst []))) ∧ ∀ i m H, W i m H →
      ((J x).stop i H ∧ Q (.ref D) H) ∨ ((J x).go i H ∧ ∃ Nx : Hp → Prop, (∀ H', Nx H' → ∃ m', m' < m ∧ W (i + 1) m' H') ∧ ∀ y H', (J x).yld i H y H' → g y (wipe σ vs) H' fun σ2 H2 => wipe σ2 vs = wipe σ vs ∧ tt σ2 H2 fun b H3 =>
        if b = true then te σ2 H3 fun y H4 => ∃ acc, H4 D = some (.lst acc) ∧ acc.length < sizeLine ∧ Nx (upd H4 D (.lst (acc ++ [y]))) else Nx H3)) : tLc wi g tt te vs σ H Q := hw _ h2
end Qw

set_option Elab.async false
set_option linter.all false
set_option maxRecDepth 100000
set_option maxHeartbeats 4000000
namespace Qw
open PySem L2
/-! answers, for the laws but k01 -/
theorem pe_fldK {X : Cx} {K : PySem.W.Frag} {e : Expr} {f : Str} {ta : TE} {pos : Pos} (h : X.K = K) (he : PE X e ta) (hb : attributeBase e f X.env (eval e X.env) = eval e X.env) : PE X (.Attribute e f pos) (tFld K ta f) := by
  subst h
  exact pe_fld he hb
theorem SqT.same {K : PySem.W.Frag} {H H' : Hp} {p : Addr} {xs : List V} (s : Same H H') (h : SqT K H p xs) : SqT K H' p xs := by
  rcases h with (h | ⟨o, h⟩) | h
  · exact .inl (.inl (s _ _ h))
  · exact .inl (.inr ⟨o, s _ _ h⟩)
  · exact .inr h
mutual
theorem Dp.same {K : PySem.W.Frag} {H H' : Hp} (s : Same H H') : ∀ (d : PyData) (v : V), Dp K H v d → Dp K H' v d
  | .none, _, h => by cases h; exact .non
  | .bool _, _, h => by cases h; exact .bl _
  | .int _, _, h => by cases h; exact .int _
  | .str _, _, h => by cases h; exact .str _
  | .list ds, _, h => by
    cases h with
    | lst hs ha => exact .lst (s.seq hs) (DpAll.same s ds _ ha)
  | .tuple ds, _, h => by
    cases h with
    | tup hs ha => exact .tup (SqT.same s hs) (DpAll.same s ds _ ha)
  | .dict _, _, h => by cases h
theorem DpAll.same {K : PySem.W.Frag} {H H' : Hp} (s : Same H H') : ∀ (ds : List PyData) (vs : List V), DpAll K H vs ds → DpAll K H' vs ds
  | [], _, h => by cases h; exact .nil
  | d :: ds, _, h => by
    cases h with
    | cons h1 h2 => exact .cons (Dp.same s d _ h1) (DpAll.same s ds _ h2)
end
section
variable {P : Program} {w : World} {K : PySem.W.Frag} {mg : Str → Option Value} {base : Heap} {a : Ad}
theorem ty_Words (T : Txt K mg a) {H : Hp} {p dx : Addr} {fs : List (Str × V)} (h : H p = some (.ins a.c_Words dx fs)) : TyX K H (.ref p) (.ref a.c_Words) :=
  .base (.ins h T.c_Words.cl T.i_Words.ha T.i_Words.hn T.i_Words.ht T.i_Words.hm)
theorem ty_Fault (T : Txt K mg a) {H : Hp} {p dx : Addr} {fs : List (Str × V)} (h : H p = some (.ins a.c_Fault dx fs)) : TyX K H (.ref p) (.ref a.c_Fault) :=
  .base (.ins h T.c_Fault.cl T.i_Fault.ha T.i_Fault.hn T.i_Fault.ht T.i_Fault.hm)
/-- an answer at p -/
def Ans (a : Ad) (H : Hp) (p : Addr) (x : Told) : Prop := match x with
  | .error n => ∃ dx, H p = some (.ins a.c_Fault dx [("place", .int n)])
  | .ok (ws, ps) => ∃ dx l1 l2 ys, H p = some (.ins a.c_Words dx (WF l1 l2)) ∧ H l1 = some (.lst (ws.map fun w => .str (S w))) ∧ H l2 = some (.lst ys) ∧ Paired (Pls H) ys ps
theorem Ansd.ans {H H' : Hp} {p : Addr} {x : Told} (h : Ansd a H H' p x) : Ans a H' p x := by
  cases x with
  | error n => exact h
  | ok z =>
    obtain ⟨ws, ps⟩ := z
    obtain ⟨dx, l1, l2, ys, h1, h2, h3, h4, _⟩ := h
    exact ⟨dx, l1, l2, ys, h1, h2, h3, h4⟩
theorem Ans.same {H H' : Hp} {p : Addr} {x : Told} (h : Ans a H p x) (s : Same H H') : Ans a H' p x := by
  cases x with
  | error n =>
    obtain ⟨dx, h⟩ := h
    exact ⟨dx, s _ _ h⟩
  | ok z =>
    obtain ⟨ws, ps⟩ := z
    obtain ⟨dx, l1, l2, ys, h1, h2, h3, h4⟩ := h
    exact ⟨dx, l1, l2, ys, s _ _ h1, s _ _ h2, s _ _ h3, Paired.mapP h4 fun _ _ z => z.mono fun b xs => s b _⟩
def isOk : Told → Bool
  | .error _ => false
  | .ok _ => true
def clsOf (a : Ad) : Told → Addr
  | .error _ => a.c_Fault
  | .ok _ => a.c_Words
theorem clsOf_cl (T : Txt K mg a) (x : Told) : Cls K (clsOf a x) := by
  cases x
  · exact T.c_Fault.cl
  · exact T.c_Words.cl
theorem clsOf_k (T : Txt K mg a) (x : Told) : PySem.W.kitOne K (.ref (clsOf a x)) (.ref a.c_Words) = some (isOk x) := by
  cases x
  · exact T.k_FW
  · exact T.k_WW
theorem Ans.ty (T : Txt K mg a) {H : Hp} {p : Addr} {x : Told} (h : Ans a H p x) : TyX K H (.ref p) (.ref (clsOf a x)) := by
  cases x with
  | error n =>
    obtain ⟨dx, h⟩ := h
    exact ty_Fault T h
  | ok z =>
    obtain ⟨dx, l1, l2, ys, h1, _⟩ := h
    exact ty_Words T h1
theorem few_quotes {r : RS} (ok : r.Ok) : r.hard.length + r.soft.length ≤ 100 := by have h1 := ok.l2; have h2 := ok.l3; omega
theorem shown_bool (b : Bool) : (PyData.list [.bool b]).showable = true ∧ (PyData.list [.bool b]).hasDict = false ∧ (PyData.list [.bool b]).depth ≤ 32 ∧ (PyData.list [.bool b]).shown.length ≤ sizeLine := by
  cases b <;> exact ⟨by decide, by decide, by decide, by decide +kernel⟩
end
end Qw

set_option Elab.async false
set_option linter.all false
set_option maxRecDepth 100000
set_option maxHeartbeats 4000000
namespace Qw
open PySem L2
local macro_rules | `(tactic| walk_at "rd") => `(tactic| simp only [iEnum, iRng3, tRevL, rSlS, rSlL, gSub, rSetL, wipe, List.map_cons, List.map_nil, rAll, rAny, rIsi, tM1, tM0, iZipLT, iZip, iRng2, tLenSetS, rListStr, rMulS, rRep, rCntB, tRevS, rNeD, rEqD, tSeq, tNext, tAsg, tRet, tRetN, tDrop, tIfS, sFld, sFldAug, tVar, tC, tOp, tUn, tTest, tB, tAnd, tOr, tNot, tAndV, tOrV, tNotV, tIf, tTup, tLst, tCons, tNil, tCB, tCall, tMeth, tMake, tFld, rI, rI0, rU, rEq, rNe, rCat, gName, gTup, gCons, gNil, tPar, tPar3, tBM, tBM0, rAppend, rExtend, rPopAt, rIxL, rIxT, rIxS, tSl, rSlS, rSlL, tPart, tNoPart, iStr, iTup, iList, iRng1, tAug, ipI, L2.rAdd, L2.rSub, L2.rAddS, tChain, rIsB, rNotB, scal_ss, scal_ii, scal_bb, scal_nn, scal_in, scal_ni, tYes,
  cx_K, cx_N, List.getElem?_cons_zero, List.getElem?_cons_succ, List.set_cons_zero, List.set_cons_succ, List.nil_append, List.cons_append, List.append_nil, List.length_cons, List.length_nil, Nat.zero_add,
  Option.some.injEq, V.ref.injEq, V.int.injEq, V.str.injEq, V.bl.injEq, HO.ins.injEq, HO.lst.injEq, HO.tup.injEq, List.cons.injEq, exists_eq_left, exists_eq_left', exists_eq_right, exists_eq_right', and_true, true_and, exists_and_left, exists_and_right, and_assoc, decide_eq_true_eq, Bool.not_eq_true', decide_eq_false_iff_not, reduceCtorEq, exists_const, forall_const, if_true, if_false, false_and, and_false, ite_true, ite_false, Bool.true_eq_false, Bool.false_eq_true, Nat.reduceLeDiff, Nat.reduceAdd, small_line, small_lt, upd_ne, ne_eq, not_false_eq_true, Nat.zero_le, Prod.mk.injEq, upd_same, upd_upd, S_tl, S_len, S_app, S_one, S_inj,
  lk_breaks, lk_hard, lk_soft, lk_bend, lk_note, lk_rules, lk_state, lk_bent, lk_word, lk_begun, lk_opened, lk_place, pt_state, pt_bent, pt_word, pt_wordS, pt_wordN, pt_begun, pt_opened, pt_place, pt_place1, len_mf, litv_empty, litv_note, litv_nl, mf_inj, rf_inj, lkn_begin, lkn_ended, lkn_plain, lkn_quoted, lkn_step, lkn_fault, lkn_key, lkn_told, lkn_quotes, lkn_special, pt_open1, not_true_eq_false, not_false_eq_true])
local macro_rules | `(tactic| walk_at "rdh") => `(tactic| simp only [iEnum, iRng3, tRevL, rSlS, rSlL, gSub, rSetL, wipe, List.map_cons, List.map_nil, rAll, rAny, rIsi, tM1, tM0, iZipLT, iZip, iRng2, tLenSetS, rListStr, rMulS, rRep, rCntB, tRevS, rNeD, rEqD, tSeq, tNext, tAsg, tRet, tRetN, tDrop, tIfS, sFld, sFldAug, tVar, tC, tOp, tUn, tTest, tB, tAnd, tOr, tNot, tAndV, tOrV, tNotV, tIf, tTup, tLst, tCons, tNil, tCB, tCall, tMeth, tMake, tFld, rI, rI0, rU, rEq, rNe, rCat, gName, gTup, gCons, gNil, tPar, tPar3, tBM, tBM0, rAppend, rExtend, rPopAt, rIxL, rIxT, rIxS, tSl, rSlS, rSlL, tPart, tNoPart, iStr, iTup, iList, iRng1, tAug, ipI, L2.rAdd, L2.rSub, L2.rAddS, tChain, rIsB, rNotB, scal_ss, scal_ii, scal_bb, scal_nn, scal_in, scal_ni, tYes,
  cx_K, cx_N, List.getElem?_cons_zero, List.getElem?_cons_succ, List.set_cons_zero, List.set_cons_succ, List.nil_append, List.cons_append, List.append_nil, List.length_cons, List.length_nil, Nat.zero_add,
  Option.some.injEq, V.ref.injEq, V.int.injEq, V.str.injEq, V.bl.injEq, HO.ins.injEq, HO.lst.injEq, HO.tup.injEq, List.cons.injEq, exists_eq_left, exists_eq_left', exists_eq_right, exists_eq_right', and_true, true_and, exists_and_left, exists_and_right, and_assoc, decide_eq_true_eq, Bool.not_eq_true', decide_eq_false_iff_not, reduceCtorEq, exists_const, forall_const, if_true, if_false, false_and, and_false, ite_true, ite_false, Bool.true_eq_false, Bool.false_eq_true, Nat.reduceLeDiff, Nat.reduceAdd, small_line, small_lt, upd_ne, ne_eq, not_false_eq_true, Nat.zero_le, Prod.mk.injEq, upd_same, upd_upd, S_tl, S_len, S_app, S_one, S_inj,
  lk_breaks, lk_hard, lk_soft, lk_bend, lk_note, lk_rules, lk_state, lk_bent, lk_word, lk_begun, lk_opened, lk_place, pt_state, pt_bent, pt_word, pt_wordS, pt_wordN, pt_begun, pt_opened, pt_place, pt_place1, len_mf, litv_empty, litv_note, litv_nl, mf_inj, rf_inj, lkn_begin, lkn_ended, lkn_plain, lkn_quoted, lkn_step, lkn_fault, lkn_key, lkn_told, lkn_quotes, lkn_special, pt_open1, not_true_eq_false, not_false_eq_true, *])
local macro_rules | `(tactic| walk_at "pl") => `(tactic| (first | decide | (refine Nat.lt_of_le_of_lt (length_putF _ _ _) ?_; repeat (first | decide | refine pl2 ?_))))
local macro_rules | `(tactic| walk_at "al") => `(tactic| (intro p hp; generalize hH : upd _ p _ = H1; obtain ⟨S, e⟩ := gen_new hH hp; clear hH))
/-! ### states, costs -/
abbrev So := Option Nat
def sT : So → Tx
  | none => []
  | some q => [q]
def RS.sts (r : RS) : List So := none :: r.quotes.map some
def RS.spec (r : RS) : Tx := r.breaks ++ (r.quotes ++ (r.bend ++ r.note))
def costT (r : RS) : So → Nat → Option Nat
  | none, c => if c ∈ r.spec then (if r.bend ≠ [] then some 2 else none) else some 1
  | some q, c => if q ∈ r.hard then (if c ≠ q then some 1 else none) else if c ≠ q ∧ c ∉ r.bend then some 1 else if r.bend ≠ [] then some 2 else none
theorem few_q {r : RS} (ok : r.Ok) : r.hard.length + r.soft.length ≤ 100 := by have h1 := ok.l2; have h2 := ok.l3; omega
theorem line_le {n : Nat} (h : n ≤ 1000) : n ≤ sizeLine := Nat.le_trans h (by decide)
theorem RS.quotes_len {r : RS} (ok : r.Ok) : r.quotes.length ≤ 4 := by have h1 := ok.l2; have h2 := ok.l3; simp only [RS.quotes, List.length_append]; omega
/-- the lesser of the plain number and one more than any quoted one -/
def lowT (x : Nat) (xs : List Nat) : Nat := xs.foldl (fun m y => min m (y + 1)) x
theorem low_spec : ∀ (xs : List Nat) (x : Nat), lowT x xs ≤ x ∧ (∀ y ∈ xs, lowT x xs ≤ y + 1) ∧ (lowT x xs = x ∨ ∃ y ∈ xs, lowT x xs = y + 1)
  | [], x => ⟨Nat.le_refl _, fun y h => by simp at h, .inl rfl⟩
  | z :: xs, x => by
    obtain ⟨h1, h2, h3⟩ := low_spec xs (min x (z + 1))
    have e : lowT x (z :: xs) = lowT (min x (z + 1)) xs := rfl
    rw [e]
    refine ⟨by omega, fun y hy => ?_, ?_⟩
    · rcases List.mem_cons.mp hy with rfl | hy
      · omega
      · exact h2 y hy
    · rcases h3 with h | ⟨y, hy, h⟩
      · by_cases q : x ≤ z + 1
        · exact .inl (by omega)
        · exact .inr ⟨z, List.mem_cons_self, by omega⟩
      · exact .inr ⟨y, List.mem_cons_of_mem _ hy, h⟩
def enteredT : List Nat → List Nat
  | [] => []
  | x :: xs => lowT x xs :: xs.map fun y => min y (lowT x xs + 1)
section
variable {P : Program} {w : World} {K : PySem.W.Frag} {mg : Str → Option Value} {base : Heap} {a : Ad}
def sp_special (a : Ad) : Sp := fun vs H Q _ => ∃ p dr r c, vs = [.ref p, .str (S [c])] ∧ H p = some (.ins a.c_Rules dr (RS.f r)) ∧ r.Ok ∧ ∀ H', Same H H' → Q (.bl (decide (c ∈ r.spec))) H'
theorem ok_Rules_special (T : Txt K mg a) : FnOk P w K mg base CX0 2 a.f_Rules_special a.d_Rules_special P_Rules_special (sp_special a) := by
  refine T.F_Rules_special.ok sc_Rules_special (fun vs H Q E h => ?_) (fun cdv A outer s H vs Q E hr h => ?_)
  · obtain ⟨p, dr, r, c, rfl, _⟩ := h
    rfl
  · obtain ⟨p, dr, r, c, rfl, hR, ok, k⟩ := h
    have G_Rules_quotes := ok_Rules_quotes (P := P) (w := w) (base := base) T
    have B_Rules_quotes := bi_Rules_quotes T
    refine ⟨_,
(pss_one (ps_ret (pe_cmpR op_in_sign (pv 1) (pe_op op_add_str (pe_op op_add_str (pe_op op_add_str (pe_fld (pv 0) rfl) (pe_meth0 (pv 0) T.c_Rules.cl T.m_Rules_quotes G_Rules_quotes (hr.mono (by decide)) B_Rules_quotes .nil pass0)) (pe_fld (pv 0) rfl)) (pe_fld (pv 0) rfl)) rfl)))
      , ?_⟩
    rw [show start N_Rules_special [V.ref p, V.str (S [c])] = [some (.ref p), some (.str (S [c]))] from rfl]
    have hc := T.c_Rules.cl
    have n1 := T.n_Rules_breaks
    have n2 := T.n_Rules_hard
    have n4 := T.n_Rules_bend
    have n5 := T.n_Rules_note
    walk_at "rdh"
    have l1 := ok.l1
    have l4 := ok.l4
    have l5 := ok.l5
    have l6 := r.quotes_len ok
    refine ⟨p, dr, r, rfl, hR, few_q ok, ?_⟩
    walk_at "rdh"
    have k := k H (Same.refl H)
    rw [show r.spec = r.breaks ++ r.quotes ++ r.bend ++ r.note by simp [RS.spec]] at k
    refine ⟨line_le (by omega), line_le (by simp only [List.length_append]; omega), line_le (by simp only [List.length_append]; omega), k⟩
def sp_states_of (a : Ad) : Sp := fun vs H Q _ => ∃ p dr r, vs = [.ref p] ∧ H p = some (.ins a.c_Rules dr (RS.f r)) ∧ r.Ok ∧ ∀ l H', H l = none → Same H H' → H' l = some (.lst (r.sts.map fun s => .str (S (sT s)))) → Q (.ref l) H'
theorem ok_states_of (T : Txt K mg a) : FnOk P w K mg base CX0 2 a.f_states_of a.d_states_of P_states_of (sp_states_of a) := by
  refine T.F_states_of.ok sc_states_of (fun vs H Q E h => ?_) (fun cdv A outer s H vs Q E hr h => ?_)
  · obtain ⟨p, dr, r, rfl, _⟩ := h
    rfl
  · obtain ⟨p, dr, r, rfl, hR, ok, k⟩ := h
    have G_Rules_quotes := ok_Rules_quotes (P := P) (w := w) (base := base) T
    have B_Rules_quotes := bi_Rules_quotes T
    refine ⟨_,
(pss_one (ps_ret (pe_op op_cat (pe_lst (pa_cons (pe_glob (v := .str ("" : Str)) rfl T.g_LOOSE ⟨_, rfl⟩) pa_nil)) (pe_callTy (call_list_str rfl) (by rfl) T.b_list (by decide +kernel) (pa_cons (pe_meth0 (pv 0) T.c_Rules.cl T.m_Rules_quotes G_Rules_quotes (hr.mono (by decide)) B_Rules_quotes .nil pass0) pa_nil)))))
      , ?_⟩
    rw [show start N_states_of [V.ref p] = [some (.ref p)] from rfl]
    walk_at "rd"
    intro p1 hp1
    have S1 := same_new (o := HO.lst [V.str (S [])]) hp1
    have e1 : upd H p1 (HO.lst [V.str (S [])]) p1 = some (HO.lst [V.str (S [])]) := upd_same
    generalize upd H p1 (HO.lst [V.str (S [])]) = H1 at *
    refine ⟨dr, _, S1 _ _ hR, lkn_quotes r, p, dr, r, rfl, S1 _ _ hR, few_q ok, r.quotes, rfl, Nat.le_trans (r.quotes_len ok) (by decide), ?_⟩
    walk_at "al"
    rename_i p2 hp2 H2 S2 e2
    refine ⟨_, S2 _ _ e1, ?_, ?_⟩
    · rw [List.length_map]; exact line_le (by have := r.quotes_len ok; simp only [List.length_cons, List.length_nil]; omega)
    walk_at "al"
    rename_i p3 hp3 H3 S3 e3
    refine k p3 H3 ((S1.trans S2).free hp3) ((S1.trans S2).trans S3) ?_
    rw [e3]
    simp [RS.sts, sT]
def oI : Option Nat → V
  | none => .non
  | some n => .int n
def sp_cost_of (a : Ad) : Sp := fun vs H Q _ => ∃ p dr r s c, vs = [.ref p, .str (S (sT s)), .str (S [c])] ∧ H p = some (.ins a.c_Rules dr (RS.f r)) ∧ r.Ok ∧ ∀ H', Same H H' → Q (oI (costT r s c)) H'
theorem ok_cost_of (T : Txt K mg a) : FnOk P w K mg base CX0 3 a.f_cost_of a.d_cost_of P_cost_of (sp_cost_of a) := by
  refine T.F_cost_of.ok sc_cost_of (fun vs H Q E h => ?_) (fun cdv A outer s H vs Q E hr h => ?_)
  · obtain ⟨p, dr, r, st, c, rfl, _⟩ := h
    rfl
  · obtain ⟨p, dr, r, st, c, rfl, hR, ok, k⟩ := h
    have G_Rules_special := ok_Rules_special (P := P) (w := w) (base := base) T
    have B_Rules_special := bi_Rules_special T
    refine ⟨_,
(pss_cons (ps_if (pt_cmpR op_eq (pv 1) (pe_glob (v := .str ("" : Str)) rfl T.g_LOOSE ⟨_, rfl⟩) (nomark _)) (pss_cons (ps_if (pt_not (pt_val (pe_meth (pv 0) T.c_Rules.cl T.m_Rules_special G_Rules_special (hr.mono (by decide)) B_Rules_special .nil pass0 (pa_cons (pv 2) pa_nil)))) (pss_one (ps_ret pe_int)) pss_nil)
    (pss_one (ps_ret (pe_ifExp (pt_cmpR op_ne (pe_fld (pv 0) rfl) pe_str (nomark _)) pe_int pe_non)))) pss_nil)
    (pss_cons (ps_if (pt_cmpR op_in_sign (pv 1) (pe_fld (pv 0) rfl) rfl) (pss_one (ps_ret (pe_ifExp (pt_cmpR op_ne (pv 2) (pv 1) (nomark _)) pe_int pe_non))) pss_nil)
    (pss_cons (ps_if (PW.pt (pw_and (pt_cmpR op_ne (pv 2) (pv 1) (nomark _)) (pw_and1 (pt_cmpR op_notIn_sign (pv 2) (pe_fld (pv 0) rfl) rfl)))) (pss_one (ps_ret pe_int)) pss_nil)
    (pss_one (ps_ret (pe_ifExp (pt_cmpR op_ne (pe_fld (pv 0) rfl) pe_str (nomark _)) pe_int pe_non))))))
      , ?_⟩
    rw [show start N_cost_of [V.ref p, V.str (S (sT st)), V.str (S [c])] = [some (.ref p), some (.str (S (sT st))), some (.str (S [c]))] from rfl]
    have hc := T.c_Rules.cl
    have n1 := T.n_Rules_breaks
    have n2 := T.n_Rules_hard
    have n4 := T.n_Rules_bend
    have n5 := T.n_Rules_note
    walk_at "rdh"
    cases st with
    | none =>
      refine ite2 (fun _ => ?_) (fun c => absurd rfl c)
      refine ⟨p, dr, r, c, rfl, hR, ok, fun H' s1 => ?_⟩
      have hR' := s1 _ _ hR
      walk_at "rdh"
      have k := k H' s1
      simp only [costT] at k
      by_cases h1 : c ∈ r.spec
      · by_cases h2 : r.bend = []
        · simpa [h1, h2, oI] using k
        · simpa [h1, h2, oI] using k
      · simpa [h1, oI] using k
    | some q =>
      refine ite2 (fun c => absurd c (by intro z; cases z)) (fun _ => ?_)
      refine ⟨q, rfl, ?_⟩
      have k := k H (Same.refl H)
      simp only [costT] at k
      by_cases h0 : q ∈ r.hard
      · by_cases h1 : c = q
        · simpa [h0, h1, oI, sT] using k
        · simpa [h0, h1, oI, sT] using k
      · by_cases h1 : c = q
        · by_cases h2 : r.bend = []
          · simpa [h0, h1, h2, oI, sT] using k
          · simpa [h0, h1, h2, oI, sT] using k
        · by_cases h3 : c ∈ r.bend
          · by_cases h2 : r.bend = []
            · simpa [h0, h1, h2, h3, oI, sT] using k
            · simpa [h0, h1, h2, h3, oI, sT] using k
          · simpa [h0, h1, h3, oI, sT] using k
def sp_entered : Sp := fun vs H Q _ => ∃ (l : Addr) (row : List Nat), vs = [.ref l] ∧ H l = some (.lst (row.map fun n => .int (n : Nat))) ∧ row ≠ [] ∧ row.length ≤ 100 ∧ ∀ l' H', H l' = none → Same H H' → H' l' = some (.lst ((enteredT row).map fun n => .int (n : Nat))) → Q (.ref l') H'
theorem ok_entered (T : Txt K mg a) : FnOk P w K mg base CX0 1 a.f_entered a.d_entered P_entered sp_entered := by
  refine T.F_entered.ok sc_entered (fun vs H Q E h => ?_) (fun cdv A outer s H vs Q E hr h => ?_)
  · obtain ⟨l, row, rfl, _⟩ := h
    rfl
  · obtain ⟨l, row, rfl, hl, ne, ln, k⟩ := h

    refine ⟨_,
(pss_cons (ps_set (i := 1) sc_entered.nd rfl (by first | exact Or.inl rfl | exact Or.inr rfl) (pe_callB (cr_min rfl) (by rfl) T.b_min (by decide +kernel) (pa_cons (pe_op op_cat (pe_lst (pa_cons (pe_ix ix_list (pv 0) pe_int (fun _ _ => rfl)) pa_nil)) (pe_lc (own := [("number", 2)]) (g := gName 2) (tt := tYes) rfl sc_entered.nd (pi_list (pe_slice sl_list (pv 0) (po_some pe_int) po_none)) (blkOk_by (own := [("number", 2)]) (N := N_entered) (sc := defScope st_entered) (by decide +kernel)) (fun _ _ _ _ _ => (pg_name (i := 2) sc_entered.nd rfl (by first | exact Or.inl rfl | exact Or.inr rfl))) (fun _ _ _ _ _ => pts_nil) (fun _ _ _ _ _ => (pe_op op_add (pv 2) pe_int)))) pa_nil)))
    (pss_one (ps_ret (pe_op op_cat (pe_lst (pa_cons (pv 1) pa_nil)) (pe_lc (own := [("number", 2)]) (g := gName 2) (tt := tYes) rfl sc_entered.nd (pi_list (pe_slice sl_list (pv 0) (po_some pe_int) po_none)) (blkOk_by (own := [("number", 2)]) (N := N_entered) (sc := defScope st_entered) (by decide +kernel)) (fun _ _ _ _ _ => (pg_name (i := 2) sc_entered.nd rfl (by first | exact Or.inl rfl | exact Or.inr rfl))) (fun _ _ _ _ _ => pts_nil) (fun _ _ _ _ _ => (pe_callB ((call_min2 rfl)) (by rfl) T.b_min (by decide +kernel) (pa_cons (pv 2) (pa_cons (pe_op op_add (pv 1) pe_int) pa_nil)))))))))
      , ?_⟩
    rw [show start N_entered [V.ref l] = [some (.ref l), none, none] from rfl]
    walk_at "rd"
    have hl0 : SqL K H l (row.map fun n => V.int (n : Nat)) := .inl (.inl hl)
    obtain ⟨x0, xs, rfl⟩ : ∃ x xs, row = x :: xs := by
      cases row with
      | nil => exact absurd rfl ne
      | cons x xs => exact ⟨x, xs, rfl⟩
    refine ⟨_, hl0, .int (x0 : Nat), atI_nat (j := 0) rfl, ?_⟩
    walk_at "al"
    rename_i p1 hp1 H1 S1 e1
    have cutr : ∀ {n : Int}, n = 1 → cutV ((x0 :: xs).map fun n => V.int (n : Nat)) (some n) none = xs.map fun n => V.int (n : Nat) := fun h => by
      subst h
      exact (cut_from _ 1).trans rfl
    refine tlc_all (ι := Addr × Hp) (C := fun z => z.2 z.1 = some (.lst (xs.map fun n => V.int (n : Nat))) ∧ Same H1 z.2) (J := fun z => Itl K z.1) (H1 := fun z => z.2) (fun R hR => ?_) fun z hz D hD => ?_
    · walk_at "rd"
      refine ⟨_, .inl (.inl (S1 _ _ hl)), ?_⟩
      rw [cutr rfl]
      walk_at "al"
      rename_i p2 hp2 H2 S2 e2
      exact ⟨⟨_, .inl (.inl e2)⟩, hR (p2, H2) ⟨e2, S2⟩⟩
    obtain ⟨p2, H2⟩ := z
    obtain ⟨e2, S2⟩ := hz
    dsimp only at e2 S2 hD
    refine lc_map xs (fun n => .int ((n + 1 : Nat))) (G := fun H => SqL K H p2 (xs.map fun n => V.int (n : Nat))) (List.length_map _ ▸ walk_list) (by simp only [List.length_cons] at ln; omega) hD (fun H s => .inl (.inl (s _ _ e2))) ?_ ?_
    · rintro R R' i n x H3 H3' hi s3 ⟨rfl, hx⟩ hR
      rw [List.getElem?_map, hi] at hx
      cases hx
      walk_at "rdh"
      exact hR _ (Same.refl _)
    intro H3 s3 e3
    have e1' := s3 _ _ (S2 _ _ e1)
    walk_at "rdh"
    simp only [List.length_cons] at ln
    refine ⟨by rw [List.length_map]; exact line_le (by omega), ?_⟩
    walk_at "al"
    rename_i p4 hp4 H4 S4 e4
    have hlow := low_spec xs x0
    refine ⟨p4, (x0 : Int) :: xs.map fun n => ((n + 1 : Nat) : Int), rfl, .inl (.inl (by rw [e4, List.map_cons, List.map_map]; rfl)), by simp, fun m hm hle => ?_⟩
    obtain rfl : m = (lowT x0 xs : Nat) := by
      have a1 : (m : Int) ≤ (lowT x0 xs : Nat) := by
        rcases hlow.2.2 with h | ⟨y, hy, h⟩
        · rw [h]; exact hle _ List.mem_cons_self
        · rw [h]; exact hle _ (List.mem_cons_of_mem _ (List.mem_map.mpr ⟨y, hy, rfl⟩))
      have a2 : ((lowT x0 xs : Nat) : Int) ≤ m := by
        rcases List.mem_cons.mp hm with h | h
        · rw [h]; exact Int.ofNat_le.mpr hlow.1
        · obtain ⟨y, hy, rfl⟩ := List.mem_map.mp h
          exact Int.ofNat_le.mpr (hlow.2.1 y hy)
      omega
    walk_at "al"
    rename_i p5 hp5 H5 S5 e5
    have hl5 := S5 _ _ (S4 _ _ (s3 _ _ (S2 _ _ (S1 _ _ hl))))
    refine tlc_all (ι := Addr × Hp) (C := fun z => z.2 z.1 = some (.lst (xs.map fun n => V.int (n : Nat))) ∧ Same H5 z.2) (J := fun z => Itl K z.1) (H1 := fun z => z.2) (fun R hR => ?_) fun z hz D6 hD6 => ?_
    · walk_at "rd"
      refine ⟨_, .inl (.inl hl5), ?_⟩
      rw [cutr rfl]
      walk_at "al"
      rename_i p6 hp6 H6 S6 e6
      exact ⟨⟨_, .inl (.inl e6)⟩, hR (p6, H6) ⟨e6, S6⟩⟩
    obtain ⟨p6, H6⟩ := z
    obtain ⟨e6, S6⟩ := hz
    dsimp only at e6 S6 hD6
    refine lc_map xs (fun n => .int ((min n (lowT x0 xs + 1) : Nat))) (G := fun H => SqL K H p6 (xs.map fun n => V.int (n : Nat))) (List.length_map _ ▸ walk_list) (by omega) hD6 (fun H s => .inl (.inl (s _ _ e6))) ?_ ?_
    · rintro R R' i n x H7 H7' hi s7 ⟨rfl, hx⟩ hR
      rw [List.getElem?_map, hi] at hx
      cases hx
      walk_at "rdh"
      have := hR _ (Same.refl _)
      rw [show ((min n (lowT x0 xs + 1) : Nat) : Int) = if ((lowT x0 xs : Nat) : Int) + 1 < (n : Int) then ((lowT x0 xs : Nat) : Int) + 1 else (n : Int) by split <;> omega] at this
      exact this
    intro H7 s7 e7
    have e5' := s7 _ _ (S6 _ _ e5)
    walk_at "rdh"
    refine ⟨by rw [List.length_map]; exact line_le (by omega), ?_⟩
    walk_at "al"
    rename_i p8 hp8 H8 S8 e8
    have Sa := (((((S1.trans S2).trans s3).trans S4).trans S5).trans S6).trans s7
    refine k p8 H8 (Sa.free hp8) (Sa.trans S8) ?_
    rw [e8, enteredT, List.map_cons, List.map_map]
    rfl
end
end Qw

set_option Elab.async false
set_option linter.all false
set_option maxRecDepth 100000
set_option maxHeartbeats 4000000
namespace Qw
open PySem L2
local macro_rules | `(tactic| walk_at "rd") => `(tactic| simp only [iEnum, iRng3, tRevL, rSlS, rSlL, gSub, rSetL, wipe, List.map_cons, List.map_nil, rAll, rAny, rIsi, tM1, tM0, iZipLT, iZip, iRng2, tLenSetS, rListStr, rMulS, rRep, rCntB, tRevS, rNeD, rEqD, tSeq, tNext, tAsg, tRet, tRetN, tDrop, tIfS, sFld, sFldAug, tVar, tC, tOp, tUn, tTest, tB, tAnd, tOr, tNot, tAndV, tOrV, tNotV, tIf, tTup, tLst, tCons, tNil, tCB, tCall, tMeth, tMake, tFld, rI, rI0, rU, rEq, rNe, rCat, gName, gTup, gCons, gNil, tPar, tPar3, tBM, tBM0, rAppend, rExtend, rPopAt, rIxL, rIxT, rIxS, tSl, rSlS, rSlL, tPart, tNoPart, iStr, iTup, iList, iRng1, tAug, ipI, L2.rAdd, L2.rSub, L2.rAddS, tChain, rIsB, rNotB, scal_ss, scal_ii, scal_bb, scal_nn, scal_in, scal_ni, tYes,
  cx_K, cx_N, List.getElem?_cons_zero, List.getElem?_cons_succ, List.set_cons_zero, List.set_cons_succ, List.nil_append, List.cons_append, List.append_nil, List.length_cons, List.length_nil, Nat.zero_add,
  Option.some.injEq, V.ref.injEq, V.int.injEq, V.str.injEq, V.bl.injEq, HO.ins.injEq, HO.lst.injEq, HO.tup.injEq, List.cons.injEq, exists_eq_left, exists_eq_left', exists_eq_right, exists_eq_right', and_true, true_and, exists_and_left, exists_and_right, and_assoc, decide_eq_true_eq, Bool.not_eq_true', decide_eq_false_iff_not, reduceCtorEq, exists_const, forall_const, if_true, if_false, false_and, and_false, ite_true, ite_false, Bool.true_eq_false, Bool.false_eq_true, Nat.reduceLeDiff, Nat.reduceAdd, small_line, small_lt, upd_ne, ne_eq, not_false_eq_true, Nat.zero_le, Prod.mk.injEq, upd_same, upd_upd, S_tl, S_len, S_app, S_one, S_inj,
  lk_breaks, lk_hard, lk_soft, lk_bend, lk_note, lk_rules, lk_state, lk_bent, lk_word, lk_begun, lk_opened, lk_place, pt_state, pt_bent, pt_word, pt_wordS, pt_wordN, pt_begun, pt_opened, pt_place, pt_place1, len_mf, litv_empty, litv_note, litv_nl, mf_inj, rf_inj, lkn_begin, lkn_ended, lkn_plain, lkn_quoted, lkn_step, lkn_fault, lkn_key, lkn_told, lkn_quotes, lkn_special, pt_open1, not_true_eq_false, not_false_eq_true])
local macro_rules | `(tactic| walk_at "rdh") => `(tactic| simp only [iEnum, iRng3, tRevL, rSlS, rSlL, gSub, rSetL, wipe, List.map_cons, List.map_nil, rAll, rAny, rIsi, tM1, tM0, iZipLT, iZip, iRng2, tLenSetS, rListStr, rMulS, rRep, rCntB, tRevS, rNeD, rEqD, tSeq, tNext, tAsg, tRet, tRetN, tDrop, tIfS, sFld, sFldAug, tVar, tC, tOp, tUn, tTest, tB, tAnd, tOr, tNot, tAndV, tOrV, tNotV, tIf, tTup, tLst, tCons, tNil, tCB, tCall, tMeth, tMake, tFld, rI, rI0, rU, rEq, rNe, rCat, gName, gTup, gCons, gNil, tPar, tPar3, tBM, tBM0, rAppend, rExtend, rPopAt, rIxL, rIxT, rIxS, tSl, rSlS, rSlL, tPart, tNoPart, iStr, iTup, iList, iRng1, tAug, ipI, L2.rAdd, L2.rSub, L2.rAddS, tChain, rIsB, rNotB, scal_ss, scal_ii, scal_bb, scal_nn, scal_in, scal_ni, tYes,
  cx_K, cx_N, List.getElem?_cons_zero, List.getElem?_cons_succ, List.set_cons_zero, List.set_cons_succ, List.nil_append, List.cons_append, List.append_nil, List.length_cons, List.length_nil, Nat.zero_add,
  Option.some.injEq, V.ref.injEq, V.int.injEq, V.str.injEq, V.bl.injEq, HO.ins.injEq, HO.lst.injEq, HO.tup.injEq, List.cons.injEq, exists_eq_left, exists_eq_left', exists_eq_right, exists_eq_right', and_true, true_and, exists_and_left, exists_and_right, and_assoc, decide_eq_true_eq, Bool.not_eq_true', decide_eq_false_iff_not, reduceCtorEq, exists_const, forall_const, if_true, if_false, false_and, and_false, ite_true, ite_false, Bool.true_eq_false, Bool.false_eq_true, Nat.reduceLeDiff, Nat.reduceAdd, small_line, small_lt, upd_ne, ne_eq, not_false_eq_true, Nat.zero_le, Prod.mk.injEq, upd_same, upd_upd, S_tl, S_len, S_app, S_one, S_inj,
  lk_breaks, lk_hard, lk_soft, lk_bend, lk_note, lk_rules, lk_state, lk_bent, lk_word, lk_begun, lk_opened, lk_place, pt_state, pt_bent, pt_word, pt_wordS, pt_wordN, pt_begun, pt_opened, pt_place, pt_place1, len_mf, litv_empty, litv_note, litv_nl, mf_inj, rf_inj, lkn_begin, lkn_ended, lkn_plain, lkn_quoted, lkn_step, lkn_fault, lkn_key, lkn_told, lkn_quotes, lkn_special, pt_open1, not_true_eq_false, not_false_eq_true, *])
local macro_rules | `(tactic| walk_at "pl") => `(tactic| (first | decide | (refine Nat.lt_of_le_of_lt (length_putF _ _ _) ?_; repeat (first | decide | refine pl2 ?_))))
local macro_rules | `(tactic| walk_at "al") => `(tactic| (intro p hp; generalize hH : upd _ p _ = H1; obtain ⟨S, e⟩ := gen_new hH hp; clear hH))
section
variable {X : Cx}
theorem pi_listK {K : PySem.W.Frag} (h : X.K = K) {tg l : Expr} {tl : TE} (hl : PE X l tl) : PI X tg l (iList K tl) := by
  subst h
  exact pi_list hl
theorem cr_allK {K : PySem.W.Frag} (h : X.K = K) (hc : X.calm = true) : CallR X (.builtin "all") (rAll K) := by
  subst h
  exact cr_all hc
theorem cr_anyK {K : PySem.W.Frag} (h : X.K = K) (hc : X.calm = true) : CallR X (.builtin "any") (rAny K) := by
  subst h
  exact cr_any hc
theorem cr_sumK {K : PySem.W.Frag} (h : X.K = K) (hc : X.calm = true) : CallR X (.builtin "sum") (rSum K) := by
  subst h
  exact cr_sum hc
end
abbrev intsV (row : List Nat) : List V := row.map fun n => .int (n : Nat)
/-- lists of numbers -/
def RowV (H : Hp) (v : V) (row : List Nat) : Prop := ∃ l, v = .ref l ∧ H l = some (.lst (intsV row))
/-- .. at lists that were not there at H0 -/
def RowN (H0 H : Hp) (v : V) (row : List Nat) : Prop := ∃ l, v = .ref l ∧ H0 l = none ∧ H l = some (.lst (intsV row))
abbrev RowsV (H : Hp) (xs : List V) (rows : List (List Nat)) : Prop := Paired (RowV H) xs rows
theorem RowV.same {H H' : Hp} {v : V} {row : List Nat} (h : RowV H v row) (s : Same H H') : RowV H' v row := by
  obtain ⟨l, e, h⟩ := h
  exact ⟨l, e, s _ _ h⟩
theorem RowsV.same {H H' : Hp} {xs : List V} {rows : List (List Nat)} (h : RowsV H xs rows) (s : Same H H') : RowsV H' xs rows := Paired.mapP h fun _ _ z => z.same s
def nextT (r : RS) (row : List Nat) (c : Nat) : List Nat := List.zipWith (fun n s => match costT r s c with | none => 99 | some k => n + k) row r.sts
def stepT (r : RS) (row : List Nat) (c : Nat) : List Nat := enteredT (nextT r row c)
def row0 (r : RS) : List Nat := enteredT (0 :: List.replicate r.quotes.length 99)
/-- the row behind a word's first signs -/
def curT (r : RS) (u : Tx) : List Nat := u.foldl (stepT r) (row0 r)
theorem curT_snoc (r : RS) (u : Tx) (c : Nat) : curT r (u ++ [c]) = stepT r (curT r u) c := by simp [curT]
def rowsT (r : RS) (w : Tx) : List (List Nat) := (List.range (w.length + 1)).map fun i => curT r (w.take i)
theorem entered_len (l : List Nat) : (enteredT l).length = l.length := by cases l <;> simp [enteredT]
theorem cur_len (r : RS) : ∀ u : Tx, (curT r u).length = r.quotes.length + 1 := by
  intro u
  suffices h : ∀ (u : Tx) (row : List Nat), row.length = r.quotes.length + 1 → (u.foldl (stepT r) row).length = r.quotes.length + 1 from h u _ (by rw [row0, entered_len]; simp)
  intro u
  induction u with
  | nil => intro row h; exact h
  | cons c u ih =>
    intro row h
    refine ih _ ?_
    rw [stepT, entered_len, nextT, List.length_zipWith, h]
    simp [RS.sts]
theorem Paired.snoc_inv {α β : Type} {F : α → β → Prop} : ∀ {l : List α} {m : List β} {y : β}, Paired F l (m ++ [y]) → ∃ l' x, l = l' ++ [x] ∧ Paired F l' m ∧ F x y
  | _, [], _, .cons r .nil => ⟨[], _, rfl, .nil, r⟩
  | _, _ :: _, _, .cons r t => by
    obtain ⟨l', x, rfl, h1, h2⟩ := Paired.snoc_inv t
    exact ⟨_ :: l', x, rfl, .cons r h1, h2⟩
theorem Paired.right {α β : Type} {F : α → β → Prop} : ∀ {l : List α} {m : List β} {i : Nat} {y : β}, Paired F l m → m[i]? = some y → ∃ x, l[i]? = some x ∧ F x y
  | _, _, 0, _, .cons r _, h => by
    cases h
    exact ⟨_, rfl, r⟩
  | _, _, i + 1, _, .cons _ t, h => by
    obtain ⟨x, h1, h2⟩ := Paired.right (i := i) t (by simpa using h)
    exact ⟨x, by simpa using h1, h2⟩
  | _, _, _, _, .nil, h => by simp at h
theorem line_le' {n : Nat} (h : n ≤ 3000) : n ≤ sizeLine := Nat.le_trans h (by decide)
def cannotT (r : RS) (w : Tx) : Bool := if w = [] then decide (r.quotes = []) else w.any fun c => r.sts.all fun s => (costT r s c).isNone
/-- a comprehension that leaves items out -/
theorem lc_filt {α : Type} {J : It} {G : Hp → Prop} {Y : Nat → Hp → V → Hp → Prop} {g : TG} {tt : TT} {te : TE} {vs : List Nat} {σ : St} {H1 : Hp} {D : Addr} {Qd : Hp → Prop}
    (as : List α) (pr : α → Bool) (F : α → V) (w : Walk J as.length G Y) (hz : as.length ≤ 1000000) (h1 : H1 D = none) (hG : ∀ H, Same H1 H → G H)
    (hs : ∀ (R : VK) (R' : Hp → Prop) i a x H H', as[i]? = some a → Same H1 H → Y i H x H' → (∀ H4, Same H H4 → pr a = true → R (F a) H4) → (∀ H4, Same H H4 → pr a = false → R' H4) →
      g x (wipe σ vs) H' fun σ2 H2 => wipe σ2 vs = wipe σ vs ∧ tt σ2 H2 fun b H3 => if b = true then te σ2 H3 R else R' H3)
    (hd : ∀ H, Same H1 H → H D = some (.lst ((as.filter pr).map F)) → Qd H) :
    ∃ W : Nat → Nat → Hp → Prop, (∃ m, W 0 m (upd H1 D (.lst []))) ∧ ∀ i m H, W i m H →
      (J.stop i H ∧ Qd H) ∨ (J.go i H ∧ ∃ Nx : Hp → Prop, (∀ H', Nx H' → ∃ m', m' < m ∧ W (i + 1) m' H') ∧ ∀ x H', J.yld i H x H' → g x (wipe σ vs) H' fun σ2 H2 => wipe σ2 vs = wipe σ vs ∧ tt σ2 H2 fun b H3 =>
        if b = true then te σ2 H3 fun y H4 => ∃ acc, H4 D = some (.lst acc) ∧ acc.length < sizeLine ∧ Nx (upd H4 D (.lst (acc ++ [y]))) else Nx H3) := by
  refine lc_it w (fun i H => Same H1 H ∧ H D = some (.lst (((as.take i).filter pr).map F))) ⟨same_new h1, upd_same⟩ (fun _ H _ p => hG H p.1) ?_ fun H p => hd H p.1 (by rw [List.take_length] at p; exact p.2)
  rintro i x H H' hi ⟨p1, p2⟩ y
  obtain ⟨a, ha⟩ : ∃ a, as[i]? = some a := ⟨as[i], List.getElem?_eq_getElem hi⟩
  refine hs _ _ i a x H H' ha p1 y (fun H4 s4 hp => ⟨_, s4 _ _ p2, ?_, ?_, ?_⟩) fun H4 s4 hp => ⟨p1.trans s4, ?_⟩
  · rw [List.length_map]
    have := List.length_filter_le pr (as.take i)
    rw [List.length_take] at this
    exact Nat.lt_of_lt_of_le (show _ < 1000001 by omega) (by decide)
  · exact Same.mut (p1.trans s4) h1
  · rw [upd_same, take_at ha, List.filter_append, List.map_append, List.filter_cons, if_pos hp]
    rfl
  · rw [take_at ha, List.filter_append, List.filter_cons, if_neg (by rw [hp]; decide), List.filter_nil, List.append_nil]
    exact s4 _ _ p2
/-! ### a writing by its heights -/
def rowAt (rows : List (List Nat)) (i : Nat) : List Nat := rows.getD i []
def wrHit (r : RS) (w : Tx) (rows : List (List Nat)) (at_ st : Nat) : Option Nat :=
  if at_ = 0 then none else match costT r (r.sts.getD st none) (w.getD (at_ - 1) 0) with
    | none => none
    | some c => if (rowAt rows (at_ - 1)).getD st 0 + c = (rowAt rows at_).getD st 0 then some c else none
def wrOn (r : RS) (rows : List (List Nat)) (at_ : Nat) : List Nat := (List.range' 1 (r.sts.length - 1)).filter fun k => decide ((rowAt rows at_).getD k 0 + 1 = (rowAt rows at_).getD 0 0)
def wrGo (r : RS) (w : Tx) (rows : List (List Nat)) : Nat → Tx → Nat → Nat → Option Tx
  | 0, _, _, _ => none
  | n + 1, found, at_, st =>
    if at_ = 0 ∧ st = 0 then some found else match wrHit r w rows at_ st with
      | some c => wrGo r w rows n ((if c = 1 then [w.getD (at_ - 1) 0] else r.bend ++ [w.getD (at_ - 1) 0]) ++ found) (at_ - 1) st
      | none => if st > 0 then wrGo r w rows n (sT (r.sts.getD st none) ++ found) at_ 0 else match wrOn r rows at_ with
        | [] => none
        | k :: _ => wrGo r w rows n (sT (r.sts.getD k none) ++ found) at_ k
section
variable {P : Program} {w : World} {K : PySem.W.Frag} {mg : Str → Option Value} {base : Heap} {a : Ad}
def sp_cannot (a : Ad) : Sp := fun vs H Q _ => ∃ p dr r t, vs = [.ref p, .str (S t)] ∧ H p = some (.ins a.c_Rules dr (RS.f r)) ∧ r.Ok ∧ t.length ≤ 100 ∧ ∀ H', Same H H' → Q (.bl (cannotT r t)) H'
theorem ok_cannot (T : Txt K mg a) : FnOk P w K mg base CX0 4 a.f_cannot a.d_cannot P_cannot (sp_cannot a) := by
  refine T.F_cannot.ok sc_cannot (fun vs H Q E h => ?_) (fun cdv A outer s H vs Q E hr h => ?_)
  · obtain ⟨p, dr, r, t, rfl, _⟩ := h
    rfl
  · obtain ⟨p, dr, r, t, rfl, hR, ok, ht, k⟩ := h
    have G_Rules_quotes := ok_Rules_quotes (P := P) (w := w) (base := base) T
    have B_Rules_quotes := bi_Rules_quotes T
    have G_states_of := ok_states_of (P := P) (w := w) (base := base) T
    have B_states_of := bi_states_of T
    have G_cost_of := ok_cost_of (P := P) (w := w) (base := base) T
    have B_cost_of := bi_cost_of T
    refine ⟨_,
(pss_cons (ps_if (pt_cmpR op_eq (pv 1) pe_str (nomark _)) (pss_one (ps_ret (pe_cmpR op_eq (pe_meth0 (pv 0) T.c_Rules.cl T.m_Rules_quotes G_Rules_quotes (hr.mono (by decide)) B_Rules_quotes .nil pass0) pe_str (nomark _)))) pss_nil)
    (pss_cons (ps_set (i := 2) sc_cannot.nd rfl (by first | exact Or.inl rfl | exact Or.inr rfl) (pe_call G_states_of (hr.mono (by decide)) rfl T.f_states_of.g T.f_states_of.k B_states_of .nil pass0 (pa_cons (pv 0) pa_nil)))
    (pss_one (ps_ret (pe_callB (cr_any rfl) (by rfl) T.b_any (by decide +kernel) (pa_cons (pe_lc (own := [("sign", 4)]) (g := gName 4) (tt := tYes) rfl sc_cannot.nd (pi_str (pv 1)) (blkOk_by (own := [("sign", 4)]) (N := N_cannot) (sc := defScope st_cannot) (by decide +kernel)) (fun _ _ _ _ _ => (pg_name (i := 4) sc_cannot.nd rfl (by first | exact Or.inl rfl | exact Or.inr rfl))) (fun _ _ _ _ _ => pts_nil) (fun _ _ _ _ _ => (pe_callB (cr_allK (K := K) rfl rfl) (by rfl) T.b_all (by decide +kernel) (pa_cons (pe_lc (own := [("state", 3)]) (g := gName 3) (tt := tYes) rfl sc_cannot.nd (pi_listK (K := K) rfl (pv 2)) (blkOk_by (own := [("state", 3)]) (N := N_cannot) (sc := (relS { kind := ScopeKind.function, names := [(".0", NameKind.local), ("sign", NameKind.cell), ("all", NameKind.globalImplicit), ("rules", NameKind.free), ("states", NameKind.free)], isGenerator := false, isCoroutine := false } (defScope st_cannot))) (by decide +kernel)) (fun _ _ _ _ _ => (pg_name (i := 3) sc_cannot.nd rfl (by first | exact Or.inl rfl | exact Or.inr rfl))) (fun _ _ _ _ _ => pts_nil) (fun _ _ _ _ _ => (pe_cmpR op_isN (pe_call G_cost_of (hr.mono (by decide)) rfl T.f_cost_of.g T.f_cost_of.k B_cost_of .nil pass0 (pa_cons (pv 0) (pa_cons (pv 3) (pa_cons (pv 4) pa_nil)))) pe_non (nomark _)))) pa_nil)))) pa_nil))))))
      , ?_⟩
    rw [show start N_cannot [V.ref p, V.str (S t)] = [some (.ref p), some (.str (S t)), none, none, none] from rfl]
    walk_at "rd"
    refine ite2 (fun c0 => ?_) (fun c0 => ?_)
    · subst c0
      refine ⟨dr, _, hR, lkn_quotes r, p, dr, r, rfl, hR, few_q ok, ?_⟩
      walk_at "rd"
      have k := k H (Same.refl H)
      simpa [cannotT] using k
    refine ⟨p, dr, r, rfl, hR, ok, fun l H1 hl s1 e1 => ?_⟩
    have hR1 := s1 _ _ hR
    refine tlc_map t (fun c => .bl (r.sts.all fun s => (costT r s c).isNone)) (J := Its (S t)) (H1 := H1) (fun R hR => ?_) walk_text (by omega) (fun _ _ => trivial) ?_ ?_
    · exact ⟨_, rfl, _, rfl, hR⟩
    · rintro R R' i c x H2 H3 hi s2 ⟨rfl, c', hc, rfl⟩ hk
      rw [hi] at hc
      cases hc
      walk_at "rdh"
      refine tlc_map r.sts (fun s => .bl (costT r s c).isNone) (J := Itl K l) (H1 := H3) (G := fun H => SqL K H l (r.sts.map fun s => .str (S (sT s)))) (fun R hR => ?_) (List.length_map _ ▸ walk_list) ?_ (fun H s => .inl (.inl (s _ _ (s2 _ _ e1)))) ?_ ?_
      · walk_at "rd"
        exact ⟨⟨_, .inl (.inl (s2 _ _ e1))⟩, hR⟩
      · have := r.quotes_len ok
        simp only [RS.sts, List.length_cons, List.length_map]; omega
      · rintro R R' j s x H4 H5 hj s4 ⟨rfl, hx⟩ hk4
        rw [List.getElem?_map, hj] at hx
        cases hx
        walk_at "rdh"
        refine ⟨p, dr, r, s, c, rfl, s4 _ _ (s2 _ _ hR1), ok, fun H6 s6 => ?_⟩
        have hk4 := hk4 H6 s6
        walk_at "rd"
        cases hc : costT r s c with
        | none => rw [hc] at hk4; exact hk4
        | some n => rw [hc] at hk4; exact hk4
      · intro D H6 hD s6 e6
        walk_at "rdh"
        refine ⟨r.sts.map fun s => (costT r s c).isNone, .inl (.inl (by rw [List.map_map]; exact e6)), ?_⟩
        rw [List.all_map]
        exact hk H6 s6
    · intro D H2 hD s2 e2
      refine ⟨D, rfl, t.map fun c => r.sts.all fun s => (costT r s c).isNone, .inl (.inl (by rw [List.map_map]; exact e2)), ?_⟩
      have k := k H2 (s1.trans s2)
      rw [cannotT, if_neg c0] at k
      rw [List.any_map]
      exact k
def sp_heights_of (a : Ad) : Sp := fun vs H Q _ => ∃ p dr r t, vs = [.ref p, .str (S t), .int 99] ∧ H p = some (.ins a.c_Rules dr (RS.f r)) ∧ r.Ok ∧ t.length ≤ 100 ∧ ∀ l H' xs, H l = none → Same H H' → H' l = some (.lst xs) → Paired (RowN H H') xs (rowsT r t) → Q (.ref l) H'
theorem ok_heights_of (T : Txt K mg a) : FnOk P w K mg base CX0 4 a.f_heights_of a.d_heights_of P_heights_of (sp_heights_of a) := by
  refine T.F_heights_of.ok sc_heights_of (fun vs H Q E h => ?_) (fun cdv A outer s H vs Q E hr h => ?_)
  · obtain ⟨p, dr, r, t, rfl, _⟩ := h
    rfl
  · obtain ⟨p, dr, r, t, rfl, hR, ok, ht, k⟩ := h
    have G_states_of := ok_states_of (P := P) (w := w) (base := base) T
    have B_states_of := bi_states_of T
    have G_entered := ok_entered (P := P) (w := w) (base := base) T
    have B_entered := bi_entered T
    have G_cost_of := ok_cost_of (P := P) (w := w) (base := base) T
    have B_cost_of := bi_cost_of T
    refine ⟨_,
(pss_cons (ps_set (i := 3) sc_heights_of.nd rfl (by first | exact Or.inl rfl | exact Or.inr rfl) (pe_call G_states_of (hr.mono (by decide)) rfl T.f_states_of.g T.f_states_of.k B_states_of .nil pass0 (pa_cons (pv 0) pa_nil)))
    (pss_cons (ps_set (i := 4) sc_heights_of.nd rfl (by first | exact Or.inl rfl | exact Or.inr rfl) (pe_lst (pa_cons (pe_call G_entered (hr.mono (by decide)) rfl T.f_entered.g T.f_entered.k B_entered .nil pass0 (pa_cons (pe_op op_cat (pe_lst (pa_cons pe_int pa_nil)) (pe_op op_rep (pe_lst (pa_cons (pv 2) pa_nil)) (pe_op op_sub (pe_callB call_len_seq (by rfl) T.b_len PySem.boot_len (pa_cons (pv 3) pa_nil)) pe_int))) pa_nil)) pa_nil)))
    (pss_cons (ps_for PassesOwn.never rfl (pi_str (pv 1)) (pg_name (i := 5) sc_heights_of.nd rfl (by first | exact Or.inl rfl | exact Or.inr rfl))
    (pss_cons (ps_setLc (i := 6) (own := [("state", 7)]) (g := gName 7) (tt := tYes) rfl sc_heights_of.nd rfl rfl (sw_true rfl rfl rfl (by decide +kernel)) (pi_list (pv 3)) (blkOk_by (own := [("state", 7)]) (N := N_heights_of) (sc := defScope st_heights_of) (by decide +kernel)) (fun _ _ _ _ _ => (pg_name (i := 7) sc_heights_of.nd rfl (by first | exact Or.inl rfl | exact Or.inr rfl))) (fun _ _ _ _ _ => pts_nil) (fun _ _ _ _ _ => (pe_call G_cost_of (hr.mono (by decide)) rfl T.f_cost_of.g T.f_cost_of.k B_cost_of .nil pass0 (pa_cons (pv 0) (pa_cons (pv 7) (pa_cons (pv 5) pa_nil))))))
    (pss_one (ps_expr (pe_bm PySem.F.plainAttrs_list PySem.F.slot_list_append PySem.F.type_list_append mt_append (pv 4) (pa_cons (pe_call G_entered (hr.mono (by decide)) rfl T.f_entered.g T.f_entered.k B_entered .nil pass0 (pa_cons (pe_lc (own := [("number", 8), ("cost", 9)]) (g := gTup _ 2 (gCons (gName 8) (gCons (gName 9) (gNil)))) (tt := tYes) rfl sc_heights_of.nd (pi_zip (by rfl) T.b_zip (pa_cons (pe_ix ix_list (pv 4) (pe_un un_neg pe_int) (fun _ _ => rfl)) (pa_cons (pv 6) pa_nil))) (blkOk_by (own := [("number", 8), ("cost", 9)]) (N := N_heights_of) (sc := defScope st_heights_of) (by decide +kernel)) (fun _ _ _ _ _ => (pg_tup rfl (pgs_cons (pg_name (i := 8) sc_heights_of.nd rfl (by first | exact Or.inl rfl | exact Or.inr rfl)) (pgs_cons (pg_name (i := 9) sc_heights_of.nd rfl (by first | exact Or.inl rfl | exact Or.inr rfl)) pgs_nil)))) (fun _ _ _ _ _ => pts_nil) (fun _ _ _ _ _ => (pe_ifExp (pt_cmpR op_isN (pv 9) pe_non (nomark _)) (pv 2) (pe_op op_add (pv 8) (pv 9))))) pa_nil)) pa_nil))))))
    (pss_one (ps_ret (pv 4))))))
      , ?_⟩
    rw [show start N_heights_of [V.ref p, V.str (S t), V.int 99] = [some (.ref p), some (.str (S t)), some (.int 99), none, none, none, none, none, none, none] from rfl]
    walk_at "rd"
    refine ⟨p, dr, r, rfl, hR, ok, fun l H1 hl s1 e1 => ?_⟩
    have hR1 := s1 _ _ hR
    have hql := r.quotes_len ok
    have hsl : (r.sts.map fun s => V.str (S (sT s))).length = r.quotes.length + 1 := by simp [RS.sts]
    walk_at "al"
    rename_i p1 hp1 H2 S2 e2
    walk_at "al"
    rename_i p2 hp2 H3 S3 e3
    refine ⟨l, rfl, _, .inl (.inl (.inl (S3 _ _ (S2 _ _ e1)))), by omega, by omega, line_le (by omega), ?_⟩
    rw [hsl]
    have en : (((r.quotes.length + 1 : Nat) : Int) - 1).toNat = r.quotes.length := by omega
    rw [en]
    have ef : (List.replicate r.quotes.length [V.int 99]).flatten = List.replicate r.quotes.length (V.int 99) := by
      induction r.quotes.length with
      | zero => rfl
      | succ n ih => rw [List.replicate_succ, List.flatten_cons, ih, List.replicate_succ]; rfl
    rw [ef]
    walk_at "al"
    rename_i p3 hp3 H4 S4 e4
    refine ⟨_, S4 _ _ (S3 _ _ e2), line_le (by rw [List.length_replicate]; simp only [List.length_cons, List.length_nil]; omega), ?_⟩
    walk_at "al"
    rename_i p4 hp4 H5 S5 e5
    refine ⟨p4, 0 :: List.replicate r.quotes.length 99, rfl, by rw [e5]; simp, by simp, by simp only [List.length_cons, List.length_replicate]; omega, fun p5 H6 hp5 S6 e6 => ?_⟩
    walk_at "al"
    rename_i p6 hp6 H7 S7 e7
    have Sa := ((((s1.trans S2).trans S3).trans S4).trans S5).trans (S6.trans S7)
    refine tfor_it (J := Its (S t)) (H1 := H7) (n := t.length) (G := fun _ => True) (fun R hR => ⟨_, rfl, _, rfl, hR⟩) walk_text (fun i σ H' => ∃ v5 v6 xs, σ = [some (V.ref p), some (V.str (S t)), some (V.int 99), some (V.ref l), some (V.ref p6), v5, v6, none, none, none] ∧
      Same H6 H' ∧ H' p6 = some (.lst xs) ∧ Paired (fun v row => ∃ l, v = .ref l ∧ l ≠ p6 ∧ H l = none ∧ H' l = some (.lst (intsV row))) xs ((List.range (i + 1)).map fun j => curT r (t.take j))) ?_ (fun _ _ _ _ _ => trivial) ?_ ?_
    · refine ⟨_, _, _, rfl, S7, e7, ?_⟩
      refine .cons ⟨p5, rfl, ne_of_none e6 hp6, ((((s1.trans S2).trans S3).trans S4).trans S5).free hp5, ?_⟩ .nil
      exact S7 _ _ e6
    · rintro i x σ Hx H8 hi ⟨v5, v6, xs, rfl, S8, e8, prs⟩ ⟨rfl, c, hc, rfl⟩
      walk_at "rd"
      have Sb := (((((s1.trans S2).trans S3).trans S4).trans S5).trans S6).trans S8
      have el := S8 _ _ (S6 _ _ (S5 _ _ (S4 _ _ (S3 _ _ (S2 _ _ e1)))))
      refine tlc_map r.sts (fun s => oI (costT r s c)) (J := Itl K l) (H1 := H8) (G := fun H => SqL K H l (r.sts.map fun s => .str (S (sT s)))) (fun R hR => ?_) (List.length_map _ ▸ walk_list) ?_ (fun H s => .inl (.inl (s _ _ el))) ?_ ?_
      · walk_at "rd"
        exact ⟨⟨_, .inl (.inl el)⟩, hR⟩
      · simp only [RS.sts, List.length_cons, List.length_map]; omega
      · rintro R R' j s x H9 H9' hj s9 ⟨rfl, hx⟩ hk
        rw [List.getElem?_map, hj] at hx
        cases hx
        walk_at "rdh"
        exact ⟨p, dr, r, s, c, rfl, s9 _ _ (Sb _ _ hR), ok, fun H10 s10 => hk H10 s10⟩
      intro D H9 hD s9 e9
      rw [List.range_succ, List.map_append] at prs
      obtain ⟨ys, y, rfl, pr1, pl, rfl, np, npn, epl⟩ := Paired.snoc_inv prs
      have np9 := Ne.symm (ne_of_none e8 hD)
      have e9p := s9 _ _ e8
      have hrow := cur_len r (t.take i)
      refine ⟨.inl ⟨rfl, _, .inl (.inl e9p)⟩, ?_⟩
      refine tlc_map ((curT r (t.take i)).zip r.sts) (fun z => .int ((match costT r z.2 c with | none => 99 | some k => z.1 + k : Nat))) (J := Itz K pl D) (H1 := H9) (G := fun H => SqL K H pl (intsV (curT r (t.take i))) ∧ SqL K H D (r.sts.map fun s => oI (costT r s c))) (fun R hR => ?_) (walk_zip (by simp [List.length_zip])) ?_ (fun H s => ⟨.inl (.inl (s _ _ (s9 _ _ epl))), .inl (.inl (s _ _ e9))⟩) ?_ ?_
      · walk_at "rd"
        exact ⟨_, .inl (.inl e9p), _, atI_last _ _, pl, rfl, ⟨_, .inl (.inl (s9 _ _ epl))⟩, ⟨_, .inl (.inl e9)⟩, hR⟩
      · rw [List.length_zip, hrow]
        have := Nat.min_le_left (r.quotes.length + 1) r.sts.length
        omega
      · rintro R R' j z x H10 H10' hj s10 ⟨T0, x1, x2, rfl, hT0, rfl, hx1, hx2⟩ hk
        walk_at "rdh"
        rw [List.getElem?_zip_eq_some] at hj
        obtain ⟨hj1, hj2⟩ := hj
        dsimp only [intsV] at hx1 hx2
        rw [List.getElem?_map, hj1] at hx1
        rw [List.getElem?_map, hj2] at hx2
        cases hx1
        cases hx2
        refine ⟨_, .inl (.inl upd_same), rfl, _, _, rfl, _, _, rfl, rfl, ?_⟩
        have hk := hk (upd H10 T0 (HO.tup [V.int (z.1 : Nat), oI (costT r z.2 c)])) (same_new hT0)
        cases hc2 : costT r z.2 c with
        | none =>
          rw [hc2] at hk
          refine ite2 (fun _ => ?_) (fun q => absurd (by show oI (costT r z.2 c) = V.non; rw [hc2]; rfl) q)
          dsimp only
          rw [hc2]
          exact hk
        | some k =>
          rw [hc2] at hk
          refine ite2 (fun q => ?_) (fun _ => ?_)
          · have q : oI (costT r z.2 c) = V.non := q
            rw [hc2] at q
            cases q
          dsimp only
          rw [hc2]
          exact ⟨_, rfl, _, rfl, hk⟩
      intro D2 H10 hD2 s10 e10
      have enx : ((curT r (t.take i)).zip r.sts).map (fun z => V.int ((match costT r z.2 c with | none => 99 | some k => z.1 + k : Nat))) = intsV (nextT r (curT r (t.take i)) c) := by
        rw [nextT, ← List.map_uncurry_zip_eq_zipWith, intsV, List.map_map]
        rfl
      refine ⟨D2, _, rfl, by rw [e10, enx], ?_, ?_, fun D3 H11 hD3 s11 e11 => ?_⟩
      · intro z
        have := congrArg List.length z
        rw [nextT, List.length_zipWith, hrow, RS.sts, List.length_cons, List.length_map] at this
        simp at this
      · rw [nextT, List.length_zipWith, hrow]
        have := Nat.min_le_left (r.quotes.length + 1) r.sts.length
        omega
      have s98 := (s9.trans s10).trans s11
      refine ⟨_, s98 _ _ e8, ?_, ?_, ?_⟩
      · have := pr1.length
        rw [List.length_map, List.length_range] at this
        exact Nat.lt_of_lt_of_le (show _ < 1000 by simp only [List.length_append, List.length_cons, List.length_nil]; omega) (by decide)
      · exact Same.mut (S8.trans s98) hp6
      · have mv : ∀ {v row}, (∃ l, v = V.ref l ∧ l ≠ p6 ∧ H l = none ∧ H8 l = some (.lst (intsV row))) → ∃ l, v = V.ref l ∧ ¬ l = p6 ∧ H l = none ∧ upd H11 p6 (HO.lst (ys ++ [V.ref pl] ++ [V.ref D3])) l = some (.lst (intsV row)) := fun ⟨l, h1, h2, hn, h3⟩ => ⟨l, h1, h2, hn, by rw [upd_ne h2]; exact s98 _ _ h3⟩
        have n3 : D3 ≠ p6 := fun z => by
          have := s10 _ _ (s9 _ _ e8)
          rw [← z, hD3] at this; cases this
        rw [List.range_succ, List.map_append, List.range_succ, List.map_append]
        refine Paired.app (Paired.app (Paired.mapP pr1 fun _ _ z => mv z) (.cons (mv ⟨pl, rfl, np, npn, epl⟩) .nil)) (.cons ⟨D3, rfl, n3, (Sb.trans (s9.trans s10)).free hD3, ?_⟩ .nil)
        rw [upd_ne n3, e11]
        have e1 := take_at hc
        show _ = some (HO.lst (intsV (curT r (t.take (i + 1)))))
        rw [e1, curT_snoc]
        rfl
    · rintro σ H8 ⟨v5, v6, xs, rfl, S8, e8, prs⟩
      walk_at "rd"
      have Sb := ((((s1.trans S2).trans S3).trans S4).trans S5).trans S6
      refine k p6 H8 xs (Sb.free hp6) (Sb.trans S8) e8 (Paired.mapP prs fun _ _ ⟨l, h1, _, h3, h2⟩ => ⟨l, h1, h3, h2⟩)
def sp_written_by (a : Ad) : Sp := fun vs H Q _ => ∃ p dr r w lr xs rows t, vs = [.ref p, .str (S w), .ref lr] ∧ H p = some (.ins a.c_Rules dr (RS.f r)) ∧ r.Ok ∧ H lr = some (.lst xs) ∧ RowsV H xs rows ∧ rows.length = w.length + 1 ∧ (∀ row ∈ rows, row.length = r.sts.length) ∧ w.length ≤ 100 ∧
  wrGo r w rows 1000 [] w.length 0 = some t ∧ ∀ H', Same H H' → Q (.str (S t)) H'
theorem ok_written_by (T : Txt K mg a) : FnOk P w K mg base CX0 4 a.f_written_by a.d_written_by P_written_by (sp_written_by a) := by
  refine T.F_written_by.ok sc_written_by (fun vs H Q E h => ?_) (fun cdv A outer s H vs Q E hr h => ?_)
  · obtain ⟨p, dr, r, w', lr, xs, rows, t, rfl, _⟩ := h
    rfl
  · obtain ⟨p, dr, r, wd, lr, xs, rows, t, rfl, hR, ok, hlr, hrows, hlen, hrl, hw, hgo, k⟩ := h
    have G_states_of := ok_states_of (P := P) (w := w) (base := base) T
    have B_states_of := bi_states_of T
    have G_cost_of := ok_cost_of (P := P) (w := w) (base := base) T
    have B_cost_of := bi_cost_of T
    refine ⟨_,
(pss_cons (ps_asg (pe_tup (pa_cons (pe_call G_states_of (hr.mono (by decide)) rfl T.f_states_of.g T.f_states_of.k B_states_of .nil pass0 (pa_cons (pv 0) pa_nil)) (pa_cons pe_str (pa_cons (pe_callB call_len_str (by rfl) T.b_len PySem.boot_len (pa_cons (pv 1) pa_nil)) (pa_cons pe_int pa_nil))))) (pg_tup rfl (pgs_cons (pg_name (i := 3) sc_written_by.nd rfl (by first | exact Or.inl rfl | exact Or.inr rfl)) (pgs_cons (pg_name (i := 4) sc_written_by.nd rfl (by first | exact Or.inl rfl | exact Or.inr rfl)) (pgs_cons (pg_name (i := 5) sc_written_by.nd rfl (by first | exact Or.inl rfl | exact Or.inr rfl)) (pgs_cons (pg_name (i := 6) sc_written_by.nd rfl (by first | exact Or.inl rfl | exact Or.inr rfl)) pgs_nil))))))
    (pss_cons (ps_while PassesOwn.never (PW.pt (pw_or (pt_cmpR op_gt (pv 5) pe_int (nomark _)) (pw_or1 (pt_cmpR op_gt (pv 6) pe_int (nomark _))))) (pss_cons (ps_set (i := 7) sc_written_by.nd rfl (by first | exact Or.inl rfl | exact Or.inr rfl) (pe_ix ix_list (pv 2) (pv 5) (fun _ _ => rfl)))
    (pss_cons (ps_set (i := 8) sc_written_by.nd rfl (by first | exact Or.inl rfl | exact Or.inr rfl) (pe_ifExp (pt_cmpR op_gt (pv 5) pe_int (nomark _)) (pe_call G_cost_of (hr.mono (by decide)) rfl T.f_cost_of.g T.f_cost_of.k B_cost_of .nil pass0 (pa_cons (pv 0) (pa_cons (pe_ix ix_list (pv 3) (pv 6) (fun _ _ => rfl)) (pa_cons (pe_ix ix_str (pv 1) (pe_op op_sub (pv 5) pe_int) (fun _ _ => rfl)) pa_nil)))) pe_non))
    (pss_one (ps_if (PW.pt (pw_and (pt_cmpR op_notN (pv 8) pe_non (nomark _)) (pw_and1 (pt_cmpR op_eq (pe_op op_add (pe_ix ix_list (pe_ix ix_list (pv 2) (pe_op op_sub (pv 5) pe_int) (fun _ _ => rfl)) (pv 6) (fun _ _ => rfl)) (pv 8)) (pe_ix ix_list (pv 7) (pv 6) (fun _ _ => rfl)) (nomark _))))) (pss_cons (ps_set (i := 4) sc_written_by.nd rfl (by first | exact Or.inl rfl | exact Or.inr rfl) (pe_op op_add_str (pe_ifExp (pt_cmpR op_eq (pv 8) pe_int (nomark _)) (pe_ix ix_str (pv 1) (pe_op op_sub (pv 5) pe_int) (fun _ _ => rfl)) (pe_op op_add_str (pe_fld (pv 0) rfl) (pe_ix ix_str (pv 1) (pe_op op_sub (pv 5) pe_int) (fun _ _ => rfl)))) (pv 4)))
    (pss_one (ps_aug (i := 5) sc_written_by.nd rfl (by first | exact Or.inl rfl | exact Or.inr rfl) pe_int ip_sub))) (pss_one (ps_if (pt_cmpR op_gt (pv 6) pe_int (nomark _)) (pss_cons (ps_set (i := 4) sc_written_by.nd rfl (by first | exact Or.inl rfl | exact Or.inr rfl) (pe_op op_add_str (pe_ix ix_list (pv 3) (pv 6) (fun _ _ => rfl)) (pv 4)))
    (pss_one (ps_set (i := 6) sc_written_by.nd rfl (by first | exact Or.inl rfl | exact Or.inr rfl) pe_int))) (pss_cons (ps_set (i := 6) sc_written_by.nd rfl (by first | exact Or.inl rfl | exact Or.inr rfl) (pe_ix ix_list (pe_lc (own := [("k", 9)]) (g := gName 9) rfl sc_written_by.nd (pi_range2 rfl T.b_range (pa_cons pe_int (pa_cons (pe_callB call_len_seq (by rfl) T.b_len PySem.boot_len (pa_cons (pv 3) pa_nil)) pa_nil))) (blkOk_by (own := [("k", 9)]) (N := N_written_by) (sc := defScope st_written_by) (by decide +kernel)) (fun _ _ _ _ _ => (pg_name (i := 9) sc_written_by.nd rfl (by first | exact Or.inl rfl | exact Or.inr rfl))) (fun _ _ _ _ _ => (pts_one (pt_cmpR op_eq (pe_op op_add (pe_ix (ix_listK (K := K) rfl) (pv 7) (pv 9) (fun _ _ => rfl)) pe_int) (pe_ix (ix_listK (K := K) rfl) (pv 7) pe_int (fun _ _ => rfl)) (nomark _)))) (fun _ _ _ _ _ => (pv 9))) pe_int (fun _ _ => rfl)))
    (pss_one (ps_set (i := 4) sc_written_by.nd rfl (by first | exact Or.inl rfl | exact Or.inr rfl) (pe_op op_add_str (pe_ix ix_list (pv 3) (pv 6) (fun _ _ => rfl)) (pv 4))))))))))))
    (pss_one (ps_ret (pv 4)))))
      , ?_⟩
    rw [show start N_written_by [V.ref p, V.str (S wd), V.ref lr] = [some (.ref p), some (.str (S wd)), some (.ref lr), none, none, none, none, none, none, none] from rfl]
    walk_at "rd"
    refine ⟨p, dr, r, rfl, hR, ok, fun ls H1 hls s1 e1 => ⟨line_le (by omega), ?_⟩⟩
    walk_at "al"
    rename_i p1 hp1 H2 S2 e2
    refine ⟨_, .inl (.inl e2), rfl, _, _, rfl, _, _, rfl, _, _, rfl, _, _, rfl, rfl, ?_⟩
    have hql := r.quotes_len ok
    have hsl : r.sts.length = r.quotes.length + 1 := by simp [RS.sts]
    refine while_rule (fun n σ H' => ∃ v7 v8 v9 found at_ st, σ = [some (V.ref p), some (V.str (S wd)), some (V.ref lr), some (V.ref ls), some (V.str (S found)), some (V.int (at_ : Nat)), some (V.int (st : Nat)), v7, v8, v9] ∧ Same H2 H' ∧
      wrGo r wd rows n found at_ st = some t ∧ at_ ≤ wd.length ∧ st < r.sts.length ∧ n ≤ 1000 ∧ found.length ≤ 2 * (1000 - n)) 1000 ⟨_, _, _, [], wd.length, 0, rfl, Same.refl _, hgo, Nat.le_refl _, by omega, Nat.le_refl _, Nat.zero_le _⟩ ?_
    rintro n σ1 H3 R ⟨v7, v8, v9, found, at_, st, rfl, S3, go, hat, hst, hn, hf⟩ hT hF
    walk_at "rd"
    cases n with
    | zero => rw [wrGo] at go; cases go
    | succ n =>
    rw [wrGo] at go
    have Sa := (s1.trans S2).trans S3
    have hR3 := Sa _ _ hR
    have els := S3 _ _ (S2 _ _ e1)
    have elr := Sa _ _ hlr
    have gr : ∀ i, i ≤ wd.length → ∃ l, atI xs (i : Nat) = some (.ref l) ∧ H3 l = some (.lst (intsV (rowAt rows i))) ∧ (rowAt rows i).length = r.sts.length := fun i hi => by
      have e : rows[i]? = some (rowAt rows i) := by
        rw [rowAt, List.getD_eq_getElem?_getD, List.getElem?_eq_getElem (by omega)]
        rfl
      obtain ⟨x, h1, l, rfl, h2⟩ := Paired.right hrows e
      exact ⟨l, atI_nat h1, Sa _ _ h2, hrl _ (List.mem_of_getElem? e)⟩
    have gn : ∀ (row : List Nat) k, row.length = r.sts.length → k < r.sts.length → atI (intsV row) (k : Nat) = some (.int (row.getD k 0 : Nat)) := fun row k h1 h2 => by
      refine atI_nat ?_
      rw [List.getElem?_map, List.getElem?_eq_getElem (by omega), List.getD_eq_getElem?_getD, List.getElem?_eq_getElem (by omega)]
      rfl
    have gs : ∀ k, k < r.sts.length → atI (r.sts.map fun s => V.str (S (sT s))) (k : Nat) = some (.str (S (sT (r.sts.getD k none)))) := fun k h2 => by
      refine atI_nat ?_
      rw [List.getElem?_map, List.getD_eq_getElem?_getD, List.getElem?_eq_getElem h2]
      rfl
    obtain ⟨rl, h1, hrl3, hrn⟩ := gr at_ hat
    by_cases h0 : at_ = 0 ∧ st = 0
    · rw [if_pos h0] at go
      obtain ⟨rfl, rfl⟩ := h0
      cases go
      refine ite2 (fun c => absurd c (by decide)) (fun _ => ?_)
      refine hF H3 ?_
      walk_at "rd"
      exact k H3 Sa
    rw [if_neg h0] at go
    suffices hx : R true H3 by
      refine ite2 (fun _ => hx) (fun c => ?_)
      rw [decide_eq_true (show (0 : Int) < st by omega)]
      exact hx
    refine hT H3 ?_
    clear hT hF
    have row0e : ∀ k, k < r.sts.length → atI (intsV (rowAt rows at_)) (k : Nat) = some (.int ((rowAt rows at_).getD k 0 : Nat)) := fun k => gn _ k hrn
    refine tseq_split (fun σ' H' => σ' = [some (V.ref p), some (V.str (S wd)), some (V.ref lr), some (V.ref ls), some (V.str (S found)), some (V.int (at_ : Nat)), some (V.int (st : Nat)), some (V.ref rl), v8, v9] ∧ H' = H3) (fun N hN => ?_) ?_
    · walk_at "rd"
      exact ⟨_, .inl (.inl elr), _, h1, hN _ _ ⟨rfl, rfl⟩⟩
    rintro σ' H3 ⟨rfl, rfl⟩
    refine tseq_split (fun σ' H' => σ' = [some (V.ref p), some (V.str (S wd)), some (V.ref lr), some (V.ref ls), some (V.str (S found)), some (V.int (at_ : Nat)), some (V.int (st : Nat)), some (V.ref rl), some (oI (if at_ = 0 then none else costT r (r.sts.getD st none) (wd.getD (at_ - 1) 0))), v9] ∧ Same H3 H') (fun N hN => ?_) ?_
    · walk_at "rd"
      by_cases ha : at_ = 0
      · subst ha
        refine ite2 (fun c => absurd c (by decide)) (fun _ => ?_)
        exact hN _ _ ⟨rfl, Same.refl _⟩
      · refine ite2 (fun _ => ?_) (fun c => absurd (show (0 : Int) < at_ by omega) c)
        have ew : atI wd ((at_ : Int) - 1) = some (wd.getD (at_ - 1) 0) := by
          rw [show (at_ : Int) - 1 = ((at_ - 1 : Nat) : Int) by omega]
          refine atI_nat ?_
          rw [List.getD_eq_getElem?_getD, List.getElem?_eq_getElem (by omega)]
          rfl
        refine ⟨_, .inl (.inl els), _, gs st hst, line_le (by omega), _, ew, p, dr, r, _, _, rfl, hR3, ok, fun H4 s4 => ?_⟩
        refine hN _ _ ⟨?_, s4⟩
        rw [if_neg ha]
    rintro σ' H4 ⟨rfl, S4⟩
    have els4 := S4 _ _ els
    have elr4 := S4 _ _ elr
    have hR4 := S4 _ _ hR3
    have hrl4 := S4 _ _ hrl3
    have S24 := S3.trans S4
    have nB := T.n_Rules_bend
    have hcR := T.c_Rules.cl
    obtain ⟨cv, hcv⟩ : ∃ cv, cv = if at_ = 0 then none else costT r (r.sts.getD st none) (wd.getD (at_ - 1) 0) := ⟨_, rfl⟩
    rw [← hcv]
    cases cv with
    | none =>
      have hh : wrHit r wd rows at_ st = none := by
        unfold wrHit
        by_cases ha : at_ = 0
        · rw [if_pos ha]
        · rw [if_neg ha] at hcv
          rw [if_neg ha, ← hcv]
      rw [hh] at go
      dsimp only [oI] at go ⊢
      walk_at "rd"
      refine ite2 (fun q => ?_) (fun q => ?_)
      · have q' : st > 0 := by omega
        rw [if_pos q'] at go
        have sl : (sT (r.sts.getD st none)).length ≤ 1 := by cases r.sts.getD st none <;> simp [sT]
        exact ⟨_, .inl (.inl els4), _, gs st hst, _, rfl, line_le' (by rw [S_len]; omega), n, Nat.lt_succ_self n, _, _, _, sT (r.sts.getD st none) ++ found, S_app _ _, at_, rfl, 0, rfl, rfl, rfl, rfl, S24, go, hat, by omega, by omega, by rw [List.length_append]; omega⟩
      · have q' : ¬ st > 0 := by omega
        have q0 : st = 0 := by omega
        rw [if_neg q'] at go
        refine tlc_all (ι := Unit) (C := fun _ => True) (J := fun _ => Itr 1 (r.sts.length - 1)) (H1 := fun _ => H4) (fun R hR => ?_) fun _ _ D hD => ?_
        · walk_at "rd"
          refine ⟨_, .inl (.inl (.inl els4)), by decide, by decide, by omega, by rw [List.length_map]; omega, ?_⟩
          rw [List.length_map, show ((r.sts.length : Int) - 1).toNat = r.sts.length - 1 by omega]
          exact hR () trivial
        refine lc_filt (List.range' 1 (r.sts.length - 1)) (fun k => decide ((rowAt rows at_).getD k 0 + 1 = (rowAt rows at_).getD 0 0)) (fun k => .int (k : Nat)) (G := fun _ => True) (Y := YFn fun i => .int (1 + i)) (by rw [List.length_range']; exact walk_range) (by rw [List.length_range']; omega) hD (fun _ _ => trivial) ?_ ?_
        · rintro R R' j kk x H5 H6 hj s5 ⟨rfl, rfl⟩ hk1 hk2
          walk_at "rdh"
          obtain ⟨hjl, hje⟩ := List.getElem?_eq_some_iff.mp hj
          rw [List.length_range'] at hjl
          rw [List.getElem_range', Nat.one_mul] at hje
          have ej : (1 : Int) + (j : Nat) = ((1 + j : Nat) : Int) := by omega
          rw [ej]
          subst hje
          have a1 := row0e (1 + j) (by omega)
          have a2 := row0e 0 (by omega)
          refine ⟨_, .inl (.inl (s5 _ _ hrl4)), _, a1, _, rfl, _, .inl (.inl (s5 _ _ hrl4)), _, a2, rfl, ?_⟩
          refine ite2 (fun e => ?_) (fun e => ?_)
          · have e := V.int.inj e
            exact hk1 _ (Same.refl _) (decide_eq_true (by omega))
          · exact hk2 _ (Same.refl _) (decide_eq_false fun z => e (congrArg V.int (by omega)))
        · intro H5 s5 e5
          change H5 D = some (.lst ((wrOn r rows at_).map fun k => V.int (k : Nat))) at e5
          cases hon : wrOn r rows at_ with
          | nil => rw [hon] at go; cases go
          | cons k1 more =>
            rw [hon] at go e5
            have mem : k1 ∈ wrOn r rows at_ := by rw [hon]; exact List.mem_cons_self
            have hk1 : k1 < r.sts.length := by
              have := (List.mem_filter.mp mem).1
              rw [List.mem_range'_1] at this
              omega
            have sl : (sT (r.sts.getD k1 none)).length ≤ 1 := by cases r.sts.getD k1 none <;> simp [sT]
            exact ⟨D, rfl, _, .inl (.inl e5), _, atI_nat (j := 0) rfl, _, _, rfl, .inl (.inl (s5 _ _ els4)), _, gs k1 hk1, _, rfl, line_le' (by rw [S_len]; omega), n, Nat.lt_succ_self n, _, _, _, sT (r.sts.getD k1 none) ++ found, S_app _ _, at_, rfl, k1, rfl, rfl, rfl, rfl, S24.trans s5, go, hat, hk1, by omega, by rw [List.length_append]; omega⟩
    | some c =>
      have ha : at_ ≠ 0 := fun z => by rw [if_pos z] at hcv; cases hcv
      rw [if_neg ha] at hcv
      have hh : wrHit r wd rows at_ st = if (rowAt rows (at_ - 1)).getD st 0 + c = (rowAt rows at_).getD st 0 then some c else none := by
        unfold wrHit
        rw [if_neg ha, ← hcv]
      rw [hh] at go
      dsimp only [oI] at go ⊢
      walk_at "rd"
      obtain ⟨rm, m1, m2, m3⟩ := gr (at_ - 1) (by omega)
      have ea : (at_ : Int) - 1 = ((at_ - 1 : Nat) : Int) := by omega
      rw [ea]
      refine ⟨_, .inl (.inl elr4), _, m1, rm, rfl, _, .inl (.inl (S4 _ _ m2)), _, gn _ st m3 hst, _, rfl, _, .inl (.inl hrl4), _, row0e st hst, rfl, ?_⟩
      have ew : atI wd ((at_ - 1 : Nat) : Int) = some (wd.getD (at_ - 1) 0) := by
        refine atI_nat ?_
        rw [List.getD_eq_getElem?_getD, List.getElem?_eq_getElem (by omega)]
        rfl
      have l4 := ok.l4
      refine ite2 (fun e => ?_) (fun e => ?_)
      · have e := V.int.inj e
        rw [if_pos (by omega)] at go
        dsimp only at go
        refine ite2 (fun c1 => ?_) (fun c1 => ?_)
        · rw [if_pos (by omega)] at go
          exact ⟨line_le (by omega), _, ew, line_le' (by omega), n, Nat.lt_succ_self n, _, _, _, at_ - 1, rfl, st, rfl, rfl, rfl, rfl, S24, go, by omega, hst, by omega, by omega⟩
        · rw [if_neg (by omega)] at go
          exact ⟨_, _, _, hR4, hcR, nB, _, lk_bend r, line_le (by omega), _, ew, _, rfl, line_le (by rw [S_len]; omega), line_le' (by rw [S_app, S_len, List.length_append]; simp only [List.length_cons, List.length_nil]; omega), n, Nat.lt_succ_self n, _, _, _,
            (r.bend ++ [wd.getD (at_ - 1) 0]) ++ found, by rw [S_app, S_app], at_ - 1, rfl, st, rfl, rfl, rfl, rfl, S24, go, by omega, hst, by omega, by simp only [List.length_append, List.length_cons, List.length_nil]; omega⟩
      rw [if_neg (fun z => e (congrArg V.int (by omega)))] at go
      dsimp only at go
      refine ite2 (fun q => ?_) (fun q => ?_)
      · have q' : st > 0 := by omega
        rw [if_pos q'] at go
        have sl : (sT (r.sts.getD st none)).length ≤ 1 := by cases r.sts.getD st none <;> simp [sT]
        exact ⟨_, .inl (.inl els4), _, gs st hst, _, rfl, line_le' (by rw [S_len]; omega), n, Nat.lt_succ_self n, _, _, _, sT (r.sts.getD st none) ++ found, S_app _ _, at_, rfl, 0, rfl, rfl, rfl, rfl, S24, go, hat, by omega, by omega, by rw [List.length_append]; omega⟩
      · have q' : ¬ st > 0 := by omega
        have q0 : st = 0 := by omega
        rw [if_neg q'] at go
        refine tlc_all (ι := Unit) (C := fun _ => True) (J := fun _ => Itr 1 (r.sts.length - 1)) (H1 := fun _ => H4) (fun R hR => ?_) fun _ _ D hD => ?_
        · walk_at "rd"
          refine ⟨_, .inl (.inl (.inl els4)), by decide, by decide, by omega, by rw [List.length_map]; omega, ?_⟩
          rw [List.length_map, show ((r.sts.length : Int) - 1).toNat = r.sts.length - 1 by omega]
          exact hR () trivial
        refine lc_filt (List.range' 1 (r.sts.length - 1)) (fun k => decide ((rowAt rows at_).getD k 0 + 1 = (rowAt rows at_).getD 0 0)) (fun k => .int (k : Nat)) (G := fun _ => True) (Y := YFn fun i => .int (1 + i)) (by rw [List.length_range']; exact walk_range) (by rw [List.length_range']; omega) hD (fun _ _ => trivial) ?_ ?_
        · rintro R R' j kk x H5 H6 hj s5 ⟨rfl, rfl⟩ hk1 hk2
          walk_at "rdh"
          obtain ⟨hjl, hje⟩ := List.getElem?_eq_some_iff.mp hj
          rw [List.length_range'] at hjl
          rw [List.getElem_range', Nat.one_mul] at hje
          have ej : (1 : Int) + (j : Nat) = ((1 + j : Nat) : Int) := by omega
          rw [ej]
          subst hje
          have a1 := row0e (1 + j) (by omega)
          have a2 := row0e 0 (by omega)
          refine ⟨_, .inl (.inl (s5 _ _ hrl4)), _, a1, _, rfl, _, .inl (.inl (s5 _ _ hrl4)), _, a2, rfl, ?_⟩
          refine ite2 (fun e => ?_) (fun e => ?_)
          · have e := V.int.inj e
            exact hk1 _ (Same.refl _) (decide_eq_true (by omega))
          · exact hk2 _ (Same.refl _) (decide_eq_false fun z => e (congrArg V.int (by omega)))
        · intro H5 s5 e5
          change H5 D = some (.lst ((wrOn r rows at_).map fun k => V.int (k : Nat))) at e5
          cases hon : wrOn r rows at_ with
          | nil => rw [hon] at go; cases go
          | cons k1 more =>
            rw [hon] at go e5
            have mem : k1 ∈ wrOn r rows at_ := by rw [hon]; exact List.mem_cons_self
            have hk1 : k1 < r.sts.length := by
              have := (List.mem_filter.mp mem).1
              rw [List.mem_range'_1] at this
              omega
            have sl : (sT (r.sts.getD k1 none)).length ≤ 1 := by cases r.sts.getD k1 none <;> simp [sT]
            exact ⟨D, rfl, _, .inl (.inl e5), _, atI_nat (j := 0) rfl, _, _, rfl, .inl (.inl (s5 _ _ els4)), _, gs k1 hk1, _, rfl, line_le' (by rw [S_len]; omega), n, Nat.lt_succ_self n, _, _, _, sT (r.sts.getD k1 none) ++ found, S_app _ _, at_, rfl, k1, rfl, rfl, rfl, rfl, S24.trans s5, go, hat, hk1, by omega, by rw [List.length_append]; omega⟩
end
end Qw

set_option Elab.async false
set_option linter.all false
set_option maxRecDepth 100000
set_option maxHeartbeats 4000000
namespace Qw
open PySem L2
local macro_rules | `(tactic| walk_at "rd") => `(tactic| simp only [iEnum, iRng3, tRevL, rSlS, rSlL, gSub, rSetL, wipe, List.map_cons, List.map_nil, rAll, rAny, rIsi, tM1, tM0, iZipLT, iZip, iRng2, tLenSetS, rListStr, rMulS, rRep, rCntB, tRevS, rNeD, rEqD, tSeq, tNext, tAsg, tRet, tRetN, tDrop, tIfS, sFld, sFldAug, tVar, tC, tOp, tUn, tTest, tB, tAnd, tOr, tNot, tAndV, tOrV, tNotV, tIf, tTup, tLst, tCons, tNil, tCB, tCall, tMeth, tMake, tFld, rI, rI0, rU, rEq, rNe, rCat, gName, gTup, gCons, gNil, tPar, tPar3, tBM, tBM0, rAppend, rExtend, rPopAt, rIxL, rIxT, rIxS, tSl, rSlS, rSlL, tPart, tNoPart, iStr, iTup, iList, iRng1, tAug, ipI, L2.rAdd, L2.rSub, L2.rAddS, tChain, rIsB, rNotB, scal_ss, scal_ii, scal_bb, scal_nn, scal_in, scal_ni, tYes,
  cx_K, cx_N, List.getElem?_cons_zero, List.getElem?_cons_succ, List.set_cons_zero, List.set_cons_succ, List.nil_append, List.cons_append, List.append_nil, List.length_cons, List.length_nil, Nat.zero_add,
  Option.some.injEq, V.ref.injEq, V.int.injEq, V.str.injEq, V.bl.injEq, HO.ins.injEq, HO.lst.injEq, HO.tup.injEq, List.cons.injEq, exists_eq_left, exists_eq_left', exists_eq_right, exists_eq_right', and_true, true_and, exists_and_left, exists_and_right, and_assoc, decide_eq_true_eq, Bool.not_eq_true', decide_eq_false_iff_not, reduceCtorEq, exists_const, forall_const, if_true, if_false, false_and, and_false, ite_true, ite_false, Bool.true_eq_false, Bool.false_eq_true, Nat.reduceLeDiff, Nat.reduceAdd, small_line, small_lt, upd_ne, ne_eq, not_false_eq_true, Nat.zero_le, Prod.mk.injEq, upd_same, upd_upd, S_tl, S_len, S_app, S_one, S_inj,
  lk_breaks, lk_hard, lk_soft, lk_bend, lk_note, lk_rules, lk_state, lk_bent, lk_word, lk_begun, lk_opened, lk_place, pt_state, pt_bent, pt_word, pt_wordS, pt_wordN, pt_begun, pt_opened, pt_place, pt_place1, len_mf, litv_empty, litv_note, litv_nl, mf_inj, rf_inj, lkn_begin, lkn_ended, lkn_plain, lkn_quoted, lkn_step, lkn_fault, lkn_key, lkn_told, lkn_quotes, lkn_special, pt_open1, not_true_eq_false, not_false_eq_true])
local macro_rules | `(tactic| walk_at "rdh") => `(tactic| simp only [iEnum, iRng3, tRevL, rSlS, rSlL, gSub, rSetL, wipe, List.map_cons, List.map_nil, rAll, rAny, rIsi, tM1, tM0, iZipLT, iZip, iRng2, tLenSetS, rListStr, rMulS, rRep, rCntB, tRevS, rNeD, rEqD, tSeq, tNext, tAsg, tRet, tRetN, tDrop, tIfS, sFld, sFldAug, tVar, tC, tOp, tUn, tTest, tB, tAnd, tOr, tNot, tAndV, tOrV, tNotV, tIf, tTup, tLst, tCons, tNil, tCB, tCall, tMeth, tMake, tFld, rI, rI0, rU, rEq, rNe, rCat, gName, gTup, gCons, gNil, tPar, tPar3, tBM, tBM0, rAppend, rExtend, rPopAt, rIxL, rIxT, rIxS, tSl, rSlS, rSlL, tPart, tNoPart, iStr, iTup, iList, iRng1, tAug, ipI, L2.rAdd, L2.rSub, L2.rAddS, tChain, rIsB, rNotB, scal_ss, scal_ii, scal_bb, scal_nn, scal_in, scal_ni, tYes,
  cx_K, cx_N, List.getElem?_cons_zero, List.getElem?_cons_succ, List.set_cons_zero, List.set_cons_succ, List.nil_append, List.cons_append, List.append_nil, List.length_cons, List.length_nil, Nat.zero_add,
  Option.some.injEq, V.ref.injEq, V.int.injEq, V.str.injEq, V.bl.injEq, HO.ins.injEq, HO.lst.injEq, HO.tup.injEq, List.cons.injEq, exists_eq_left, exists_eq_left', exists_eq_right, exists_eq_right', and_true, true_and, exists_and_left, exists_and_right, and_assoc, decide_eq_true_eq, Bool.not_eq_true', decide_eq_false_iff_not, reduceCtorEq, exists_const, forall_const, if_true, if_false, false_and, and_false, ite_true, ite_false, Bool.true_eq_false, Bool.false_eq_true, Nat.reduceLeDiff, Nat.reduceAdd, small_line, small_lt, upd_ne, ne_eq, not_false_eq_true, Nat.zero_le, Prod.mk.injEq, upd_same, upd_upd, S_tl, S_len, S_app, S_one, S_inj,
  lk_breaks, lk_hard, lk_soft, lk_bend, lk_note, lk_rules, lk_state, lk_bent, lk_word, lk_begun, lk_opened, lk_place, pt_state, pt_bent, pt_word, pt_wordS, pt_wordN, pt_begun, pt_opened, pt_place, pt_place1, len_mf, litv_empty, litv_note, litv_nl, mf_inj, rf_inj, lkn_begin, lkn_ended, lkn_plain, lkn_quoted, lkn_step, lkn_fault, lkn_key, lkn_told, lkn_quotes, lkn_special, pt_open1, not_true_eq_false, not_false_eq_true, *])
local macro_rules | `(tactic| walk_at "pl") => `(tactic| (first | decide | (refine Nat.lt_of_le_of_lt (length_putF _ _ _) ?_; repeat (first | decide | refine pl2 ?_))))
local macro_rules | `(tactic| walk_at "al") => `(tactic| (intro p hp; generalize hH : upd _ p _ = H1; obtain ⟨S, e⟩ := gen_new hH hp; clear hH))
theorem call_list_ofK {X : Cx} {K : PySem.W.Frag} (h : X.K = K) : CallR X (.type "list") (fun xs H Q => ∃ p ys, xs = [V.ref p] ∧ (SqL K H p ys ∨ SqT K H p ys) ∧ ∀ l, H l = none → Q (.ref l) (upd H l (.lst ys))) := by
  subst h
  exact call_list_of
/-- a comprehension whose items are told by a relation that knows the new list -/
theorem lc_relD {α : Type} {J : It} {G : Hp → Prop} {Y : Nat → Hp → V → Hp → Prop} {g : TG} {tt : TT} {te : TE} {vs : List Nat} {σ : St} {H1 : Hp} {D : Addr} {Qd : Hp → Prop}
    (as : List α) (F : Hp → V → α → Prop) (mono : ∀ {H H' : Hp} {v : V} {x : α}, Kp D H H' → F H v x → F H' v x)
    (w : Walk J as.length G Y) (hz : as.length ≤ 1000000) (h1 : H1 D = none) (hG : ∀ H, Same H1 H → G H)
    (hs : ∀ (R : VK) (R' : Hp → Prop) i a x H H', as[i]? = some a → Same H1 H → (∃ xs, H D = some (.lst xs)) → Y i H x H' → (∀ y H4, Same H H4 → F H4 y a → R y H4) →
      g x (wipe σ vs) H' fun σ2 H2 => wipe σ2 vs = wipe σ vs ∧ tt σ2 H2 fun b H3 => if b = true then te σ2 H3 R else R' H3)
    (hd : ∀ H ys, Same H1 H → H D = some (.lst ys) → Paired (F H) ys as → Qd H) :
    ∃ W : Nat → Nat → Hp → Prop, (∃ m, W 0 m (upd H1 D (.lst []))) ∧ ∀ i m H, W i m H →
      (J.stop i H ∧ Qd H) ∨ (J.go i H ∧ ∃ Nx : Hp → Prop, (∀ H', Nx H' → ∃ m', m' < m ∧ W (i + 1) m' H') ∧ ∀ x H', J.yld i H x H' → g x (wipe σ vs) H' fun σ2 H2 => wipe σ2 vs = wipe σ vs ∧ tt σ2 H2 fun b H3 =>
        if b = true then te σ2 H3 fun y H4 => ∃ acc, H4 D = some (.lst acc) ∧ acc.length < sizeLine ∧ Nx (upd H4 D (.lst (acc ++ [y]))) else Nx H3) := by
  refine lc_it w (fun i H => Same H1 H ∧ ∃ ys, H D = some (.lst ys) ∧ Paired (F H) ys (as.take i)) ⟨same_new h1, [], upd_same, by simp only [List.take_zero]; exact .nil⟩ (fun _ H _ p => hG H p.1) ?_ fun H p => by
    obtain ⟨p1, ys, p2, p3⟩ := p
    rw [List.take_length] at p3
    exact hd H ys p1 p2 p3
  rintro i x H H' hi ⟨p1, ys, p2, p3⟩ y
  obtain ⟨a, ha⟩ : ∃ a, as[i]? = some a := ⟨as[i], List.getElem?_eq_getElem hi⟩
  refine hs _ _ i a x H H' ha p1 ⟨_, p2⟩ y fun z H4 s4 f4 => ⟨_, s4 _ _ p2, ?_, ?_, _, upd_same, ?_⟩
  · rw [p3.length, List.length_take]
    exact Nat.lt_of_lt_of_le (show min i as.length < 1000001 by omega) (by decide)
  · exact Same.mut (p1.trans s4) h1
  · have kq : Kp D H4 (upd H4 D (.lst (ys ++ [z]))) := kp_upd
    rw [take_at ha]
    exact Paired.app (Paired.mapP p3 fun _ _ f => mono kq (mono (s4.kp D) f)) (.cons (mono kq f4) .nil)
/-- lists of numbers, none at D -/
def RowD (D : Addr) (H : Hp) (v : V) (row : List Nat) : Prop := ∃ l, v = .ref l ∧ l ≠ D ∧ H l = some (.lst (intsV row))
def HtsD (D : Addr) (H : Hp) (v : V) (rows : List (List Nat)) : Prop := ∃ l xs, v = .ref l ∧ l ≠ D ∧ H l = some (.lst xs) ∧ Paired (RowD D H) xs rows
/-- a word's writing -/
def wrT (r : RS) (w : Tx) : Option Tx := wrGo r w (rowsT r w) 1000 [] w.length 0
/-- a word's writing and heights; an empty word's: two quotes, none -/
def oneT (r : RS) (w : Tx) : Option (Tx × List (List Nat)) := if w = [] then (match r.quotes with | [] => none | q :: _ => some ([q, q], [])) else (wrT r w).map fun t => (t, rowsT r w)
section
variable {P : Program} {w : World} {K : PySem.W.Frag} {mg : Str → Option Value} {base : Heap} {a : Ad}
def OneV (H0 H : Hp) (v : V) (d : Tx × List (List Nat)) : Prop := ∃ q l xs, v = .ref q ∧ H q = some (.tup [.str (S d.1), .ref l]) ∧ H0 l = none ∧ H l = some (.lst xs) ∧ Paired (RowN H0 H) xs d.2
def sp_one_written (a : Ad) : Sp := fun vs H Q _ => ∃ p dr r t d, vs = [.ref p, .str (S t)] ∧ H p = some (.ins a.c_Rules dr (RS.f r)) ∧ r.Ok ∧ t.length ≤ 100 ∧ oneT r t = some d ∧ ∀ v H', Same H H' → OneV H H' v d → Q v H'
theorem ok_one_written (T : Txt K mg a) : FnOk P w K mg base CX0 5 a.f_one_written a.d_one_written P_one_written (sp_one_written a) := by
  refine T.F_one_written.ok sc_one_written (fun vs H Q E h => ?_) (fun cdv A outer s H vs Q E hr h => ?_)
  · obtain ⟨p, dr, r, t, d, rfl, _⟩ := h
    rfl
  · obtain ⟨p, dr, r, t, d, rfl, hR, ok, ht, hd, k⟩ := h
    have G_Rules_quotes := ok_Rules_quotes (P := P) (w := w) (base := base) T
    have B_Rules_quotes := bi_Rules_quotes T
    have G_heights_of := ok_heights_of (P := P) (w := w) (base := base) T
    have B_heights_of := bi_heights_of T
    have G_written_by := ok_written_by (P := P) (w := w) (base := base) T
    have B_written_by := bi_written_by T
    refine ⟨_,
(pss_cons (ps_if (pt_cmpR op_eq (pv 1) pe_str (nomark _)) (pss_one (ps_ret (pe_tup (pa_cons (pe_op op_mul_str (pe_ix ix_str (pe_meth0 (pv 0) T.c_Rules.cl T.m_Rules_quotes G_Rules_quotes (hr.mono (by decide)) B_Rules_quotes .nil pass0) pe_int (fun _ _ => rfl)) pe_int) (pa_cons (pe_lst pa_nil) pa_nil))))) pss_nil)
    (pss_cons (ps_set (i := 2) sc_one_written.nd rfl (by first | exact Or.inl rfl | exact Or.inr rfl) (pe_call G_heights_of (hr.mono (by decide)) rfl T.f_heights_of.g T.f_heights_of.k B_heights_of .nil pass0 (pa_cons (pv 0) (pa_cons (pv 1) (pa_cons (pe_glob (v := .int 99) rfl T.g_FAR_writing ⟨_, rfl⟩) pa_nil)))))
    (pss_one (ps_ret (pe_tup (pa_cons (pe_call G_written_by (hr.mono (by decide)) rfl T.f_written_by.g T.f_written_by.k B_written_by .nil pass0 (pa_cons (pv 0) (pa_cons (pv 1) (pa_cons (pv 2) pa_nil)))) (pa_cons (pv 2) pa_nil)))))))
      , ?_⟩
    rw [show start N_one_written [V.ref p, V.str (S t)] = [some (.ref p), some (.str (S t)), none] from rfl]
    walk_at "rd"
    have hql := r.quotes_len ok
    refine ite2 (fun c => ?_) (fun c => ?_)
    · rw [oneT, if_pos c] at hd
      refine ⟨dr, _, hR, lkn_quotes r, p, dr, r, rfl, hR, few_q ok, S r.quotes, rfl, line_le (by rw [S_len]; omega), ?_⟩
      cases hq : r.quotes with
      | nil => rw [hq] at hd; cases hd
      | cons q more =>
        rw [hq] at hd
        cases hd
        refine ⟨q, atI_nat (j := 0) rfl, 2, rfl, by decide, by decide, ?_⟩
        walk_at "al"
        rename_i p1 hp1 H1 S1 e1
        walk_at "al"
        rename_i p2 hp2 H2 S2 e2
        exact k _ H2 (S1.trans S2) ⟨p2, p1, [], rfl, e2, hp1, S2 _ _ e1, .nil⟩
    · rw [oneT, if_neg c] at hd
      obtain ⟨u, hu, rfl⟩ := Option.map_eq_some_iff.mp hd
      refine ⟨p, dr, r, t, rfl, hR, ok, ht, fun l H1 xs hl s1 e1 rs => ?_⟩
      refine ⟨p, dr, r, t, l, xs, rowsT r t, u, rfl, s1 _ _ hR, ok, e1, Paired.mapP rs (fun _ _ ⟨l, h1, _, h2⟩ => ⟨l, h1, h2⟩), by simp [rowsT], fun row hrow => ?_, ht, hu, fun H2 s2 => ?_⟩
      · obtain ⟨j, _, rfl⟩ := List.mem_map.mp hrow
        rw [cur_len]
        simp [RS.sts]
      walk_at "al"
      rename_i p2 hp2 H3 S3 e3
      exact k _ H3 ((s1.trans s2).trans S3) ⟨p2, l, xs, rfl, e3, hl, S3 _ _ (s2 _ _ e1), Paired.mapP rs fun _ _ ⟨l, h1, h0, h2⟩ => ⟨l, h1, h0, S3 _ _ (s2 _ _ h2)⟩⟩
def HeightsV (H : Hp) (v : V) (rows : List (List Nat)) : Prop := ∃ l xs, v = .ref l ∧ H l = some (.lst xs) ∧ RowsV H xs rows
/-- .. all of them new -/
def HtsN (H0 H : Hp) (v : V) (rows : List (List Nat)) : Prop := ∃ l xs, v = .ref l ∧ H0 l = none ∧ H l = some (.lst xs) ∧ Paired (RowN H0 H) xs rows
theorem HtsN.v {H0 H : Hp} {v : V} {rows : List (List Nat)} (h : HtsN H0 H v rows) : HeightsV H v rows := by
  obtain ⟨l, xs, e, _, h1, h2⟩ := h
  exact ⟨l, xs, e, h1, Paired.mapP h2 fun _ _ ⟨b, e, _, h⟩ => ⟨b, e, h⟩⟩
theorem HtsN.old {H0 H1 H : Hp} {v : V} {rows : List (List Nat)} (h : HtsN H1 H v rows) (f : ∀ b, H1 b = none → H0 b = none) : HtsN H0 H v rows := by
  obtain ⟨l, xs, e, n, h1, h2⟩ := h
  exact ⟨l, xs, e, f _ n, h1, Paired.mapP h2 fun _ _ ⟨b, e, n, h⟩ => ⟨b, e, f _ n, h⟩⟩
def HtsF (H0 : Hp) (D : Addr) (H : Hp) (v : V) (rows : List (List Nat)) : Prop := ∃ l xs, v = .ref l ∧ l ≠ D ∧ H0 l = none ∧ H l = some (.lst xs) ∧ Paired (fun v row => RowD D H v row ∧ ∃ b, v = .ref b ∧ H0 b = none) xs rows
def sp_Shortest_init (a : Ad) : Sp := fun vs H Q _ => ∃ p dx t l xs hs, vs = [.ref p, .str (S t), .ref l] ∧ H p = some (.ins a.c_Shortest dx []) ∧ H l = some (.lst xs) ∧ Paired (HeightsV H) xs hs ∧ hs.length ≤ 100 ∧ (∀ rows ∈ hs, rows.length ≤ 100 ∧ ∀ row ∈ rows, row.length ≤ 100) ∧
  ∀ H' l' xs', H l' = none → H' p = some (.ins a.c_Shortest dx [("text", .str (S t)), ("heights", .ref l')]) → H' l' = some (.lst xs') → Paired (HeightsV H') xs' hs → Kp p H H' → Q .non H'
theorem ok_Shortest_init (T : Txt K mg a) : FnOk P w K mg base CX0 1 a.f_Shortest_init a.d_Shortest_init P_Shortest_init (sp_Shortest_init a) := by
  refine T.F_Shortest_init.ok sc_Shortest_init (fun vs H Q E h => ?_) (fun cdv A outer s H vs Q E hr h => ?_)
  · obtain ⟨p, dx, t, l, xs, hs, rfl, _⟩ := h
    rfl
  · obtain ⟨p, dx, t, l, xs, hs, rfl, hM, hl, hhs, hn, hb, k⟩ := h
    refine ⟨_,
(pss_cons (ps_fld (pv 0) (pv 1) rfl)
    (pss_one (ps_fld (pv 0) (pe_lc (own := [("rows", 4)]) (g := gName 4) (tt := tYes) rfl sc_Shortest_init.nd (pi_list (pv 2)) (blkOk_by (own := [("rows", 4)]) (N := N_Shortest_init) (sc := defScope st_Shortest_init) (by decide +kernel)) (fun _ _ _ _ _ => (pg_name (i := 4) sc_Shortest_init.nd rfl (by first | exact Or.inl rfl | exact Or.inr rfl))) (fun _ _ _ _ _ => pts_nil) (fun _ _ _ _ _ => (pe_lc (own := [("row", 3)]) (g := gName 3) (tt := tYes) rfl sc_Shortest_init.nd (pi_listK (K := K) rfl (pv 4)) (blkOk_by (own := [("row", 3)]) (N := N_Shortest_init) (sc := (relS { kind := ScopeKind.function, names := [(".0", NameKind.local), ("rows", NameKind.local)], isGenerator := false, isCoroutine := false } (defScope st_Shortest_init))) (by decide +kernel)) (fun _ _ _ _ _ => (pg_name (i := 3) sc_Shortest_init.nd rfl (by first | exact Or.inl rfl | exact Or.inr rfl))) (fun _ _ _ _ _ => pts_nil) (fun _ _ _ _ _ => (pe_callTy (call_list_ofK (K := K) rfl) (by rfl) T.b_list (by decide +kernel) (pa_cons (pv 3) pa_nil)))))) rfl)))
      , ?_⟩
    rw [show start N_Shortest_init [V.ref p, V.str (S t), V.ref l] = [some (.ref p), some (.str (S t)), some (.ref l), none, none] from rfl]
    walk_at "rd"
    refine ⟨_, _, _, hM, T.c_Shortest.cl, T.n_Shortest_text, by decide, ?_⟩
    have npl : l ≠ p := Ne.symm (ne_of hM hl fun z => by cases z)
    have k1 : Kp p H (upd H p (HO.ins a.c_Shortest dx (putF (Str.ofString "text") (V.str (S t)) []))) := kp_upd
    have e1 : upd H p (HO.ins a.c_Shortest dx (putF (Str.ofString "text") (V.str (S t)) [])) p = some (HO.ins a.c_Shortest dx (putF (Str.ofString "text") (V.str (S t)) [])) := upd_same
    generalize upd H p (HO.ins a.c_Shortest dx (putF (Str.ofString "text") (V.str (S t)) [])) = H1 at *
    have tk1 := k1.tk hM fun _ z => by cases z
    have ll1 : ∀ b ys, H b = some (.lst ys) → H1 b = some (.lst ys) := fun b ys hb => k1 _ _ hb fun z => by rw [z, hM] at hb; cases hb
    have hh1 : Paired (HeightsV H1) xs hs := Paired.mapP hhs fun _ _ ⟨b, ys, h1, h2, h3⟩ => ⟨b, ys, h1, ll1 _ _ h2, Paired.mapP h3 fun _ _ ⟨b, h1, h2⟩ => ⟨b, h1, ll1 _ _ h2⟩⟩
    have hl1 := ll1 _ _ hl
    refine tlc_all (ι := Unit) (C := fun _ => True) (J := fun _ => Itl K l) (H1 := fun _ => H1) (fun R hR => ?_) fun _ _ D hD => ?_
    · walk_at "rd"
      exact ⟨⟨_, .inl (.inl hl1)⟩, hR () trivial⟩
    refine lc_relD hs (HtsD D) ?_ (G := fun H => SqL K H l xs) (hhs.length ▸ walk_list) (by omega) hD (fun H s => .inl (.inl (s _ _ hl1))) ?_ ?_
    · rintro H H' v x kd ⟨b, ys, h1, h2, h3, h4⟩
      exact ⟨b, ys, h1, h2, kd _ _ h3 h2, Paired.mapP h4 fun _ _ ⟨b, h1, h2, h3⟩ => ⟨b, h1, h2, kd _ _ h3 h2⟩⟩
    · rintro R R' i rows x H2 H2' hi s2 ⟨dl, hdl⟩ ⟨rfl, hx⟩ hk
      obtain ⟨v, hv, b, ys, rfl, hb2, hb3⟩ := Paired.right hh1 hi
      rw [hx] at hv
      cases hv
      have hb4 := s2 _ _ hb2
      have hb5 : RowsV H2' ys rows := hb3.same s2
      obtain ⟨hbl, hbr⟩ := hb rows (List.mem_of_getElem? hi)
      walk_at "rdh"
      refine tlc_all (ι := Unit) (C := fun _ => True) (J := fun _ => Itl K b) (H1 := fun _ => H2') (fun R hR => ?_) fun _ _ D2 hD2 => ?_
      · walk_at "rd"
        exact ⟨⟨_, .inl (.inl hb4)⟩, hR () trivial⟩
      have nD : D2 ≠ D := fun z => by rw [z, hdl] at hD2; cases hD2
      refine lc_relD rows (fun H v row => RowD D H v row ∧ RowD D2 H v row) ?_ (G := fun H => SqL K H b ys) (hb5.length ▸ walk_list) (by omega) hD2 (fun H s => .inl (.inl (s _ _ hb4))) ?_ ?_
      · rintro H H' v x kd ⟨⟨b, h1, h2, h3⟩, ⟨b', h1', h2', h3'⟩⟩
        cases h1.symm.trans h1'
        exact ⟨⟨b, h1, h2, kd _ _ h3 h2'⟩, ⟨b, h1, h2', kd _ _ h3 h2'⟩⟩
      · rintro R R' j row x H3 H3' hj s3 ⟨dl2, hdl2⟩ ⟨rfl, hx⟩ hk3
        obtain ⟨v, hv, c, rfl, hc2⟩ := Paired.right hb5 hj
        rw [hx] at hv
        cases hv
        walk_at "rdh"
        refine ⟨_, .inl (.inl (.inl (s3 _ _ hc2))), ?_⟩
        walk_at "al"
        rename_i q hq H4 S4 e4
        exact hk3 _ H4 S4 ⟨⟨q, rfl, Ne.symm (ne_of_none (s3 _ _ hdl) hq), e4⟩, ⟨q, rfl, Ne.symm (ne_of_none hdl2 hq), e4⟩⟩
      · intro H3 zs s3 e3 prs
        exact hk _ H3 s3 ⟨D2, zs, rfl, nD, e3, Paired.mapP prs fun _ _ z => z.1⟩
    · intro H2 ys s2 e2 prs
      have hM2 := s2 _ _ e1
      refine ⟨_, _, _, hM2, T.c_Shortest.cl, T.n_Shortest_heights, by walk_at "pl", ?_⟩
      have npD : D ≠ p := Ne.symm (ne_of_none e1 hD)
      have k3 : Kp p H2 (upd H2 p (HO.ins a.c_Shortest dx (putF (Str.ofString "heights") (V.ref D) (putF (Str.ofString "text") (V.str (S t)) [])))) := kp_upd
      have ll3 : ∀ b ys, H2 b = some (.lst ys) → upd H2 p (HO.ins a.c_Shortest dx (putF (Str.ofString "heights") (V.ref D) (putF (Str.ofString "text") (V.str (S t)) []))) b = some (.lst ys) := fun b ys hb => k3 _ _ hb fun z => by rw [z, hM2] at hb; cases hb
      refine k _ D ys ?_ ?_ (ll3 _ _ e2) ?_ ((k1.trans (s2.kp p)).trans k3)
      · cases e : H D with
        | none => rfl
        | some o => exact absurd (k1 _ _ e npD) (by rw [hD]; intro z; cases z)
      · rw [upd_same]
        exact congrArg (fun l => some (HO.ins a.c_Shortest dx l)) (by kernel_rfl)
      · exact Paired.mapP prs fun _ _ ⟨b, xs, h1, h2, h3, h4⟩ => ⟨b, xs, h1, ll3 _ _ h3, Paired.mapP h4 fun _ _ ⟨c, g1, g2, g3⟩ => ⟨c, g1, ll3 _ _ g3⟩⟩
end
end Qw

set_option Elab.async false
set_option linter.all false
set_option maxRecDepth 100000
set_option maxHeartbeats 4000000
namespace Qw
open PySem L2
/-! ### the writing, in plain Lean: signs unlike -/
structure RS.Dis (r : RS) : Prop where
  qb : ∀ q ∈ r.quotes, q ∉ r.breaks
  qn : ∀ q ∈ r.quotes, q ∉ r.note
  bq : ∀ b ∈ r.bend, b ∉ r.quotes
  bb : ∀ b ∈ r.bend, b ∉ r.breaks
  bn : ∀ b ∈ r.bend, b ∉ r.note
  hs : ∀ q ∈ r.hard, q ∉ r.soft
  kn : ∀ c ∈ r.breaks, c ∉ r.note
theorem RS.Ok.dis {r : RS} (ok : r.Ok) : r.Dis := by
  have nd := ok.nd
  simp only [RS.every, List.nodup_append, List.mem_append] at nd
  obtain ⟨n1, ⟨n2, ⟨n3, ⟨n4, n5, n45⟩, n345⟩, n2345⟩, n12345⟩ := nd
  refine ⟨fun q hq h => ?_, fun q hq h => ?_, fun b hb h => ?_, fun b hb h => ?_, fun b hb h => ?_, fun q hq h => ?_, fun c hc h => ?_⟩
  · rcases List.mem_append.mp hq with x | x
    · exact n12345 q h q (.inl x) rfl
    · exact n12345 q h q (.inr (.inl x)) rfl
  · rcases List.mem_append.mp hq with x | x
    · exact n2345 q x q (.inr (.inr h)) rfl
    · exact n345 q x q (.inr h) rfl
  · rcases List.mem_append.mp h with x | x
    · exact n2345 b x b (.inr (.inl hb)) rfl
    · exact n345 b x b (.inl hb) rfl
  · exact n12345 b h b (.inr (.inr (.inl hb))) rfl
  · exact n45 b hb b h rfl
  · exact n2345 q hq q (.inl h) rfl
  · exact n12345 c hc c (.inr (.inr (.inr h))) rfl
theorem RS.bend_one {r : RS} (ok : r.Ok) (h : r.bend ≠ []) : ∃ b, r.bend = [b] := by
  have l4 := ok.l4
  match hb : r.bend, h, l4 with
  | [b], _, _ => exact ⟨b, rfl⟩
/-! ### how the machine goes -/
/-- from state s, the word u there, the text t ends the word w in plain -/
def Runs (r : RS) (s : So) (u t w : Tx) : Prop := ∀ m : MS, m.state = sT s → m.bent = false → m.word = some u →
  (m.run r t).2 = [] ∧ (m.run r t).1.state = [] ∧ (m.run r t).1.bent = false ∧ (m.run r t).1.word = some w ∧ (m.run r t).1.begun = m.begun
theorem Runs.nil (r : RS) (w : Tx) : Runs r none w [] w := fun _ h1 h2 h3 => ⟨rfl, h1, h2, h3, rfl⟩
def Stp (r : RS) (s : So) (u : Tx) (c : Nat) (s' : So) (u' : Tx) : Prop := ∀ m : MS, m.state = sT s → m.bent = false → m.word = some u →
  (m.step r c).2 = [] ∧ (m.step r c).1.state = sT s' ∧ (m.step r c).1.bent = false ∧ (m.step r c).1.word = some u' ∧ (m.step r c).1.begun = m.begun
theorem Runs.cons {r : RS} {s s' : So} {u u' t w : Tx} {c : Nat} (h : Stp r s u c s' u') (k : Runs r s' u' t w) : Runs r s u (c :: t) w := fun m h1 h2 h3 => by
  obtain ⟨a1, a2, a3, a4, a5⟩ := h m h1 h2 h3
  obtain ⟨b1, b2, b3, b4, b5⟩ := k _ a2 a3 a4
  exact ⟨by show _ ++ _ = _; rw [a1, b1]; rfl, b2, b3, b4, b5.trans a5⟩
/-- the bend and a sign -/
theorem Runs.bent {r : RS} {s : So} {u t w : Tx} {b c : Nat} (h : ∀ m : MS, m.state = sT s → m.bent = false → m.word = some u →
    (m.step r b).2 = [] ∧ (m.step r b).1.state = sT s ∧ (m.step r b).1.bent = true ∧ (m.step r b).1.word = some u ∧ (m.step r b).1.begun = m.begun) (k : Runs r s (u ++ [c]) t w) : Runs r s u (b :: c :: t) w := fun m h1 h2 h3 => by
  obtain ⟨a1, a2, a3, a4, a5⟩ := h m h1 h2 h3
  have nt : (m.step r b).1.state ≠ NT := by
    rw [a2]
    cases s with
    | none => exact nil_NT
    | some q => exact one_NT q
  have st := step_bent (r := r) (c := c) nt a3
  obtain ⟨b1, b2, b3, b4, b5⟩ := k ((m.step r b).1.step r c).1 (by rw [st]; exact a2) (by rw [st]; rfl) (by rw [st]; simp [MS.add, a4])
  refine ⟨?_, b2, b3, b4, b5.trans (Eq.trans (by rw [st]; rfl) a5)⟩
  show _ ++ (_ ++ _) = _
  rw [a1, b1, st]
  rfl
theorem stp_self {r : RS} (ok : r.Ok) {s : So} (hs : s ∈ r.sts) {u : Tx} {c : Nat} (h : costT r s c = some 1) : Stp r s u c s (u ++ [c]) := fun m h1 h2 h3 => by
  cases s with
  | none =>
    have hc : c ∉ r.spec := fun z => by
      simp only [costT, if_pos z] at h
      split at h <;> cases h
    simp only [RS.spec, List.mem_append, not_or] at hc
    rw [step_plain h1 h2]
    have pl : m.plain r c = (m.add c, []) := by
      unfold MS.plain
      rw [if_neg hc.1, if_neg hc.2.2.2, if_neg hc.2.1, if_neg hc.2.2.1, begin_some h3]
    rw [pl]
    exact ⟨rfl, h1, h2, by simp [MS.add, h3], rfl⟩
  | some q =>
    rw [step_quoted h1 h2]
    have hq : ¬ ([c] = m.state) := fun z => by
      rw [h1] at z
      have e : c = q := by injection z
      subst e
      by_cases hh : c ∈ r.hard
      · simp [costT, hh] at h
      · simp only [costT, if_neg hh, ne_eq, not_true_eq_false, false_and, if_false] at h
        split at h <;> cases h
    have nb : ¬ (c ∈ r.bend ∧ m.state.all (· ∈ r.soft) = true) := fun ⟨z1, z2⟩ => by
      rw [h1] at z2
      have z2 : q ∈ r.soft := by simpa [sT] using z2
      have hh : q ∉ r.hard := fun z => ok.dis.hs q z z2
      simp only [costT, if_neg hh] at h
      rw [if_neg (fun z => z.2 z1)] at h
      split at h <;> cases h
    have qd : m.quoted r c = m.add c := by
      unfold MS.quoted
      rw [if_neg hq, if_neg nb]
    rw [qd]
    exact ⟨rfl, h1, h2, by simp [MS.add, h3], rfl⟩
theorem stp_bend {r : RS} (ok : r.Ok) {s : So} (hs : s ∈ r.sts) {u : Tx} {b : Nat} (hb : r.bend = [b]) (h : s = none ∨ ∃ q ∈ r.soft, s = some q) : ∀ m : MS, m.state = sT s → m.bent = false → m.word = some u →
    (m.step r b).2 = [] ∧ (m.step r b).1.state = sT s ∧ (m.step r b).1.bent = true ∧ (m.step r b).1.word = some u ∧ (m.step r b).1.begun = m.begun := fun m h1 h2 h3 => by
  have mb : b ∈ r.bend := by rw [hb]; exact List.mem_singleton.mpr rfl
  have d := ok.dis
  rcases h with rfl | ⟨q, hq, rfl⟩
  · rw [step_plain h1 h2]
    have pl : m.plain r b = ({ m with bent := true, opened := m.place }, []) := by
      unfold MS.plain
      rw [if_neg (d.bb b mb), if_neg (d.bn b mb), if_neg (d.bq b mb), if_pos mb, begin_some h3]
    rw [pl]
    exact ⟨rfl, h1, rfl, h3, rfl⟩
  · rw [step_quoted h1 h2]
    have hq' : ¬ ([b] = m.state) := fun z => by
      rw [h1] at z
      have e : b = q := by injection z
      subst e
      exact d.bq b mb (List.mem_append_right _ hq)
    have qd : m.quoted r b = { m with bent := true } := by
      unfold MS.quoted
      rw [if_neg hq', if_pos ⟨mb, by rw [h1]; simpa [sT] using hq⟩]
    rw [qd]
    exact ⟨rfl, h1, rfl, h3, rfl⟩
theorem stp_open {r : RS} (ok : r.Ok) {q : Nat} (hq : q ∈ r.quotes) (u : Tx) : Stp r none u q (some q) u := fun m h1 h2 h3 => by
  have d := ok.dis
  rw [step_plain h1 h2]
  have pl : m.plain r q = ({ m with state := [q], opened := m.place }, []) := by
    unfold MS.plain
    rw [if_neg (d.qb q hq), if_neg (d.qn q hq), if_pos hq, begin_some h3]
  rw [pl]
  exact ⟨rfl, rfl, h2, h3, rfl⟩
theorem stp_shut {r : RS} (q : Nat) (u : Tx) : Stp r (some q) u q none u := fun m h1 h2 h3 => by
  rw [step_quoted h1 h2]
  have qd : m.quoted r q = { m with state := [] } := by
    unfold MS.quoted
    rw [if_pos (by rw [h1]; rfl)]
  rw [qd]
  exact ⟨rfl, rfl, h2, h3, rfl⟩
/-- what a sign costs -/
theorem cost_two {r : RS} {s : So} {c n : Nat} (hs : s ∈ r.sts) (h : costT r s c = some n) : n = 1 ∨ (n = 2 ∧ r.bend ≠ [] ∧ (s = none ∨ ∃ q ∈ r.soft, s = some q)) := by
  cases s with
  | none =>
    simp only [costT] at h
    split at h
    · split at h
      · rename_i hb
        cases h
        exact .inr ⟨rfl, hb, .inl rfl⟩
      · cases h
    · cases h
      exact .inl rfl
  | some q =>
    simp only [costT] at h
    split at h
    · split at h
      · cases h; exact .inl rfl
      · cases h
    · rename_i hh
      split at h
      · cases h; exact .inl rfl
      · split at h
        · rename_i hb
          cases h
          refine .inr ⟨rfl, hb, .inr ⟨q, ?_, rfl⟩⟩
          have : q ∈ r.quotes := by simpa [RS.sts] using hs
          exact (List.mem_append.mp this).elim (fun z => absurd z hh) id
        · cases h
/-- a sign by its cost -/
theorem Runs.sign {r : RS} (ok : r.Ok) {s : So} (hs : s ∈ r.sts) {u t w : Tx} {c n : Nat} (h : costT r s c = some n) (k : Runs r s (u ++ [c]) t w) :
    Runs r s u ((if n = 1 then [c] else r.bend ++ [c]) ++ t) w ∧ (if n = 1 then [c] else r.bend ++ [c]).length = n := by
  rcases cost_two hs h with rfl | ⟨rfl, hb, hh⟩
  · exact ⟨Runs.cons (stp_self ok hs h) k, rfl⟩
  · obtain ⟨b, hb⟩ := r.bend_one ok hb
    rw [if_neg (by decide), hb]
    exact ⟨Runs.bent (stp_bend ok hs hb hh) k, rfl⟩
/-! ### rows -/
theorem sts_len (r : RS) : r.sts.length = r.quotes.length + 1 := by simp [RS.sts]
abbrev gt (l : List Nat) (k : Nat) : Nat := l.getD k 0
theorem gt_mem {l : List Nat} {k : Nat} (h : k < l.length) : gt l k ∈ l := by
  rw [gt, List.getD_eq_getElem?_getD, List.getElem?_eq_getElem h]
  exact List.getElem_mem h
theorem mem_gt {l : List Nat} {y : Nat} (h : y ∈ l) : ∃ k, k < l.length ∧ gt l k = y := by
  obtain ⟨k, hk, e⟩ := List.getElem_of_mem h
  exact ⟨k, hk, by rw [gt, List.getD_eq_getElem?_getD, List.getElem?_eq_getElem hk]; exact e⟩
structure Ent (l e : List Nat) : Prop where
  a : gt e 0 ≤ gt l 0
  b : ∀ k, 1 ≤ k → k < l.length → gt e 0 ≤ gt l k + 1
  c : gt e 0 = gt l 0 ∨ ∃ k, 1 ≤ k ∧ k < l.length ∧ gt e 0 = gt l k + 1
  d : ∀ k, 1 ≤ k → k < l.length → gt e k = min (gt l k) (gt e 0 + 1)
theorem entered_ent {l : List Nat} (ne : l ≠ []) : Ent l (enteredT l) := by
  cases l with
  | nil => exact absurd rfl ne
  | cons x xs =>
    obtain ⟨h1, h2, h3⟩ := low_spec xs x
    refine ⟨h1, fun k k1 k2 => ?_, ?_, fun k k1 k2 => ?_⟩
    · obtain ⟨j, rfl⟩ : ∃ j, k = j + 1 := ⟨k - 1, by omega⟩
      exact h2 _ (gt_mem (l := xs) (by simpa using k2))
    · rcases h3 with h | ⟨y, hy, h⟩
      · exact .inl h
      · obtain ⟨k, hk, e⟩ := mem_gt hy
        exact .inr ⟨k + 1, by omega, by simpa using hk, by rw [show gt (x :: xs) (k + 1) = gt xs k from rfl, e]; exact h⟩
    · obtain ⟨j, rfl⟩ : ∃ j, k = j + 1 := ⟨k - 1, by omega⟩
      have k2' : j < xs.length := by simpa using k2
      show (xs.map fun y => min y (lowT x xs + 1)).getD j 0 = min (xs.getD j 0) (lowT x xs + 1)
      rw [List.getD_eq_getElem?_getD, List.getD_eq_getElem?_getD, List.getElem?_map, List.getElem?_eq_getElem k2']
      rfl
theorem next_len {r : RS} {row : List Nat} {c : Nat} (h : row.length = r.sts.length) : (nextT r row c).length = r.sts.length := by
  rw [nextT, List.length_zipWith, h, Nat.min_self]
theorem next_gt {r : RS} {row : List Nat} {c k : Nat} (h : row.length = r.sts.length) (hk : k < r.sts.length) :
    gt (nextT r row c) k = (match costT r (r.sts.getD k none) c with | none => (99 : Nat) | some n => (gt row k + n : Nat)) := by
  have e : (nextT r row c)[k]? = some (match costT r (r.sts.getD k none) c with | none => 99 | some n => gt row k + n) := by
    rw [nextT, List.getElem?_zipWith, List.getElem?_eq_getElem (by omega), List.getElem?_eq_getElem hk]
    simp only [gt, List.getD_eq_getElem?_getD, List.getElem?_eq_getElem hk, List.getElem?_eq_getElem (show k < row.length by omega)]
    rfl
  rw [gt, List.getD_eq_getElem?_getD, e]
  rfl
theorem next_none {r : RS} {row : List Nat} {c k : Nat} (h : row.length = r.sts.length) (hk : k < r.sts.length) (hc : costT r (r.sts.getD k none) c = none) : gt (nextT r row c) k = 99 := by
  have g := next_gt (c := c) h hk
  rw [hc] at g
  exact g
theorem next_some {r : RS} {row : List Nat} {c k n : Nat} (h : row.length = r.sts.length) (hk : k < r.sts.length) (hc : costT r (r.sts.getD k none) c = some n) : gt (nextT r row c) k = gt row k + n := by
  have g := next_gt (c := c) h hk
  rw [hc] at g
  exact g
theorem cur_len' (r : RS) (u : Tx) : (curT r u).length = r.sts.length := by rw [cur_len, sts_len]
theorem row0_gt {r : RS} {k : Nat} (hk : k < r.sts.length) : gt (row0 r) k = if k = 0 then 0 else 1 := by
  have hl : (0 :: List.replicate r.quotes.length 99).length = r.sts.length := by simp [RS.sts]
  have e := entered_ent (l := 0 :: List.replicate r.quotes.length 99) (by simp)
  have a := e.a
  have z : gt (row0 r) 0 = 0 := Nat.le_zero.mp a
  by_cases h : k = 0
  · subst h; simpa using z
  · rw [if_neg h]
    have d := e.d k (by omega) (by omega)
    rw [show enteredT (0 :: List.replicate r.quotes.length 99) = row0 r from rfl, z] at d
    have r99 : gt (0 :: List.replicate r.quotes.length 99) k = 99 := by
      obtain ⟨j, rfl⟩ : ∃ j, k = j + 1 := ⟨k - 1, by omega⟩
      show (List.replicate r.quotes.length 99).getD j 0 = 99
      rw [sts_len] at hk
      rw [List.getD_eq_getElem?_getD, List.getElem?_replicate, if_pos (by omega)]
      rfl
    rw [r99] at d
    omega
/-- a sign can be written somewhere -/
def canT (r : RS) (c : Nat) : Prop := ∃ s ∈ r.sts, (costT r s c).isSome = true
theorem can_of {r : RS} {w : Tx} (h : cannotT r w = false) (ne : w ≠ []) : ∀ c ∈ w, canT r c := by
  rw [cannotT, if_neg ne] at h
  intro c hc
  have h1 := List.any_eq_false.mp h c hc
  rw [Bool.not_eq_true, List.all_eq_false] at h1
  obtain ⟨s, hs, h2⟩ := h1
  exact ⟨s, hs, by cases e : costT r s c <;> simp_all⟩
theorem sts_at {r : RS} {s : So} (h : s ∈ r.sts) : ∃ k, k < r.sts.length ∧ r.sts.getD k none = s := by
  obtain ⟨k, hk, e⟩ := List.getElem_of_mem h
  exact ⟨k, hk, by rw [List.getD_eq_getElem?_getD, List.getElem?_eq_getElem hk]; exact e⟩
theorem at_sts {r : RS} {k : Nat} (h : k < r.sts.length) : r.sts.getD k none ∈ r.sts := by
  rw [List.getD_eq_getElem?_getD, List.getElem?_eq_getElem h]
  exact List.getElem_mem h
theorem sts_zero (r : RS) : r.sts.getD 0 none = none := rfl
theorem sts_succ {r : RS} {k : Nat} (h : k < r.sts.length) (h1 : 1 ≤ k) : ∃ q ∈ r.quotes, r.sts.getD k none = some q := by
  obtain ⟨j, rfl⟩ : ∃ j, k = j + 1 := ⟨k - 1, by omega⟩
  have hj : j < r.quotes.length := by rw [sts_len] at h; omega
  refine ⟨r.quotes[j], List.getElem_mem hj, ?_⟩
  show (r.quotes.map some).getD j none = _
  rw [List.getD_eq_getElem?_getD, List.getElem?_map, List.getElem?_eq_getElem hj]
  rfl
/-- the numbers of a row and the next -/
structure Nxt (r : RS) (row row' : List Nat) (c : Nat) : Prop where
  l : row.length = r.sts.length
  l' : row'.length = r.sts.length
  e : Ent (nextT r row c) row'
theorem cur_nxt (r : RS) (u : Tx) (c : Nat) : Nxt r (curT r u) (curT r (u ++ [c])) c := by
  refine ⟨cur_len' r u, cur_len' r _, ?_⟩
  rw [curT_snoc]
  refine entered_ent fun z => ?_
  have := next_len (c := c) (cur_len' r u)
  rw [z] at this
  simp [RS.sts] at this
theorem Nxt.le {r : RS} {row row' : List Nat} {c : Nat} (h : Nxt r row row' c) {k n : Nat} (hk : k < r.sts.length) (hc : costT r (r.sts.getD k none) c = some n) : gt row' k ≤ gt row k + n := by
  have nl := next_len (c := c) h.l
  have g := next_some (c := c) h.l hk hc
  by_cases k0 : k = 0
  · subst k0
    have := h.e.a
    omega
  · have := h.e.d k (by omega) (by omega)
    omega
theorem Nxt.one {r : RS} {row row' : List Nat} {c : Nat} (h : Nxt r row row' c) {k : Nat} (hk : k < r.sts.length) : gt row' k ≤ gt row' 0 + 1 ∧ gt row' 0 ≤ gt row' k + 1 := by
  have nl := next_len (c := c) h.l
  by_cases k0 : k = 0
  · subst k0; omega
  · have a := h.e.d k (by omega) (by omega)
    have b := h.e.b k (by omega) (by omega)
    omega
theorem cur_one (r : RS) (u : Tx) {k : Nat} (hk : k < r.sts.length) : gt (curT r u) k ≤ gt (curT r u) 0 + 1 ∧ gt (curT r u) 0 ≤ gt (curT r u) k + 1 := by
  rcases List.eq_nil_or_concat u with rfl | ⟨v, c, rfl⟩
  · have a : gt (curT r []) k = _ := row0_gt hk
    have b : gt (curT r []) 0 = _ := row0_gt (k := 0) (by omega)
    rw [a, b]
    simp only [if_true]
    split <;> omega
  · rw [List.concat_eq_append]
    exact (cur_nxt r v c).one hk
theorem cur_low {r : RS} : ∀ (n : Nat) (u : Tx), u.length = n → (∀ c ∈ u, canT r c) → gt (curT r u) 0 ≤ 4 * u.length := by
  intro n
  induction n with
  | zero =>
    intro u hu _
    cases List.eq_nil_of_length_eq_zero hu
    have b : gt (curT r []) 0 = _ := row0_gt (k := 0) (by simp [RS.sts])
    rw [b]; simp
  | succ n ih =>
    intro u hu hc
    rcases List.eq_nil_or_concat u with rfl | ⟨v, c, rfl⟩
    · cases hu
    · rw [List.concat_eq_append] at *
      have hv : v.length = n := by simpa using hu
      have h1 := ih v hv fun x hx => hc x (List.mem_append_left _ hx)
      obtain ⟨s, hs, h2⟩ := hc c (by simp)
      obtain ⟨k, hk, rfl⟩ := sts_at hs
      obtain ⟨m, hm⟩ := Option.isSome_iff_exists.mp h2
      have h3 := (cur_nxt r v c).le hk hm
      have h4 := cur_one r v hk
      have h5 := (cur_nxt r v c).one hk
      have h6 : m ≤ 2 := by rcases cost_two hs hm with h | h <;> omega
      rw [List.length_append]
      simp only [List.length_cons, List.length_nil]
      omega
theorem rowAt_rows {r : RS} {w : Tx} {i : Nat} (h : i ≤ w.length) : rowAt (rowsT r w) i = curT r (w.take i) := by
  rw [rowAt, rowsT, List.getD_eq_getElem?_getD, List.getElem?_map, List.getElem?_range (by omega)]
  rfl
/-- where a number came from -/
theorem Nxt.from_ {r : RS} {row row' : List Nat} {c : Nat} (h : Nxt r row row' c) (hl : gt row' 0 ≤ 90) {k : Nat} (hk : k < r.sts.length) :
    (∃ n, costT r (r.sts.getD k none) c = some n ∧ gt row k + n = gt row' k) ∨ (1 ≤ k ∧ gt row' k = gt row' 0 + 1) ∨ (k = 0 ∧ ∃ j, 1 ≤ j ∧ j < r.sts.length ∧ gt row' j + 1 = gt row' 0) := by
  have nl := next_len (c := c) h.l
  by_cases k0 : k = 0
  · subst k0
    rcases h.e.c with e | ⟨j, j1, j2, e⟩
    · cases hc : costT r (r.sts.getD 0 none) c with
      | none => have g := next_none (c := c) h.l hk hc; omega
      | some n => have g := next_some (c := c) h.l hk hc; exact .inl ⟨n, rfl, by omega⟩
    · refine .inr (.inr ⟨rfl, j, j1, by omega, ?_⟩)
      have := h.e.d j j1 j2
      omega
  · have d := h.e.d k (by omega) (by omega)
    have one := h.one hk
    cases hc : costT r (r.sts.getD k none) c with
    | none =>
      have g := next_none (c := c) h.l hk hc
      exact .inr (.inl ⟨by omega, by omega⟩)
    | some n =>
      have g := next_some (c := c) h.l hk hc
      by_cases q : gt row k + n = gt row' k
      · exact .inl ⟨n, rfl, q⟩
      · exact .inr (.inl ⟨by omega, by omega⟩)
theorem take_pred {w : Tx} {n : Nat} (h : n + 1 ≤ w.length) : w.take (n + 1) = w.take n ++ [w.getD n 0] := by
  have e : w[n]? = some (w.getD n 0) := by
    rw [List.getD_eq_getElem?_getD, List.getElem?_eq_getElem (by omega)]
    rfl
  exact take_at e
/-- the writing by the heights -/
def Good (r : RS) (w t : Tx) (n : Nat) : Prop := t.length = n ∧ Runs r none [] t w
theorem go_ok {r : RS} (ok : r.Ok) {w : Tx} (hw : ∀ c ∈ w, canT r c) (hl : w.length ≤ 22) : ∀ at_, at_ ≤ w.length → ∀ st, st < r.sts.length → ∀ (found : Tx) (fuel : Nat), 3 * at_ + 2 ≤ fuel →
    Runs r (r.sts.getD st none) (w.take at_) found w → ∃ t, wrGo r w (rowsT r w) fuel found at_ st = some t ∧ Good r w t (found.length + gt (curT r (w.take at_)) st) := by
  intro at_
  induction at_ with
  | zero =>
    intro _ st hst found fuel hf hr
    have g0 : ∀ k, k < r.sts.length → gt (curT r (w.take 0)) k = if k = 0 then 0 else 1 := fun k hk => row0_gt hk
    obtain ⟨f, rfl⟩ : ∃ f, fuel = f + 2 := ⟨fuel - 2, by omega⟩
    have zero : ∀ (n : Nat) (found : Tx), Runs r none [] found w → ∃ t, wrGo r w (rowsT r w) (n + 1) found 0 0 = some t ∧ Good r w t found.length := fun n found h => by
      refine ⟨found, ?_, rfl, h⟩
      rw [wrGo, if_pos ⟨rfl, rfl⟩]
    by_cases s0 : st = 0
    · subst s0
      rw [g0 0 hst]
      exact zero _ found hr
    · obtain ⟨q, hq, e⟩ := sts_succ hst (by omega)
      rw [e] at hr
      rw [wrGo, if_neg (fun z => s0 z.2)]
      have hh : wrHit r w (rowsT r w) 0 st = none := by unfold wrHit; rw [if_pos rfl]
      rw [hh, if_pos (by omega), e]
      obtain ⟨t, h1, h2⟩ := zero f (q :: found) (Runs.cons (stp_open ok hq _) hr)
      refine ⟨t, h1, ?_⟩
      rw [g0 st hst, if_neg s0]
      simpa using h2
  | succ n ih =>
    intro hn st hst found fuel hf hr
    have nx := cur_nxt r (w.take n) (w.getD n 0)
    rw [← take_pred hn] at nx
    have low := cur_low (r := r) _ (w.take (n + 1)) rfl fun c hc => hw c (List.mem_of_mem_take hc)
    rw [List.length_take] at low
    have low : gt (curT r (w.take (n + 1))) 0 ≤ 90 := by omega
    have ra := rowAt_rows (r := r) hn
    have rb := rowAt_rows (r := r) (w := w) (i := n) (by omega)
    -- where the sign is taken
    have hit : ∀ (st : Nat) (found : Tx) (f : Nat), st < r.sts.length → 3 * n + 3 ≤ f → Runs r (r.sts.getD st none) (w.take (n + 1)) found w → (∃ m, costT r (r.sts.getD st none) (w.getD n 0) = some m ∧ gt (curT r (w.take n)) st + m = gt (curT r (w.take (n + 1))) st) →
        ∃ t, wrGo r w (rowsT r w) f found (n + 1) st = some t ∧ Good r w t (found.length + gt (curT r (w.take (n + 1))) st) := fun st found f hst hf hr ⟨m, hm, e⟩ => by
      obtain ⟨f, rfl⟩ : ∃ f', f = f' + 1 := ⟨f - 1, by omega⟩
      have hh : wrHit r w (rowsT r w) (n + 1) st = some m := by
        unfold wrHit
        rw [if_neg (Nat.succ_ne_zero n), Nat.add_sub_cancel, hm, ra, rb]
        dsimp only
        rw [if_pos e]
      rw [wrGo, if_neg (fun z => Nat.succ_ne_zero n z.1), hh]
      rw [take_pred hn] at hr
      obtain ⟨r1, r2⟩ := Runs.sign ok (at_sts hst) hm hr
      obtain ⟨t, h1, h2, h3⟩ := ih (by omega) st hst _ f (by omega) r1
      refine ⟨t, ?_, ?_, h3⟩
      · rw [Nat.add_sub_cancel]
        exact h1
      · rw [h2, List.length_append, r2]; omega
    have miss : ∀ (st : Nat), (¬ ∃ m, costT r (r.sts.getD st none) (w.getD n 0) = some m ∧ gt (curT r (w.take n)) st + m = gt (curT r (w.take (n + 1))) st) → wrHit r w (rowsT r w) (n + 1) st = none := fun st h => by
      unfold wrHit
      rw [if_neg (Nat.succ_ne_zero n), Nat.add_sub_cancel, ra, rb]
      cases hm : costT r (r.sts.getD st none) (w.getD n 0) with
      | none => rfl
      | some m =>
        dsimp only
        rw [if_neg (fun z => h ⟨m, hm, z⟩)]
    -- in plain
    have plain : ∀ (found : Tx) (f : Nat), 3 * n + 4 ≤ f → Runs r none (w.take (n + 1)) found w →
        ∃ t, wrGo r w (rowsT r w) f found (n + 1) 0 = some t ∧ Good r w t (found.length + gt (curT r (w.take (n + 1))) 0) := fun found f hf hr => by
      by_cases h : ∃ m, costT r (r.sts.getD 0 none) (w.getD n 0) = some m ∧ gt (curT r (w.take n)) 0 + m = gt (curT r (w.take (n + 1))) 0
      · exact hit 0 found f (by omega) (by omega) hr h
      · obtain ⟨f, rfl⟩ : ∃ f', f = f' + 1 := ⟨f - 1, by omega⟩
        rw [wrGo, if_neg (fun z => Nat.succ_ne_zero n z.1), miss 0 h]
        dsimp only
        rw [if_neg (Nat.lt_irrefl 0)]
        rcases nx.from_ low (k := 0) (by omega) with c | c | ⟨_, j, j1, j2, j3⟩
        · exact absurd c h
        · omega
        have mem : j ∈ wrOn r (rowsT r w) (n + 1) := by
          rw [wrOn, List.mem_filter, List.mem_range'_1, ra]
          exact ⟨by omega, decide_eq_true j3⟩
        cases hon : wrOn r (rowsT r w) (n + 1) with
        | nil => rw [hon] at mem; cases mem
        | cons k1 more =>
          have mem1 : k1 ∈ wrOn r (rowsT r w) (n + 1) := by rw [hon]; exact List.mem_cons_self
          rw [wrOn, List.mem_filter, List.mem_range'_1, ra] at mem1
          have e1 : gt (curT r (w.take (n + 1))) k1 + 1 = gt (curT r (w.take (n + 1))) 0 := of_decide_eq_true mem1.2
          have hk1 : k1 < r.sts.length := by omega
          obtain ⟨q, hq, e⟩ := sts_succ hk1 (by omega)
          dsimp only
          rw [e]
          have hr' : Runs r (r.sts.getD k1 none) (w.take (n + 1)) ([q] ++ found) w := by
            rw [e]
            exact Runs.cons (stp_shut q _) hr
          obtain ⟨t, h1, h2, h3⟩ := hit k1 ([q] ++ found) f hk1 (by omega) hr' (by
            rcases nx.from_ low hk1 with c | c | c
            · exact c
            · omega
            · omega)
          exact ⟨t, h1, by rw [h2]; simp only [List.length_append, List.length_cons, List.length_nil]; omega, h3⟩
    by_cases s0 : st = 0
    · subst s0
      exact plain found fuel (by omega) hr
    by_cases h : ∃ m, costT r (r.sts.getD st none) (w.getD n 0) = some m ∧ gt (curT r (w.take n)) st + m = gt (curT r (w.take (n + 1))) st
    · exact hit st found fuel hst (by omega) hr h
    · obtain ⟨f, rfl⟩ : ∃ f', fuel = f' + 1 := ⟨fuel - 1, by omega⟩
      rw [wrGo, if_neg (fun z => Nat.succ_ne_zero n z.1), miss st h]
      dsimp only
      rw [if_pos (by omega)]
      obtain ⟨q, hq, e⟩ := sts_succ hst (by omega)
      rw [e] at hr ⊢
      obtain ⟨t, h1, h2, h3⟩ := plain ([q] ++ found) f (by omega) (Runs.cons (stp_open ok hq _) hr)
      refine ⟨t, h1, ?_, h3⟩
      rw [h2]
      simp only [List.length_append, List.length_cons, List.length_nil]
      rcases nx.from_ low hst with c | c | c
      · exact absurd c h
      · omega
      · omega
/-- the fewest signs for a word -/
def leastT (r : RS) (w : Tx) : Nat := if w = [] then 2 else gt (curT r w) 0
theorem one_ok {r : RS} (ok : r.Ok) {w : Tx} (h : cannotT r w = false) (hl : w.length ≤ 12) : ∃ t, oneT r w = some (t, if w = [] then [] else rowsT r w) ∧ t.length = leastT r w ∧ t ≠ [] ∧ Runs r none [] t w := by
  by_cases ne : w = []
  · subst ne
    rw [cannotT, if_pos rfl, decide_eq_false_iff_not] at h
    cases hq : r.quotes with
    | nil => exact absurd hq h
    | cons q more =>
      have mq : q ∈ r.quotes := by rw [hq]; exact List.mem_cons_self
      refine ⟨[q, q], by simp [oneT, hq], by simp [leastT], by simp, ?_⟩
      exact Runs.cons (stp_open ok mq _) (Runs.cons (stp_shut q _) (Runs.nil r []))
  · obtain ⟨t, h1, h2, h3⟩ := go_ok ok (can_of h ne) (by omega) w.length (Nat.le_refl _) 0 (by simp [RS.sts]) [] 1000 (by omega) (by rw [List.take_length]; exact Runs.nil r w)
    rw [List.take_length] at h2
    refine ⟨t, ?_, ?_, fun z => ?_, h3⟩
    · rw [oneT, if_neg ne, wrT, h1, if_neg ne]
      rfl
    · rw [h2, leastT, if_neg ne]
      simp
    · subst z
      obtain ⟨_, _, _, e, _⟩ := h3 { MS.zero 0 with word := some [] } rfl rfl rfl
      exact ne (by injection e with e; exact e.symm)
/-! ### no text is shorter -/
def totT (r : RS) (ds : List W3) : Nat := (ds.map fun d => leastT r d.1 + 1).sum
theorem totT_app (r : RS) (a b : List W3) : totT r (a ++ b) = totT r a + totT r b := by simp [totT]
structure WInv (r : RS) (m : MS) (u : Tx) (x n k : Nat) : Prop where
  hk : k < r.sts.length
  st : m.state = sT (r.sts.getD k none)
  ca : ∀ c ∈ u, canT r c
  be : m.bent = true → r.bend ≠ [] ∧ (r.sts.getD k none = none ∨ ∃ q ∈ r.soft, r.sts.getD k none = some q)
  le : x + gt (curT r u) k + (if m.bent = true then 1 else 0) ≤ n
  em : u = [] → k = 0 → m.bent = false → x + 2 ≤ n ∧ r.quotes ≠ []
structure LInv (r : RS) (m : MS) (ds : List W3) (n : Nat) : Prop where
  wr : ∀ d ∈ ds, cannotT r d.1 = false
  non : m.word = none → m.bent = false ∧ (m.state = [] ∨ m.state = NT) ∧ totT r ds ≤ n
  som : ∀ u, m.word = some u → ∃ k, WInv r m u (totT r ds) n k
theorem step_nt {r : RS} {m : MS} (hs : m.state = NT) (hb : m.bent = false) : m.step r LE = ({ m with state := [] } : MS).step r LE := by
  rw [step_plain (m := { m with state := [] }) rfl hb]
  unfold MS.step
  rw [if_pos ⟨hs, rfl⟩]
  simp only [hb, Bool.false_eq_true, if_false, if_true]
  rw [MS.place_plain]
theorem step_nt' {r : RS} {m : MS} {c : Nat} (hs : m.state = NT) (hb : m.bent = false) (hc : c ≠ LE) : m.step r c = ({ m with place := m.place + 1 }, []) := by
  unfold MS.step
  rw [if_neg (fun z => hc z.2)]
  simp only [hb, Bool.false_eq_true, if_false, hs, NT_nil, if_true]
theorem can_self {r : RS} {s : So} {c n : Nat} (hs : s ∈ r.sts) (h : costT r s c = some n) : canT r c := ⟨s, hs, by rw [h]; rfl⟩
theorem none_sts (r : RS) : none ∈ r.sts := List.mem_cons_self
theorem some_sts {r : RS} {q : Nat} (h : q ∈ r.quotes) : some q ∈ r.sts := List.mem_cons_of_mem _ (List.mem_map.mpr ⟨q, h, rfl⟩)
theorem cannot_of {r : RS} {u : Tx} (h : ∀ c ∈ u, canT r c) (e : u = [] → r.quotes ≠ []) : cannotT r u = false := by
  rw [cannotT]
  split
  · rename_i z; exact decide_eq_false (e z)
  · rw [List.any_eq_false]
    intro c hc
    obtain ⟨s, hs, z⟩ := h c hc
    rw [Bool.not_eq_true, List.all_eq_false]
    exact ⟨s, hs, by cases e : costT r s c <;> simp_all⟩
/-- a sign more -/
theorem WInv.add {r : RS} {m' : MS} {u : Tx} {x n k c j e : Nat} (hk : k < r.sts.length) (hs : m'.state = sT (r.sts.getD k none)) (ca : ∀ c ∈ u, canT r c) (le : x + gt (curT r u) k + e ≤ n) (hb : m'.bent = false) (hc : costT r (r.sts.getD k none) c = some j) (hj : j ≤ e + 1) : WInv r m' (u ++ [c]) x (n + 1) k := by
  have nx := (cur_nxt r u c).le hk hc
  refine ⟨hk, hs, fun d hd => ?_, fun z => (by rw [hb] at z; cases z), ?_, fun z => (by simp at z)⟩
  · rcases List.mem_append.mp hd with hd | hd
    · exact ca d hd
    · rw [List.mem_singleton.mp hd]
      exact can_self (at_sts hk) hc
  · rw [hb]
    simp only [Bool.false_eq_true, if_false]
    omega
theorem plain_cost {r : RS} {c : Nat} (h1 : c ∉ r.breaks) (h2 : c ∉ r.note) (h3 : c ∉ r.quotes) (h4 : c ∉ r.bend) : costT r none c = some 1 := by
  have : c ∉ r.spec := by simp only [RS.spec, List.mem_append, not_or]; exact ⟨h1, h3, h4, h2⟩
  simp only [costT, if_neg this]
theorem cur_nil {r : RS} {k : Nat} (hk : k < r.sts.length) : gt (curT r []) k = if k = 0 then 0 else 1 := row0_gt hk
theorem sts_pos (r : RS) : 0 < r.sts.length := by simp [RS.sts]
theorem LInv.plain {r : RS} (ok : r.Ok) {m : MS} {ds : List W3} {n : Nat} (h : LInv r m ds n) (hs : m.state = []) (hb : m.bent = false) (c : Nat) : LInv r (m.step r c).1 (ds ++ (m.step r c).2) (n + 1) := by
  rw [step_plain hs hb]
  have ended : (∀ d ∈ m.out, cannotT r d.1 = false) ∧ totT r (ds ++ m.out) ≤ n + 1 := by
    cases hw : m.word with
    | none =>
      have o : m.out = [] := by unfold MS.out; rw [hw]
      rw [o, List.append_nil]
      exact ⟨fun _ z => (nomatch z), Nat.le_succ_of_le (h.non hw).2.2⟩
    | some u =>
      have o : m.out = [(u, m.begun, m.place)] := by unfold MS.out; rw [hw]
      obtain ⟨k, i⟩ := h.som u hw
      have k0 : k = 0 := by
        rcases Nat.eq_zero_or_pos k with z | z
        · exact z
        · obtain ⟨q, _, e⟩ := sts_succ i.hk z
          have := i.st
          rw [e, hs] at this
          cases this
      subst k0
      rw [o, totT_app]
      have le := i.le
      rw [hb] at le
      simp only [Bool.false_eq_true, if_false] at le
      refine ⟨fun d hd => ?_, ?_⟩
      · rw [List.mem_singleton.mp hd]
        exact cannot_of i.ca fun z => (i.em z rfl hb).2
      · show totT r ds + (leastT r u + 1 + 0) ≤ n + 1
        unfold leastT
        split
        · rename_i z
          have := (i.em z rfl hb).1
          omega
        · omega
  have wr' : ∀ {x}, (∀ d ∈ x, cannotT r d.1 = false) → ∀ d ∈ ds ++ x, cannotT r d.1 = false := fun hx d hd => (List.mem_append.mp hd).elim (h.wr d) (hx d)
  unfold MS.plain
  by_cases c1 : c ∈ r.breaks
  · rw [if_pos c1]
    exact ⟨wr' ended.1, fun _ => ⟨hb, .inl hs, ended.2⟩, fun u z => (nomatch z)⟩
  rw [if_neg c1]
  by_cases c2 : c ∈ r.note
  · rw [if_pos c2]
    exact ⟨wr' ended.1, fun _ => ⟨hb, .inr rfl, ended.2⟩, fun u z => (nomatch z)⟩
  rw [if_neg c2]
  have bs : m.begin.state = [] := by unfold MS.begin; split <;> exact hs
  have bb : m.begin.bent = false := by unfold MS.begin; split <;> exact hb
  -- the word is there
  obtain ⟨u, hu, ca, le⟩ : ∃ u, m.begin.word = some u ∧ (∀ c ∈ u, canT r c) ∧ totT r ds + gt (curT r u) 0 ≤ n := by
    unfold MS.begin
    cases hw : m.word with
    | none =>
      refine ⟨[], rfl, fun _ z => (nomatch z), ?_⟩
      rw [cur_nil (sts_pos r)]
      simp only [if_true]
      exact (h.non hw).2.2
    | some u =>
      obtain ⟨k, i⟩ := h.som u hw
      have k0 : k = 0 := by
        rcases Nat.eq_zero_or_pos k with z | z
        · exact z
        · obtain ⟨q, _, e⟩ := sts_succ i.hk z
          have := i.st
          rw [e, hs] at this
          cases this
      subst k0
      exact ⟨u, hw, i.ca, by have := i.le; omega⟩
  by_cases c3 : c ∈ r.quotes
  · rw [if_pos c3, List.append_nil]
    refine ⟨h.wr, fun z => (by rw [hu] at z; cases z), fun v hv => ?_⟩
    rw [hu] at hv
    cases hv
    obtain ⟨k, hk, e⟩ := sts_at (some_sts c3)
    have kp : k ≠ 0 := fun z => by subst z; cases e
    have := (cur_one r u hk).1
    refine ⟨k, hk, by rw [e]; rfl, ca, fun z => (by rw [bb] at z; cases z), ?_, fun _ z => absurd z kp⟩
    simp only [bb, Bool.false_eq_true, if_false]
    omega
  rw [if_neg c3]
  by_cases c4 : c ∈ r.bend
  · rw [if_pos c4, List.append_nil]
    refine ⟨h.wr, fun z => (by rw [hu] at z; cases z), fun v hv => ?_⟩
    rw [hu] at hv
    cases hv
    refine ⟨0, sts_pos r, bs, ca, fun _ => ⟨fun z => (by rw [z] at c4; cases c4), .inl rfl⟩, ?_, fun _ _ z => (nomatch z)⟩
    simp only [if_true]
    omega
  rw [if_neg c4, List.append_nil]
  have hw : (m.begin.add c).word = some (u ++ [c]) := by simp [MS.add, hu]
  refine ⟨h.wr, fun z => (by rw [hw] at z; cases z), fun v hv => ?_⟩
  rw [hw] at hv
  cases hv
  exact ⟨0, WInv.add (sts_pos r) bs ca (e := 0) (by omega) bb (plain_cost c1 c2 c3 c4) (by omega)⟩
theorem LInv.step {r : RS} (ok : r.Ok) {m : MS} {ds : List W3} {n : Nat} (h : LInv r m ds n) (c : Nat) : LInv r (m.step r c).1 (ds ++ (m.step r c).2) (n + 1) := by
  by_cases hb : m.bent = true
  · -- a bent sign
    cases hw : m.word with
    | none => have := (h.non hw).1; rw [hb] at this; cases this
    | some u =>
      obtain ⟨k, i⟩ := h.som u hw
      obtain ⟨b1, b2⟩ := i.be hb
      have nt : m.state ≠ NT := by
        rw [i.st]
        rcases b2 with e | ⟨q, _, e⟩
        · rw [e]; exact nil_NT
        · rw [e]; exact one_NT q
      rw [step_bent nt hb, List.append_nil]
      have hw' : (({ m with bent := false } : MS).add c).word = some (u ++ [c]) := by simp [MS.add, hw]
      refine ⟨h.wr, fun z => (by rw [hw'] at z; cases z), fun v hv => ?_⟩
      rw [hw'] at hv
      cases hv
      have le := i.le
      rw [if_pos hb] at le
      obtain ⟨j, hj, hj2⟩ : ∃ j, costT r (r.sts.getD k none) c = some j ∧ j ≤ 2 := by
        rcases b2 with e | ⟨q, hq, e⟩
        · rw [e]
          simp only [costT, if_pos b1]
          split
          · exact ⟨2, rfl, by omega⟩
          · exact ⟨1, rfl, by omega⟩
        · rw [e]
          have hh : q ∉ r.hard := fun z => ok.dis.hs q z hq
          simp only [costT, if_neg hh, if_pos b1]
          split
          · exact ⟨1, rfl, by omega⟩
          · exact ⟨2, rfl, by omega⟩
      exact ⟨k, WInv.add i.hk i.st i.ca (e := 1) le rfl hj (by omega)⟩
  have hb : m.bent = false := by simpa using hb
  by_cases hs : m.state = []
  · exact h.plain ok hs hb c
  by_cases hn : m.state = NT
  · by_cases hc : c = LE
    · subst hc
      rw [step_nt hn hb]
      have hw : m.word = none := by
        cases hw : m.word with
        | none => rfl
        | some u =>
          obtain ⟨k, i⟩ := h.som u hw
          have := i.st
          rw [hn] at this
          cases e : r.sts.getD k none <;> rw [e] at this <;> cases this
      exact LInv.plain ok (m := { m with state := [] }) ⟨h.wr, fun _ => ⟨hb, .inl rfl, (h.non hw).2.2⟩, fun u z => by rw [show _ = m.word from rfl, hw] at z; cases z⟩ rfl hb LE
    · rw [step_nt' hn hb hc, List.append_nil]
      refine ⟨h.wr, fun z => ?_, fun u z => ?_⟩
      · have := h.non z
        exact ⟨this.1, this.2.1, Nat.le_succ_of_le this.2.2⟩
      · obtain ⟨k, i⟩ := h.som u z
        have := i.st
        rw [hn] at this
        cases e : r.sts.getD k none <;> rw [e] at this <;> cases this
  -- within a quote
  cases hw : m.word with
  | none => exact ((h.non hw).2.1.elim hs hn).elim
  | some u =>
    obtain ⟨k, i⟩ := h.som u hw
    have kp : 1 ≤ k := by
      rcases Nat.eq_zero_or_pos k with z | z
      · subst z
        exact absurd i.st hs
      · exact z
    obtain ⟨q, hq, e⟩ := sts_succ i.hk kp
    have st := i.st
    rw [e] at st
    have st : m.state = [q] := st
    have le := i.le
    rw [hb] at le
    simp only [Bool.false_eq_true, if_false] at le
    rw [step_quoted st hb, List.append_nil]
    have one := cur_one r u i.hk
    unfold MS.quoted
    by_cases c1 : [c] = m.state
    · rw [if_pos c1]
      refine ⟨h.wr, fun z => (by rw [show _ = m.word from rfl, hw] at z; cases z), fun v hv => ?_⟩
      rw [show _ = m.word from rfl, hw] at hv
      cases hv
      refine ⟨0, sts_pos r, rfl, i.ca, fun z => (by rw [show _ = m.bent from rfl, hb] at z; cases z), ?_, fun z _ _ => ?_⟩
      · show _ + (if m.bent = true then 1 else 0) ≤ _
        rw [hb]
        simp only [Bool.false_eq_true, if_false]
        omega
      · subst z
        have := cur_nil i.hk
        rw [if_neg (by omega)] at this
        exact ⟨by omega, fun z => by rw [z] at hq; cases hq⟩
    rw [if_neg c1]
    by_cases c2 : c ∈ r.bend ∧ m.state.all (· ∈ r.soft) = true
    · rw [if_pos c2]
      refine ⟨h.wr, fun z => (by rw [show _ = m.word from rfl, hw] at z; cases z), fun v hv => ?_⟩
      rw [show _ = m.word from rfl, hw] at hv
      cases hv
      refine ⟨k, i.hk, i.st, i.ca, fun _ => ⟨fun z => (by have := c2.1; rw [z] at this; cases this), .inr ⟨q, ?_, e⟩⟩, ?_, fun _ z => (by omega)⟩
      · have := c2.2
        rw [st] at this
        simpa using this
      · simp only [if_true]
        omega
    · rw [if_neg c2]
      have hw' : (m.add c).word = some (u ++ [c]) := by simp [MS.add, hw]
      refine ⟨h.wr, fun z => (by rw [show _ = (m.add c).word from rfl, hw'] at z; cases z), fun v hv => ?_⟩
      rw [show _ = (m.add c).word from rfl, hw'] at hv
      cases hv
      refine ⟨k, WInv.add i.hk i.st i.ca (e := 0) (j := 1) le hb ?_ (by omega)⟩
      rw [e]
      have cq : c ≠ q := fun z => c1 (by rw [st, z])
      by_cases hh : q ∈ r.hard
      · simp only [costT, if_pos hh, if_pos cq]
      · have hsf : q ∈ r.soft := (List.mem_append.mp hq).elim (fun z => absurd z hh) id
        have cb : c ∉ r.bend := fun z => c2 ⟨z, by rw [st]; simpa using hsf⟩
        simp only [costT, if_neg hh, if_pos (show c ≠ q ∧ c ∉ r.bend from ⟨cq, cb⟩)]
theorem LInv.run {r : RS} (ok : r.Ok) : ∀ (t : Tx) {m : MS} {ds : List W3} {n : Nat}, LInv r m ds n → LInv r (m.run r t).1 (ds ++ (m.run r t).2) (n + t.length)
  | [], m, ds, n, h => by rw [show (m.run r []).2 = [] from rfl, List.append_nil]; exact h
  | c :: t, m, ds, n, h => by
    have ih := LInv.run ok t (h.step ok c)
    rw [List.append_assoc] at ih
    rw [List.length_cons, show n + (t.length + 1) = n + 1 + t.length by omega]
    exact ih
/-- a text's words can be written, and as many signs are wanted at least -/
theorem read_least {r : RS} (ok : r.Ok) {t : Tx} {rp : Addr} {ds : List W3} (h : readAll r t rp = .ok ds) : (∀ d ∈ ds, cannotT r d.1 = false) ∧ totT r ds ≤ t.length + 1 := by
  have z : LInv r (MS.zero rp) [] 0 := ⟨fun _ z => (nomatch z), fun _ => ⟨rfl, .inl rfl, Nat.le_refl _⟩, fun u z => (nomatch z)⟩
  have i := LInv.run ok t z
  rw [List.nil_append, Nat.zero_add] at i
  unfold readAll at h
  split at h
  · cases h
  · rename_i hf
    cases h
    generalize ((MS.zero rp).run r t).1 = m at *
    generalize ((MS.zero rp).run r t).2 = ds at *
    cases hw : m.word with
    | none =>
      have o : m.out = [] := by unfold MS.out; rw [hw]
      rw [o, List.append_nil]
      exact ⟨i.wr, Nat.le_succ_of_le (i.non hw).2.2⟩
    | some u =>
      have o : m.out = [(u, m.begun, m.place)] := by unfold MS.out; rw [hw]
      obtain ⟨k, j⟩ := i.som u hw
      unfold MS.fault at hf
      have hf : ¬ (m.bent = true ∨ (m.state ≠ [] ∧ m.state ≠ NT)) := fun z => by rw [if_pos z] at hf; cases hf
      have hb : m.bent = false := by
        cases e : m.bent with
        | true => exact absurd (.inl e) hf
        | false => rfl
      have k0 : k = 0 := by
        rcases Nat.eq_zero_or_pos k with z | z
        · exact z
        · obtain ⟨q, _, e⟩ := sts_succ j.hk z
          have st := j.st
          rw [e] at st
          exact absurd (.inr ⟨by rw [st]; simp [sT], by rw [st]; exact one_NT q⟩) hf
      subst k0
      rw [o, totT_app]
      have le := j.le
      rw [hb] at le
      simp only [Bool.false_eq_true, if_false] at le
      refine ⟨fun d hd => (List.mem_append.mp hd).elim (i.wr d) fun hd => ?_, ?_⟩
      · rw [List.mem_singleton.mp hd]
        exact cannot_of j.ca fun z => (j.em z rfl hb).2
      · show totT r ds + (leastT r u + 1 + 0) ≤ _
        unfold leastT
        split
        · rename_i z
          have := (j.em z rfl hb).1
          omega
        · omega
/-! ### the same from another place -/
def sh3 (k : Nat) (d : W3) : W3 := (d.1, d.2.1 + k, d.2.2 + k)
structure Sim (k : Nat) (m m' : MS) : Prop where
  st : m'.state = m.state
  be : m'.bent = m.bent
  wd : m'.word = m.word
  pl : m'.place = m.place + k
  bg : m.word ≠ none → m'.begun = m.begun + k
theorem Sim.out {k : Nat} {m m' : MS} (h : Sim k m m') : m'.out = m.out.map (sh3 k) := by
  unfold MS.out
  rw [h.wd]
  cases e : m.word with
  | none => rfl
  | some w =>
    have := h.bg (by rw [e]; simp)
    simp [sh3, this, h.pl]
theorem Sim.begin {k : Nat} {m m' : MS} (h : Sim k m m') : Sim k m.begin m'.begin ∧ m.begin.word ≠ none := by
  unfold MS.begin
  rw [h.wd]
  cases e : m.word with
  | none => exact ⟨⟨h.st, h.be, rfl, h.pl, fun _ => h.pl⟩, by simp⟩
  | some w => exact ⟨h, by rw [e]; simp⟩
theorem Sim.add {k : Nat} {m m' : MS} (h : Sim k m m') (c : Nat) : Sim k (m.add c) (m'.add c) := by
  refine ⟨h.st, h.be, by simp [MS.add, h.wd], h.pl, fun z => h.bg fun y => z ?_⟩
  simp [MS.add, y]
theorem Sim.plain {r : RS} {k : Nat} {m m' : MS} (h : Sim k m m') (c : Nat) : Sim k (m.plain r c).1 (m'.plain r c).1 ∧ (m'.plain r c).2 = (m.plain r c).2.map (sh3 k) := by
  unfold MS.plain
  have b := h.begin.1
  by_cases c1 : c ∈ r.breaks
  · simp only [if_pos c1]
    exact ⟨⟨h.st, h.be, rfl, h.pl, fun z => absurd rfl z⟩, h.out⟩
  by_cases c2 : c ∈ r.note
  · simp only [if_neg c1, if_pos c2]
    exact ⟨⟨rfl, h.be, rfl, h.pl, fun z => absurd rfl z⟩, h.out⟩
  by_cases c3 : c ∈ r.quotes
  · simp only [if_neg c1, if_neg c2, if_pos c3]
    exact ⟨⟨rfl, b.be, b.wd, b.pl, b.bg⟩, rfl⟩
  by_cases c4 : c ∈ r.bend
  · simp only [if_neg c1, if_neg c2, if_neg c3, if_pos c4]
    exact ⟨⟨b.st, rfl, b.wd, b.pl, b.bg⟩, rfl⟩
  · simp only [if_neg c1, if_neg c2, if_neg c3, if_neg c4]
    exact ⟨b.add c, rfl⟩
theorem Sim.quoted {r : RS} {k : Nat} {m m' : MS} (h : Sim k m m') (c : Nat) : Sim k (m.quoted r c) (m'.quoted r c) := by
  unfold MS.quoted
  have e1 : ([c] = m'.state) = ([c] = m.state) := by rw [h.st]
  have e2 : (c ∈ r.bend ∧ m'.state.all (· ∈ r.soft) = true) = (c ∈ r.bend ∧ m.state.all (· ∈ r.soft) = true) := by rw [h.st]
  by_cases h1 : [c] = m.state
  · rw [if_pos h1, if_pos (e1.mpr h1)]
    exact ⟨rfl, h.be, h.wd, h.pl, h.bg⟩
  rw [if_neg h1, if_neg (c := [c] = m'.state) (fun z => h1 (e1.mp z))]
  by_cases h2 : c ∈ r.bend ∧ m.state.all (· ∈ r.soft) = true
  · rw [if_pos h2, if_pos (e2.mpr h2)]
    exact ⟨h.st, rfl, h.wd, h.pl, h.bg⟩
  · rw [if_neg h2, if_neg (c := c ∈ r.bend ∧ m'.state.all (· ∈ r.soft) = true) (fun z => h2 (e2.mp z))]
    exact h.add c
theorem Sim.up {k : Nat} {m m' : MS} (h : Sim k m m') : Sim k { m with place := m.place + 1 } { m' with place := m'.place + 1 } :=
  ⟨h.st, h.be, h.wd, by show m'.place + 1 = m.place + 1 + k; rw [h.pl]; omega, h.bg⟩
theorem Sim.step {r : RS} {k : Nat} {m m' : MS} (h : Sim k m m') (c : Nat) : Sim k (m.step r c).1 (m'.step r c).1 ∧ (m'.step r c).2 = (m.step r c).2.map (sh3 k) := by
  obtain ⟨n, n', e1, e2, s⟩ : ∃ n n', n = (if m.state = NT ∧ c = LE then { m with state := [] } else m) ∧ n' = (if m'.state = NT ∧ c = LE then { m' with state := [] } else m') ∧ Sim k n n' := by
    refine ⟨_, _, rfl, rfl, ?_⟩
    by_cases h1 : m.state = NT ∧ c = LE
    · rw [if_pos h1, if_pos (c := m'.state = NT ∧ c = LE) (by rw [h.st]; exact h1)]
      exact ⟨rfl, h.be, h.wd, h.pl, h.bg⟩
    · rw [if_neg h1, if_neg (c := m'.state = NT ∧ c = LE) (by rw [h.st]; exact h1)]
      exact h
  unfold MS.step
  dsimp only
  rw [← e1, ← e2]
  by_cases hb : n.bent = true
  · rw [if_pos hb, if_pos (s.be.trans hb)]
    exact ⟨(Sim.add (m := { n with bent := false }) (m' := { n' with bent := false }) ⟨s.st, rfl, s.wd, s.pl, s.bg⟩ c).up, rfl⟩
  · rw [if_neg hb, if_neg (c := n'.bent = true) (by rw [s.be]; exact hb)]
    by_cases h1 : n.state = []
    · rw [if_pos h1, if_pos (s.st.trans h1)]
      have p := s.plain (r := r) c
      exact ⟨p.1.up, p.2⟩
    · rw [if_neg h1, if_neg (c := n'.state = []) (by rw [s.st]; exact h1)]
      by_cases h2 : n.state = NT
      · rw [if_pos h2, if_pos (s.st.trans h2)]
        exact ⟨s.up, rfl⟩
      · rw [if_neg h2, if_neg (c := n'.state = NT) (by rw [s.st]; exact h2)]
        exact ⟨(s.quoted c).up, rfl⟩
theorem Sim.run {r : RS} {k : Nat} : ∀ (t : Tx) {m m' : MS}, Sim k m m' → Sim k (m.run r t).1 (m'.run r t).1 ∧ (m'.run r t).2 = (m.run r t).2.map (sh3 k)
  | [], _, _, h => ⟨h, rfl⟩
  | c :: t, m, m', h => by
    have a := h.step (r := r) c
    have b := Sim.run (r := r) t a.1
    refine ⟨b.1, ?_⟩
    show (m'.step r c).2 ++ _ = ((m.step r c).2 ++ _).map (sh3 k)
    rw [a.2, b.2, List.map_append]
theorem Sim.fault {k : Nat} {m m' : MS} (h : Sim k m m') : (m'.fault = none) ↔ (m.fault = none) := by
  unfold MS.fault
  rw [h.be, h.st]
  split <;> simp
/-! ### a word's stretch -/
structure Pl (m : MS) : Prop where
  st : m.state = []
  be : m.bent = false
theorem Pl.fault {m : MS} (h : Pl m) : m.fault = none := by
  unfold MS.fault
  rw [if_neg]
  rintro (z | z)
  · rw [h.be] at z; cases z
  · exact z.1 h.st
/-- in plain the text t is the word w -/
structure Wrd (r : RS) (t w : Tx) (m : MS) : Prop where
  out : (m.run r t).2 = []
  pl : Pl (m.run r t).1
  wd : (m.run r t).1.word = some w
  bg : (m.run r t).1.begun = m.place
def IsWrd (r : RS) (t w : Tx) : Prop := ∀ m : MS, Pl m → m.word = none → Wrd r t w m
theorem IsWrd.of {r : RS} {t w : Tx} {m : MS} (h : Wrd r t w m) (p : Pl m) (e : m.word = none) : IsWrd r t w := fun m' p' e' => by
  rcases Nat.le_total m.place m'.place with le | le
  · have s : Sim (m'.place - m.place) m m' := ⟨by rw [p.st, p'.st], by rw [p.be, p'.be], by rw [e, e'], by omega, fun z => absurd e z⟩
    have q := s.run (r := r) t
    refine ⟨by rw [q.2, h.out]; rfl, ⟨by rw [q.1.st, h.pl.st], by rw [q.1.be, h.pl.be]⟩, by rw [q.1.wd, h.wd], ?_⟩
    rw [q.1.bg (by rw [h.wd]; simp), h.bg]; omega
  · have s : Sim (m.place - m'.place) m' m := ⟨by rw [p.st, p'.st], by rw [p.be, p'.be], by rw [e, e'], by omega, fun z => absurd e' z⟩
    have q := s.run (r := r) t
    have o := q.2
    rw [h.out] at o
    have w1 := q.1.wd
    rw [h.wd] at w1
    refine ⟨by simpa using o.symm, ⟨by rw [← q.1.st, h.pl.st], by rw [← q.1.be, h.pl.be]⟩, w1.symm, ?_⟩
    have b := q.1.bg (by rw [← w1]; simp)
    rw [h.bg] at b
    omega
theorem Runs.isWrd {r : RS} {t w : Tx} (h : Runs r none [] t w) (ne : t ≠ []) : IsWrd r t w := fun m p e => by
  cases t with
  | nil => exact absurd rfl ne
  | cons c t =>
    have key : ∀ m : MS, Pl m → m.word = some [] → c ∉ r.breaks ∧ c ∉ r.note := fun m p e => by
      have o := (h m p.st p.be e).1
      rw [show (m.run r (c :: t)).2 = (m.step r c).2 ++ ((m.step r c).1.run r t).2 from rfl] at o
      have o1 := (List.append_eq_nil_iff.mp o).1
      rw [step_plain p.st p.be] at o1
      have out : m.out ≠ [] := by unfold MS.out; rw [e]; simp
      refine ⟨fun z => out ?_, fun z => out ?_⟩
      · unfold MS.plain at o1
        rw [if_pos z] at o1
        exact o1
      · unfold MS.plain at o1
        by_cases y : c ∈ r.breaks
        · rw [if_pos y] at o1; exact o1
        · rw [if_neg y, if_pos z] at o1; exact o1
    have pb : Pl m.begin := ⟨by unfold MS.begin; rw [e]; exact p.st, by unfold MS.begin; rw [e]; exact p.be⟩
    have wb : m.begin.word = some [] := by unfold MS.begin; rw [e]
    obtain ⟨k1, k2⟩ := key _ pb wb
    have er : m.run r (c :: t) = m.begin.run r (c :: t) := by
      show (((m.step r c).1.run r t).1, _) = (((m.begin.step r c).1.run r t).1, _)
      rw [step_begin p.st p.be k1 k2]
    obtain ⟨a1, a2, a3, a4, a5⟩ := h _ pb.st pb.be wb
    refine ⟨by rw [er]; exact a1, ⟨by rw [er]; exact a2, by rw [er]; exact a3⟩, by rw [er]; exact a4, ?_⟩
    rw [er, a5]
    unfold MS.begin
    rw [e]
theorem readAll_of {r : RS} {t : Tx} {rp : Addr} (h : Pl ((MS.zero rp).run r t).1) : readAll r t rp = .ok (((MS.zero rp).run r t).2 ++ ((MS.zero rp).run r t).1.out) := by
  unfold readAll
  rw [h.fault]
theorem IsWrd.read {r : RS} {t w : Tx} (h : IsWrd r t w) (rp : Addr) : readAll r t rp = .ok [(w, 0, t.length)] := by
  have q := h (MS.zero rp) ⟨rfl, rfl⟩ rfl
  have pl := MS.place_run r t (MS.zero rp)
  rw [readAll_of q.pl, q.out]
  unfold MS.out
  rw [q.wd, q.bg, pl]
  simp [MS.zero]
/-! ### words with breaks between -/
def wordsAt : Nat → List (Tx × Tx) → List W3
  | _, [] => []
  | k, (t, w) :: l => (w, k, k + t.length) :: wordsAt (k + t.length + 1) l
theorem wordsAt_map (l : List (Tx × Tx)) : ∀ k, (wordsAt k l).map (·.1) = l.map (·.2) := by
  induction l with
  | nil => intro _; rfl
  | cons x l ih => intro k; simp [wordsAt, ih]
/-- all words' writings, a break between -/
def joinT (c : Nat) : List Tx → Tx
  | [] => []
  | [x] => x
  | x :: y :: l => x ++ c :: joinT c (y :: l)
theorem run_break {r : RS} {m : MS} {b : Nat} (hb : b ∈ r.breaks) (p : Pl m) : m.step r b = ({ m.drop with place := m.place + 1 }, m.out) := by
  rw [step_plain p.st p.be]
  unfold MS.plain
  rw [if_pos hb]
theorem run_joined {r : RS} {b : Nat} (hb : b ∈ r.breaks) : ∀ (l : List (Tx × Tx)), (∀ x ∈ l, IsWrd r x.1 x.2) → ∀ m : MS, Pl m → m.word = none →
    Pl (m.run r (joinT b (l.map (·.1)))).1 ∧ (m.run r (joinT b (l.map (·.1)))).2 ++ (m.run r (joinT b (l.map (·.1)))).1.out = wordsAt m.place l
  | [], _, m, p, e => ⟨p, by show [] ++ m.out = []; unfold MS.out; rw [e]; rfl⟩
  | [(t, w)], h, m, p, e => by
    have q := h (t, w) List.mem_cons_self m p e
    have pl := MS.place_run r t m
    show Pl (m.run r t).1 ∧ (m.run r t).2 ++ (m.run r t).1.out = _
    refine ⟨q.pl, ?_⟩
    rw [q.out]
    unfold MS.out
    rw [q.wd, q.bg, pl]
    rfl
  | (t, w) :: y :: l, h, m, p, e => by
    have q := h (t, w) List.mem_cons_self m p e
    have pl := MS.place_run r t m
    have ih := run_joined hb (y :: l) (fun x hx => h x (List.mem_cons_of_mem _ hx)) { (m.run r t).1.drop with place := (m.run r t).1.place + 1 } ⟨q.pl.st, q.pl.be⟩ rfl
    have er : m.run r (joinT b (((t, w) :: y :: l).map (·.1))) = ((({ (m.run r t).1.drop with place := (m.run r t).1.place + 1 } : MS).run r (joinT b ((y :: l).map (·.1)))).1, (m.run r t).1.out ++ (({ (m.run r t).1.drop with place := (m.run r t).1.place + 1 } : MS).run r (joinT b ((y :: l).map (·.1)))).2) := by
      show m.run r (t ++ b :: joinT b ((y :: l).map (·.1))) = _
      rw [MS.run_app, q.out, List.nil_append]
      show (((((m.run r t).1.step r b).1).run r _).1, ((m.run r t).1.step r b).2 ++ _) = _
      rw [run_break hb q.pl]
    rw [er]
    refine ⟨ih.1, ?_⟩
    rw [List.append_assoc, ih.2]
    unfold MS.out
    rw [q.wd, q.bg, pl]
    rfl
theorem read_joined {r : RS} {b : Nat} (hb : b ∈ r.breaks) (l : List (Tx × Tx)) (h : ∀ x ∈ l, IsWrd r x.1 x.2) (rp : Addr) : readAll r (joinT b (l.map (·.1))) rp = .ok (wordsAt 0 l) := by
  have q := run_joined hb l h (MS.zero rp) ⟨rfl, rfl⟩ rfl
  rw [readAll_of q.1, q.2]
  rfl
/-! ### each word's stretch is that word -/
/-- where a word began -/
structure Beg (r : RS) (m : MS) (u : Tx) : Prop where
  ln : m.place = u.length
  nn : m.word = none → m.bent = false ∧ (m.state = [] ∨ m.state = NT)
  ss : m.word ≠ none → m.state ≠ NT
  wd : m.word ≠ none → ∃ m0 p v, Pl m0 ∧ m0.word = none ∧ u = v ++ p ∧ m0.place = v.length ∧ m0.run r p = (m, []) ∧ m.begun = m0.place
def cutT (t : Tx) (b e : Nat) : Tx := (t.take e).drop b
def WOk (r : RS) (u : Tx) (d : W3) : Prop := IsWrd r (cutT u d.2.1 d.2.2) d.1 ∧ d.2.1 ≤ d.2.2 ∧ d.2.2 ≤ u.length
theorem WOk.more {r : RS} {u : Tx} {d : W3} (h : WOk r u d) (v : Tx) : WOk r (u ++ v) d := by
  obtain ⟨h1, h2, h3⟩ := h
  refine ⟨?_, h2, by rw [List.length_append]; omega⟩
  rw [cutT, List.take_append_of_le_length h3]
  exact h1
theorem Beg.out {r : RS} {m : MS} {u : Tx} (h : Beg r m u) (p : Pl m) : ∀ d ∈ m.out, WOk r u d := fun d hd => by
  unfold MS.out at hd
  cases hw : m.word with
  | none => rw [hw] at hd; cases hd
  | some w =>
    rw [hw] at hd
    cases List.mem_singleton.mp hd
    obtain ⟨m0, p', v, q0, q1, rfl, q2, q3, bg⟩ := h.wd (by rw [hw]; simp)
    have ln := h.ln
    refine ⟨?_, by rw [List.length_append] at ln; show m.begun ≤ m.place; omega, by show m.place ≤ _; omega⟩
    have ec : cutT (v ++ p') m.begun m.place = p' := by
      rw [cutT, ln, List.take_length, bg, q2, List.drop_left]
    show IsWrd r (cutT (v ++ p') m.begun m.place) w
    rw [ec]
    exact IsWrd.of (m := m0) ⟨by rw [q3], by rw [q3]; exact p, by rw [q3]; exact hw, by rw [q3]; exact bg⟩ q0 q1
/-- a sign more of a word that is there -/
theorem Beg.go {r : RS} {m m' : MS} {u : Tx} {c : Nat} (h : Beg r m u) (hw : m.word ≠ none) (e : m.step r c = (m', [])) (bg : m'.begun = m.begun) (w' : m'.word ≠ none) (s' : m'.state ≠ NT) : Beg r m' (u ++ [c]) := by
  refine ⟨?_, fun z => absurd z w', fun _ => s', fun _ => ?_⟩
  · have := MS.place_step r m c
    rw [e] at this
    rw [List.length_append, ← h.ln]
    exact this
  · obtain ⟨m0, p, v, q0, q1, q2, q3, q4, q5⟩ := h.wd hw
    refine ⟨m0, p ++ [c], v, q0, q1, by rw [q2, List.append_assoc], q3, ?_, bg.trans q5⟩
    rw [MS.run_one, q4, e]
    rfl
theorem add_word {m : MS} (c : Nat) (h : m.word ≠ none) : (m.add c).word ≠ none := by
  cases e : m.word with
  | none => exact absurd e h
  | some w => simp [MS.add, e]
theorem Beg.plain {r : RS} {m : MS} {u : Tx} (h : Beg r m u) (p : Pl m) (c : Nat) : Beg r (m.step r c).1 (u ++ [c]) ∧ ∀ d ∈ (m.step r c).2, WOk r (u ++ [c]) d := by
  have pl := MS.place_step r m c
  rw [h.ln] at pl
  have pl : (m.step r c).1.place = (u ++ [c]).length := by rw [pl]; simp
  have st := step_plain (r := r) (c := c) p.st p.be
  by_cases c1 : c ∈ r.breaks
  · have e : m.plain r c = (m.drop, m.out) := by unfold MS.plain; rw [if_pos c1]
    rw [e] at st
    refine ⟨⟨pl, fun _ => ?_, fun z => ?_, fun z => ?_⟩, fun d hd => ?_⟩
    · rw [st]; exact ⟨p.be, .inl p.st⟩
    · rw [st] at z; exact absurd rfl z
    · rw [st] at z; exact absurd rfl z
    · rw [st] at hd
      exact (h.out p d hd).more _
  by_cases c2 : c ∈ r.note
  · have e : m.plain r c = ({ m.drop with state := NT }, m.out) := by unfold MS.plain; rw [if_neg c1, if_pos c2]
    rw [e] at st
    refine ⟨⟨pl, fun _ => ?_, fun z => ?_, fun z => ?_⟩, fun d hd => ?_⟩
    · rw [st]; exact ⟨p.be, .inr rfl⟩
    · rw [st] at z; exact absurd rfl z
    · rw [st] at z; exact absurd rfl z
    · rw [st] at hd
      exact (h.out p d hd).more _
  obtain ⟨m1, e, bg, w1, s1⟩ : ∃ m1, m.plain r c = (m1, []) ∧ m1.begun = m.begin.begun ∧ m1.word ≠ none ∧ m1.state ≠ NT := by
    have bs : m.begin.state = [] := by unfold MS.begin; split <;> exact p.st
    have bw : m.begin.word ≠ none := by
      unfold MS.begin
      split
      · simp
      · rename_i w e; rw [e]; simp
    unfold MS.plain
    rw [if_neg c1, if_neg c2]
    by_cases c3 : c ∈ r.quotes
    · rw [if_pos c3]; exact ⟨_, rfl, rfl, bw, one_NT c⟩
    rw [if_neg c3]
    by_cases c4 : c ∈ r.bend
    · rw [if_pos c4]; exact ⟨_, rfl, rfl, bw, by show m.begin.state ≠ NT; rw [bs]; exact nil_NT⟩
    · rw [if_neg c4]; exact ⟨_, rfl, rfl, add_word c bw, by show m.begin.state ≠ NT; rw [bs]; exact nil_NT⟩
  rw [e] at st
  refine ⟨?_, fun d hd => (by rw [st] at hd; cases hd)⟩
  by_cases hw : m.word = none
  · rw [st] at pl ⊢
    refine ⟨pl, fun z => absurd z w1, fun _ => s1, fun _ => ⟨m, [c], u, p, hw, rfl, h.ln, ?_, ?_⟩⟩
    · show ((m.step r c).1, (m.step r c).2 ++ []) = _
      rw [st]
      rfl
    · show m1.begun = m.place
      rw [bg]
      unfold MS.begin
      rw [hw]
  · rw [st]
    have b2 : m.begin = m := by
      unfold MS.begin
      split
      · rename_i z; exact absurd z hw
      · rfl
    exact h.go hw st (by show m1.begun = _; rw [bg, b2]) w1 s1
theorem Beg.step {r : RS} {m : MS} {u : Tx} (h : Beg r m u) (c : Nat) : Beg r (m.step r c).1 (u ++ [c]) ∧ ∀ d ∈ (m.step r c).2, WOk r (u ++ [c]) d := by
  by_cases hw : m.word = none
  · obtain ⟨hb, hs | hs⟩ := h.nn hw
    · exact h.plain ⟨hs, hb⟩ c
    · by_cases hc : c = LE
      · subst hc
        rw [step_nt hs hb]
        exact Beg.plain (m := { m with state := [] }) ⟨h.ln, fun _ => ⟨hb, .inl rfl⟩, fun z => absurd hw z, fun z => absurd hw z⟩ ⟨rfl, hb⟩ LE
      · rw [step_nt' hs hb hc]
        refine ⟨⟨by show m.place + 1 = _; rw [h.ln]; simp, fun _ => ⟨hb, .inr hs⟩, fun z => absurd hw z, fun z => absurd hw z⟩, fun _ z => (nomatch z)⟩
  · have hn := h.ss hw
    by_cases hb : m.bent = true
    · have st := step_bent (r := r) (c := c) hn hb
      rw [st]
      exact ⟨h.go hw st rfl (add_word (m := { m with bent := false }) c hw) hn, fun _ z => (nomatch z)⟩
    have hb : m.bent = false := by simpa using hb
    by_cases hs : m.state = []
    · exact h.plain ⟨hs, hb⟩ c
    · have st : m.step r c = ({ (m.quoted r c) with place := m.place + 1 }, []) := by
        unfold MS.step
        rw [if_neg (fun z => hn z.1)]
        simp only [hb, Bool.false_eq_true, if_false, hs, hn]
        rw [MS.place_quoted]
      rw [st]
      have q : (m.quoted r c).begun = m.begun ∧ (m.quoted r c).word ≠ none ∧ (m.quoted r c).state ≠ NT := by
        unfold MS.quoted
        split
        · exact ⟨rfl, hw, nil_NT⟩
        split
        · exact ⟨rfl, hw, hn⟩
        · exact ⟨rfl, add_word c hw, hn⟩
      exact ⟨h.go hw st q.1 q.2.1 q.2.2, fun _ z => (nomatch z)⟩
theorem Beg.run {r : RS} : ∀ (t : Tx) {m : MS} {u : Tx}, Beg r m u → Beg r (m.run r t).1 (u ++ t) ∧ ∀ d ∈ (m.run r t).2, WOk r (u ++ t) d
  | [], m, u, h => by rw [List.append_nil]; exact ⟨h, fun _ z => (nomatch z)⟩
  | c :: t, m, u, h => by
    have a := h.step c
    have b := Beg.run t a.1
    rw [List.append_assoc] at b
    refine ⟨b.1, fun d hd => ?_⟩
    rcases List.mem_append.mp hd with z | z
    · have := (a.2 d z).more t
      rw [List.append_assoc] at this
      exact this
    · exact b.2 d z
theorem no_fault {m : MS} (h : m.fault = none) : m.bent = false ∧ (m.state = [] ∨ m.state = NT) := by
  unfold MS.fault at h
  have hf : ¬ (m.bent = true ∨ (m.state ≠ [] ∧ m.state ≠ NT)) := fun z => (by rw [if_pos z] at h; cases h)
  refine ⟨?_, ?_⟩
  · cases e : m.bent with
    | true => exact absurd (.inl e) hf
    | false => rfl
  · by_cases z : m.state = []
    · exact .inl z
    · by_cases y : m.state = NT
      · exact .inr y
      · exact absurd (.inr ⟨z, y⟩) hf
/-- the words of a text, each by its stretch -/
theorem read_stretch {r : RS} {t : Tx} {rp : Addr} {ds : List W3} (h : readAll r t rp = .ok ds) : ∀ d ∈ ds, WOk r t d := by
  have z : Beg r (MS.zero rp) [] := ⟨rfl, fun _ => ⟨rfl, .inl rfl⟩, fun y => absurd rfl y, fun y => absurd rfl y⟩
  have i := z.run t
  rw [List.nil_append] at i
  unfold readAll at h
  split at h
  · cases h
  · rename_i hf
    cases h
    obtain ⟨hb, hs⟩ := no_fault hf
    intro d hd
    rcases List.mem_append.mp hd with y | y
    · exact i.2 d y
    · rcases hs with hs | hs
      · exact i.1.out ⟨hs, hb⟩ d y
      · have w0 : ((MS.zero rp).run r t).1.word = none := by
          cases e : ((MS.zero rp).run r t).1.word with
          | none => rfl
          | some w => exact absurd hs (i.1.ss (by rw [e]; simp))
        unfold MS.out at y
        rw [w0] at y
        cases y
/-! ### two texts, a break between -/
theorem no_note_run {r : RS} (hn : r.note = []) : ∀ (t : Tx) {m : MS}, m.Ok → m.state ≠ NT → (m.run r t).1.state ≠ NT
  | [], _, _, h => h
  | c :: t, m, ok, h => no_note_run hn t (ok.step r c) (by
    refine MS.step_cases r m c (fun x => x.1.state ≠ NT) (fun m1 e _ => ?_) (fun m1 e _ s => ?_) (fun _ z _ => absurd z h) fun _ _ _ => ?_
    · rcases e with e | e <;> subst e
      · exact h
      · exact nil_NT
    · show (m1.plain r c).1.state ≠ NT
      have bs : m1.begin.state = [] := by unfold MS.begin; split <;> exact s
      unfold MS.plain
      split
      · show m1.state ≠ NT; rw [s]; exact nil_NT
      split
      · rename_i z; rw [hn] at z; cases z
      split
      · exact one_NT c
      split
      · show m1.begin.state ≠ NT; rw [bs]; exact nil_NT
      · show m1.begin.state ≠ NT; rw [bs]; exact nil_NT
    · show (m.quoted r c).state ≠ NT
      unfold MS.quoted
      split
      · exact nil_NT
      split
      · exact h
      · exact h)
theorem read_two {r : RS} (hn : r.note = []) {b : Nat} (hb : b ∈ r.breaks) {t u : Tx} {rp : Addr} {ds es : List W3} (h1 : readAll r t rp = .ok ds) (h2 : readAll r u rp = .ok es) :
    readAll r (t ++ b :: u) rp = .ok (ds ++ es.map (sh3 (t.length + 1))) := by
  unfold readAll at h1 h2
  split at h1
  · cases h1
  rename_i f1
  split at h2
  · cases h2
  rename_i f2
  cases h1
  cases h2
  obtain ⟨b1, s1⟩ := no_fault f1
  have p1 : Pl ((MS.zero rp).run r t).1 := ⟨s1.elim id fun z => absurd z (no_note_run hn t (MS.Ok.zero rp) nil_NT), b1⟩
  have pl := MS.place_run r t (MS.zero rp)
  have er : (MS.zero rp).run r (t ++ b :: u) = ((({ ((MS.zero rp).run r t).1.drop with place := ((MS.zero rp).run r t).1.place + 1 } : MS).run r u).1, ((MS.zero rp).run r t).2 ++ (((MS.zero rp).run r t).1.out ++ (({ ((MS.zero rp).run r t).1.drop with place := ((MS.zero rp).run r t).1.place + 1 } : MS).run r u).2)) := by
    rw [MS.run_app]
    show (((((MS.zero rp).run r t).1.step r b).1.run r u).1, _ ++ ((((MS.zero rp).run r t).1.step r b).2 ++ _)) = _
    rw [run_break hb p1]
  have s : Sim (t.length + 1) (MS.zero rp) { ((MS.zero rp).run r t).1.drop with place := ((MS.zero rp).run r t).1.place + 1 } :=
    ⟨p1.st, p1.be, rfl, by show ((MS.zero rp).run r t).1.place + 1 = _; rw [pl]; simp only [MS.zero]; omega, fun z => absurd rfl z⟩
  have q := s.run (r := r) u
  unfold readAll
  rw [er]
  dsimp only
  rw [q.1.fault.mpr f2]
  dsimp only
  rw [q.2, q.1.out]
  simp only [List.append_assoc, List.map_append]
/-! ### other signs in the places of all -/
structure Ren (f : Nat → Nat) : Prop where
  inj : ∀ a b, f a = f b → a = b
  le : f LE = LE
def RS.ren (f : Nat → Nat) (r : RS) : RS := ⟨r.breaks.map f, r.hard.map f, r.soft.map f, r.bend.map f, r.note.map f⟩
theorem Ren.mem {f : Nat → Nat} (h : Ren f) {c : Nat} {l : Tx} : f c ∈ l.map f ↔ c ∈ l := by
  constructor
  · intro z
    obtain ⟨a, h1, h2⟩ := List.mem_map.mp z
    rwa [← h.inj _ _ h2]
  · exact List.mem_map_of_mem
theorem Ren.eqLE {f : Nat → Nat} (h : Ren f) {c : Nat} : f c = LE ↔ c = LE := by
  constructor
  · intro z; exact h.inj _ _ (z.trans h.le.symm)
  · intro z; rw [z, h.le]
theorem ren_quotes (f : Nat → Nat) (r : RS) : (r.ren f).quotes = r.quotes.map f := by simp [RS.quotes, RS.ren]
def ren3 (f : Nat → Nat) (d : W3) : W3 := (d.1.map f, d.2.1, d.2.2)
structure RSim (f : Nat → Nat) (m m' : MS) : Prop where
  st : m'.state = if m.state = NT then NT else m.state.map f
  ok : m.state = [] ∨ m.state = NT ∨ ∃ q, m.state = [q]
  be : m'.bent = m.bent
  wd : m'.word = m.word.map (·.map f)
  pl : m'.place = m.place
  op : m'.opened = m.opened
  bg : m'.begun = m.begun
theorem RSim.nt {f : Nat → Nat} {m m' : MS} (h : RSim f m m') : m'.state = NT ↔ m.state = NT := by
  rw [h.st]
  constructor
  · intro z
    split at z
    · assumption
    · rcases h.ok with e | e | ⟨q, e⟩
      · rw [e] at z; cases z
      · exact e
      · rw [e] at z; exact absurd z (one_NT (f q))
  · intro z; rw [if_pos z]
theorem RSim.nil {f : Nat → Nat} {m m' : MS} (h : RSim f m m') : m'.state = [] ↔ m.state = [] := by
  rw [h.st]
  rcases h.ok with e | e | ⟨q, e⟩ <;> rw [e] <;> simp [NT]
theorem RSim.out {f : Nat → Nat} {m m' : MS} (h : RSim f m m') : m'.out = m.out.map (ren3 f) := by
  unfold MS.out
  rw [h.wd]
  cases e : m.word with
  | none => rfl
  | some w => simp [ren3, h.pl, h.bg]
theorem RSim.begin {f : Nat → Nat} {m m' : MS} (h : RSim f m m') : RSim f m.begin m'.begin := by
  unfold MS.begin
  rw [h.wd]
  cases e : m.word with
  | none => exact ⟨h.st, h.ok, h.be, rfl, h.pl, h.op, h.pl⟩
  | some w => exact ⟨h.st, h.ok, h.be, by rw [e]; exact h.wd.trans (by rw [e]), h.pl, h.op, h.bg⟩
theorem RSim.add {f : Nat → Nat} {m m' : MS} (h : RSim f m m') (c : Nat) : RSim f (m.add c) (m'.add (f c)) := by
  refine ⟨h.st, h.ok, h.be, ?_, h.pl, h.op, h.bg⟩
  show m'.word.map _ = (m.word.map _).map _
  rw [h.wd]
  cases m.word <;> simp
theorem RSim.plain {f : Nat → Nat} (F : Ren f) {r : RS} {m m' : MS} (h : RSim f m m') (hs : m.state = []) (c : Nat) : RSim f (m.plain r c).1 (m'.plain (r.ren f) (f c)).1 ∧ (m'.plain (r.ren f) (f c)).2 = (m.plain r c).2.map (ren3 f) := by
  have b := h.begin
  have bs : m.begin.state = [] := by unfold MS.begin; split <;> exact hs
  have s' : m'.state = [] := h.nil.mpr hs
  have e1 : (f c ∈ (r.ren f).breaks) = (c ∈ r.breaks) := propext F.mem
  have e2 : (f c ∈ (r.ren f).note) = (c ∈ r.note) := propext F.mem
  have e3 : (f c ∈ (r.ren f).quotes) = (c ∈ r.quotes) := by rw [ren_quotes]; exact propext F.mem
  have e4 : (f c ∈ (r.ren f).bend) = (c ∈ r.bend) := propext F.mem
  unfold MS.plain
  by_cases c1 : c ∈ r.breaks
  · rw [if_pos c1, if_pos (e1.mpr c1)]
    exact ⟨⟨h.st, h.ok, h.be, rfl, h.pl, h.op, h.bg⟩, h.out⟩
  rw [if_neg c1, if_neg (c := f c ∈ (r.ren f).breaks) (fun z => c1 (e1.mp z))]
  by_cases c2 : c ∈ r.note
  · rw [if_pos c2, if_pos (e2.mpr c2)]
    exact ⟨⟨rfl, .inr (.inl rfl), h.be, rfl, h.pl, h.op, h.bg⟩, h.out⟩
  rw [if_neg c2, if_neg (c := f c ∈ (r.ren f).note) (fun z => c2 (e2.mp z))]
  by_cases c3 : c ∈ r.quotes
  · rw [if_pos c3, if_pos (e3.mpr c3)]
    exact ⟨⟨by rw [if_neg (one_NT c)]; rfl, .inr (.inr ⟨c, rfl⟩), b.be, b.wd, b.pl, b.pl, b.bg⟩, rfl⟩
  rw [if_neg c3, if_neg (c := f c ∈ (r.ren f).quotes) (fun z => c3 (e3.mp z))]
  by_cases c4 : c ∈ r.bend
  · rw [if_pos c4, if_pos (e4.mpr c4)]
    exact ⟨⟨b.st, b.ok, rfl, b.wd, b.pl, b.pl, b.bg⟩, rfl⟩
  · rw [if_neg c4, if_neg (c := f c ∈ (r.ren f).bend) (fun z => c4 (e4.mp z))]
    exact ⟨b.add c, rfl⟩
theorem RSim.quoted {f : Nat → Nat} (F : Ren f) {r : RS} {m m' : MS} (h : RSim f m m') {q : Nat} (hs : m.state = [q]) (c : Nat) : RSim f (m.quoted r c) (m'.quoted (r.ren f) (f c)) := by
  have s' : m'.state = [f q] := by rw [h.st, if_neg (by rw [hs]; exact one_NT q), hs]; rfl
  have e1 : ([f c] = m'.state) = ([c] = m.state) := by
    rw [s', hs]
    refine propext ⟨fun z => ?_, fun z => ?_⟩
    · injection z with z; rw [F.inj _ _ z]
    · injection z with z; rw [z]
  have e2 : (f c ∈ (r.ren f).bend ∧ m'.state.all (· ∈ (r.ren f).soft) = true) = (c ∈ r.bend ∧ m.state.all (· ∈ r.soft) = true) := by
    rw [s', hs]
    simp only [List.all_cons, List.all_nil, Bool.and_true, decide_eq_true_eq]
    exact propext ⟨fun z => ⟨F.mem.mp z.1, F.mem.mp z.2⟩, fun z => ⟨F.mem.mpr z.1, F.mem.mpr z.2⟩⟩
  unfold MS.quoted
  by_cases h1 : [c] = m.state
  · rw [if_pos h1, if_pos (e1.mpr h1)]
    exact ⟨rfl, .inl rfl, h.be, h.wd, h.pl, h.op, h.bg⟩
  rw [if_neg h1, if_neg (c := [f c] = m'.state) (fun z => h1 (e1.mp z))]
  by_cases h2 : c ∈ r.bend ∧ m.state.all (· ∈ r.soft) = true
  · rw [if_pos h2, if_pos (e2.mpr h2)]
    exact ⟨h.st, h.ok, rfl, h.wd, h.pl, h.op, h.bg⟩
  · rw [if_neg h2, if_neg (c := f c ∈ (r.ren f).bend ∧ m'.state.all (· ∈ (r.ren f).soft) = true) (fun z => h2 (e2.mp z))]
    exact h.add c
theorem RSim.up {f : Nat → Nat} {m m' : MS} (h : RSim f m m') : RSim f { m with place := m.place + 1 } { m' with place := m'.place + 1 } :=
  ⟨h.st, h.ok, h.be, h.wd, by show m'.place + 1 = m.place + 1; rw [h.pl], h.op, h.bg⟩
theorem RSim.step {f : Nat → Nat} (F : Ren f) {r : RS} {m m' : MS} (h : RSim f m m') (c : Nat) : RSim f (m.step r c).1 (m'.step (r.ren f) (f c)).1 ∧ (m'.step (r.ren f) (f c)).2 = (m.step r c).2.map (ren3 f) := by
  obtain ⟨n, n', e1, e2, s⟩ : ∃ n n', n = (if m.state = NT ∧ c = LE then { m with state := [] } else m) ∧ n' = (if m'.state = NT ∧ f c = LE then { m' with state := [] } else m') ∧ RSim f n n' := by
    refine ⟨_, _, rfl, rfl, ?_⟩
    by_cases h1 : m.state = NT ∧ c = LE
    · rw [if_pos h1, if_pos (c := m'.state = NT ∧ f c = LE) ⟨h.nt.mpr h1.1, F.eqLE.mpr h1.2⟩]
      exact ⟨rfl, .inl rfl, h.be, h.wd, h.pl, h.op, h.bg⟩
    · rw [if_neg h1, if_neg (c := m'.state = NT ∧ f c = LE) (fun z => h1 ⟨h.nt.mp z.1, F.eqLE.mp z.2⟩)]
      exact h
  unfold MS.step
  dsimp only
  rw [← e1, ← e2]
  by_cases hb : n.bent = true
  · rw [if_pos hb, if_pos (s.be.trans hb)]
    exact ⟨(RSim.add (m := { n with bent := false }) (m' := { n' with bent := false }) ⟨s.st, s.ok, rfl, s.wd, s.pl, s.op, s.bg⟩ c).up, rfl⟩
  · rw [if_neg hb, if_neg (c := n'.bent = true) (by rw [s.be]; exact hb)]
    by_cases h1 : n.state = []
    · rw [if_pos h1, if_pos (s.nil.mpr h1)]
      have p := s.plain F (r := r) h1 c
      exact ⟨p.1.up, p.2⟩
    · rw [if_neg h1, if_neg (c := n'.state = []) (fun z => h1 (s.nil.mp z))]
      by_cases h2 : n.state = NT
      · rw [if_pos h2, if_pos (s.nt.mpr h2)]
        exact ⟨s.up, rfl⟩
      · rw [if_neg h2, if_neg (c := n'.state = NT) (fun z => h2 (s.nt.mp z))]
        obtain ⟨q, hq⟩ : ∃ q, n.state = [q] := by
          rcases s.ok with e | e | e
          · exact absurd e h1
          · exact absurd e h2
          · exact e
        exact ⟨(s.quoted F hq c).up, rfl⟩
theorem RSim.run {f : Nat → Nat} (F : Ren f) {r : RS} : ∀ (t : Tx) {m m' : MS}, RSim f m m' → RSim f (m.run r t).1 (m'.run (r.ren f) (t.map f)).1 ∧ (m'.run (r.ren f) (t.map f)).2 = (m.run r t).2.map (ren3 f)
  | [], _, _, h => ⟨h, rfl⟩
  | c :: t, m, m', h => by
    have a := h.step F (r := r) c
    have b := RSim.run F (r := r) t a.1
    refine ⟨b.1, ?_⟩
    show (m'.step (r.ren f) (f c)).2 ++ _ = ((m.step r c).2 ++ _).map (ren3 f)
    rw [a.2, b.2, List.map_append]
/-- other signs: the words so, the places the same -/
theorem read_ren {f : Nat → Nat} (F : Ren f) (r : RS) (t : Tx) (rp rp' : Addr) : readAll (r.ren f) (t.map f) rp' = match readAll r t rp with
    | .error n => .error n
    | .ok ds => .ok (ds.map (ren3 f)) := by
  have z : RSim f (MS.zero rp) (MS.zero rp') := ⟨by simp [MS.zero, NT], .inl rfl, rfl, rfl, rfl, rfl, rfl⟩
  have q := z.run F (r := r) t
  have ef : ((MS.zero rp').run (r.ren f) (t.map f)).1.fault = ((MS.zero rp).run r t).1.fault := by
    unfold MS.fault
    rw [q.1.op]
    have e : (((MS.zero rp').run (r.ren f) (t.map f)).1.bent = true ∨ (((MS.zero rp').run (r.ren f) (t.map f)).1.state ≠ [] ∧ ((MS.zero rp').run (r.ren f) (t.map f)).1.state ≠ NT)) = (((MS.zero rp).run r t).1.bent = true ∨ (((MS.zero rp).run r t).1.state ≠ [] ∧ ((MS.zero rp).run r t).1.state ≠ NT)) := by
      rw [q.1.be]
      simp only [ne_eq, q.1.nil, q.1.nt]
    by_cases h : (((MS.zero rp).run r t).1.bent = true ∨ (((MS.zero rp).run r t).1.state ≠ [] ∧ ((MS.zero rp).run r t).1.state ≠ NT))
    · rw [if_pos h, if_pos (e.mpr h)]
    · rw [if_neg h, if_neg (fun z => h (e.mp z))]
  unfold readAll
  rw [ef]
  cases ((MS.zero rp).run r t).1.fault with
  | some n => rfl
  | none =>
    dsimp only
    rw [q.2, q.1.out, List.map_append]
theorem cost_ren {f : Nat → Nat} (F : Ren f) (r : RS) (s : So) (c : Nat) : costT (r.ren f) (s.map f) (f c) = costT r s c := by
  have eb : ((r.ren f).bend ≠ []) = (r.bend ≠ []) := by simp [RS.ren]
  have fc : ∀ {a b : Nat}, (f a ≠ f b) = (a ≠ b) := fun {a b} => propext ⟨fun z y => z (by rw [y]), fun z y => z (F.inj _ _ y)⟩
  cases s with
  | none =>
    have e : (f c ∈ (r.ren f).spec) = (c ∈ r.spec) := by
      have : (r.ren f).spec = r.spec.map f := by simp only [RS.spec, ren_quotes]; simp [RS.ren]
      rw [this]; exact propext F.mem
    simp only [Option.map, costT, e, eb]
  | some q =>
    have e1 : (f q ∈ (r.ren f).hard) = (q ∈ r.hard) := propext F.mem
    have e2 : (f c ∉ (r.ren f).bend) = (c ∉ r.bend) := by rw [show (f c ∈ (r.ren f).bend) = (c ∈ r.bend) from propext F.mem]
    simp only [Option.map, costT, e1, e2, eb, fc]
theorem sts_ren (f : Nat → Nat) (r : RS) : (r.ren f).sts = r.sts.map (Option.map f) := by
  simp only [RS.sts, ren_quotes, List.map_cons, List.map_map]
  rfl
theorem next_ren {f : Nat → Nat} (F : Ren f) (r : RS) (row : List Nat) (c : Nat) : nextT (r.ren f) row (f c) = nextT r row c := by
  rw [nextT, nextT, sts_ren]
  generalize r.sts = ss
  induction row generalizing ss with
  | nil => simp
  | cons x row ih =>
    cases ss with
    | nil => simp
    | cons s ss =>
      simp only [List.map_cons, List.zipWith_cons_cons, ih, cost_ren F]
theorem cur_ren {f : Nat → Nat} (F : Ren f) (r : RS) (u : Tx) : curT (r.ren f) (u.map f) = curT r u := by
  have e : row0 (r.ren f) = row0 r := by rw [row0, row0, ren_quotes, List.length_map]
  unfold curT
  rw [e]
  generalize row0 r = row
  induction u generalizing row with
  | nil => rfl
  | cons c u ih =>
    simp only [List.map_cons, List.foldl_cons]
    rw [stepT, next_ren F]
    exact ih _
theorem least_ren {f : Nat → Nat} (F : Ren f) (r : RS) (w : Tx) : leastT (r.ren f) (w.map f) = leastT r w := by
  unfold leastT
  rw [cur_ren F]
  simp only [List.map_eq_nil_iff]
theorem cannot_ren {f : Nat → Nat} (F : Ren f) (r : RS) (w : Tx) : cannotT (r.ren f) (w.map f) = cannotT r w := by
  unfold cannotT
  rw [ren_quotes, sts_ren]
  simp only [List.map_eq_nil_iff, List.any_map, List.all_map]
  congr 1
  congr 1
  funext c
  show (r.sts.all fun s => (costT (r.ren f) (s.map f) (f c)).isNone) = _
  simp only [cost_ren F]
/-- all can be written: a bend, or two quotes -/
theorem all_can {r : RS} (ok : r.Ok) (h : r.bend ≠ [] ∨ 1 < r.quotes.length) (hq : r.quotes ≠ []) (w : Tx) : cannotT r w = false := by
  refine cannot_of (fun c _ => ?_) fun _ => hq
  rcases h with h | h
  · refine ⟨none, none_sts r, ?_⟩
    simp only [costT, if_pos h]
    split <;> rfl
  · have nd : r.quotes.Nodup := by
      have := ok.nd
      simp only [RS.every] at this
      rw [← List.append_assoc r.hard] at this
      exact (List.nodup_append.mp (List.nodup_append.mp this).2.1).1
    match hr : r.quotes, h, nd with
    | a :: b :: l, _, nd =>
      have ab : a ≠ b := fun z => by subst z; simp at nd
      have one : ∀ q ∈ r.quotes, c ≠ q → canT r c := fun q hq hc => by
        refine ⟨some q, some_sts hq, ?_⟩
        by_cases hh : q ∈ r.hard
        · simp [costT, hh, hc]
        · by_cases hb : c ∈ r.bend
          · have hb' : r.bend ≠ [] := fun z => by rw [z] at hb; cases hb
            simp [costT, hh, hb, hb']
          · simp [costT, hh, hc, hb]
      by_cases hc : c = a
      · exact one b (by rw [hr]; simp) (by rw [hc]; exact ab)
      · exact one a (by rw [hr]; simp) hc
theorem ren_ok {f : Nat → Nat} (F : Ren f) {r : RS} (ok : r.Ok) (hs : ∀ c ∈ r.every, sgn (f c) = true) : (r.ren f).Ok := by
  have ev : (r.ren f).every = r.every.map f := by simp [RS.every, RS.ren]
  refine ⟨by simp [RS.ren, ok.l1], by simp [RS.ren, ok.l2], by simp [RS.ren, ok.l3], by simp [RS.ren, ok.l4], by simp [RS.ren, ok.l5], by simp [RS.ren, ok.ne], ?_, ?_⟩
  · rw [ev, List.all_map, List.all_eq_true]
    exact hs
  · rw [ev]
    exact List.Pairwise.map f (fun a b z y => z (F.inj _ _ y)) ok.nd
/-! ### words are apart -/
def spanT (ds : List W3) : Nat := (ds.map fun d => d.2.2 - d.2.1 + 1).sum
theorem spanT_app (a b : List W3) : spanT (a ++ b) = spanT a + spanT b := by simp [spanT]
structure SInv (m : MS) (ds : List W3) : Prop where
  non : m.word = none → spanT ds ≤ m.place
  som : m.word ≠ none → spanT ds ≤ m.begun ∧ m.begun ≤ m.place
theorem SInv.out {m : MS} {ds : List W3} (h : SInv m ds) : spanT (ds ++ m.out) ≤ m.place + 1 := by
  unfold MS.out
  cases e : m.word with
  | none => rw [List.append_nil]; have := h.non e; omega
  | some w =>
    have := h.som (by rw [e]; simp)
    rw [spanT_app]
    show spanT ds + (m.place - m.begun + 1 + 0) ≤ _
    omega
theorem SInv.begin {m : MS} {ds : List W3} (h : SInv m ds) : SInv m.begin ds := by
  unfold MS.begin
  cases e : m.word with
  | none => exact ⟨fun z => (by cases z), fun _ => ⟨h.non e, Nat.le_refl _⟩⟩
  | some w => exact h
theorem SInv.put {m m' : MS} {ds : List W3} (h : SInv m ds) (hw : m'.word = none ↔ m.word = none) (hb : m'.begun = m.begun) (hp : m.place ≤ m'.place) : SInv m' ds := by
  refine ⟨fun z => Nat.le_trans (h.non (hw.mp z)) hp, fun z => ?_⟩
  have := h.som fun y => z (hw.mpr y)
  omega
theorem SInv.step {r : RS} {m : MS} {ds : List W3} (h : SInv m ds) (c : Nat) : SInv (m.step r c).1 (ds ++ (m.step r c).2) := by
  have addw : ∀ (m : MS), (m.add c).word = none ↔ m.word = none := fun m => by unfold MS.add; cases m.word <;> simp
  refine MS.step_cases r m c (fun x => SInv x.1 (ds ++ x.2)) (fun m1 e _ => ?_) (fun m1 e _ _ => ?_) (fun _ _ _ => ?_) fun _ _ _ => ?_
  · rw [List.append_nil]
    have h1 : SInv m1 ds := by rcases e with e | e <;> subst e <;> first | exact h | exact ⟨h.non, h.som⟩
    exact h1.put (addw _) rfl (Nat.le_succ _)
  · have h1 : SInv m1 ds := by rcases e with e | e <;> subst e <;> first | exact h | exact ⟨h.non, h.som⟩
    have hb := h1.begin
    have pb := MS.place_begin m1
    unfold MS.plain
    split
    · exact ⟨fun _ => h1.out, fun z => absurd rfl z⟩
    split
    · exact ⟨fun _ => h1.out, fun z => absurd rfl z⟩
    split
    · rw [List.append_nil]; exact hb.put Iff.rfl rfl (Nat.le_succ _)
    split
    · rw [List.append_nil]; exact hb.put Iff.rfl rfl (Nat.le_succ _)
    · rw [List.append_nil]; exact hb.put (addw _) rfl (Nat.le_succ _)
  · rw [List.append_nil]; exact h.put Iff.rfl rfl (Nat.le_succ _)
  · rw [List.append_nil]
    refine h.put ?_ ?_ ?_
    · show (m.quoted r c).word = none ↔ _
      unfold MS.quoted
      split
      · exact Iff.rfl
      split
      · exact Iff.rfl
      · exact addw _
    · show (m.quoted r c).begun = _
      unfold MS.quoted
      split
      · rfl
      split <;> rfl
    · show m.place ≤ (m.quoted r c).place + 1
      rw [MS.place_quoted]; omega
theorem SInv.run {r : RS} : ∀ (t : Tx) {m : MS} {ds : List W3}, SInv m ds → SInv (m.run r t).1 (ds ++ (m.run r t).2)
  | [], m, ds, h => by rw [show (m.run r []).2 = [] from rfl, List.append_nil]; exact h
  | c :: t, m, ds, h => by
    have ih := SInv.run (r := r) t (h.step (r := r) c)
    rw [List.append_assoc] at ih
    exact ih
theorem read_span {r : RS} {t : Tx} {rp : Addr} {ds : List W3} (h : readAll r t rp = .ok ds) : spanT ds ≤ t.length + 1 := by
  have i := SInv.run (r := r) t (m := MS.zero rp) (ds := []) ⟨fun _ => Nat.le_refl _, fun z => absurd rfl z⟩
  rw [List.nil_append] at i
  have pl := MS.place_run r t (MS.zero rp)
  unfold readAll at h
  split at h
  · cases h
  · cases h
    have o := i.out
    rw [pl] at o
    simp only [MS.zero] at o ⊢
    omega
theorem joinT_len (c : Nat) : ∀ ls : List Tx, (joinT c ls).length ≤ (ls.map fun x => x.length + 1).sum - 1
  | [] => Nat.zero_le _
  | [x] => by simp [joinT]
  | x :: y :: l => by
    have ih := joinT_len c (y :: l)
    show (x ++ c :: joinT c (y :: l)).length ≤ _
    rw [List.length_append, List.length_cons, List.map_cons, List.sum_cons]
    have : 1 ≤ ((y :: l).map fun x => x.length + 1).sum := by rw [List.map_cons, List.sum_cons]; omega
    omega
theorem joinT_len' (c : Nat) : ∀ ls : List Tx, ls ≠ [] → (joinT c ls).length + 1 = (ls.map fun x => x.length + 1).sum
  | [], h => absurd rfl h
  | [x], _ => by simp [joinT]
  | x :: y :: l, _ => by
    have ih := joinT_len' c (y :: l) (by simp)
    show (x ++ c :: joinT c (y :: l)).length + 1 = _
    rw [List.length_append, List.length_cons, List.map_cons, List.sum_cons, ← ih]
    omega
/-! ### more breaks between -/
def joinS (sep : Tx) : List Tx → Tx
  | [] => []
  | [x] => x
  | x :: y :: l => x ++ (sep ++ joinS sep (y :: l))
theorem run_breaks {r : RS} : ∀ (sep : Tx), (∀ b ∈ sep, b ∈ r.breaks) → ∀ m : MS, Pl m → Pl (m.run r sep).1 ∧ (sep ≠ [] → (m.run r sep).1.word = none) ∧ (m.word = none → (m.run r sep).1.word = none) ∧ ((m.run r sep).2 ++ (m.run r sep).1.out) = m.out
  | [], _, m, p => ⟨p, fun z => absurd rfl z, fun z => z, rfl⟩
  | b :: sep, h, m, p => by
    have e : m.run r (b :: sep) = ((({ m.drop with place := m.place + 1 } : MS).run r sep).1, m.out ++ (({ m.drop with place := m.place + 1 } : MS).run r sep).2) := by
      show ((((m.step r b).1).run r sep).1, (m.step r b).2 ++ _) = _
      rw [run_break (h b List.mem_cons_self) p]
    obtain ⟨i1, i2, i3, i4⟩ := run_breaks sep (fun x hx => h x (List.mem_cons_of_mem _ hx)) { m.drop with place := m.place + 1 } ⟨p.st, p.be⟩
    rw [e]
    refine ⟨i1, fun _ => i3 rfl, fun _ => i3 rfl, ?_⟩
    dsimp only
    rw [List.append_assoc, i4]
    show m.out ++ [] = m.out
    rw [List.append_nil]
theorem out_none {m : MS} (h : m.word = none) : m.out = [] := by unfold MS.out; rw [h]
theorem run_joinedS {r : RS} {sep : Tx} (hs : ∀ b ∈ sep, b ∈ r.breaks) (ne : sep ≠ []) : ∀ (l : List (Tx × Tx)), (∀ x ∈ l, IsWrd r x.1 x.2) → ∀ m : MS, Pl m → m.word = none →
    Pl (m.run r (joinS sep (l.map (·.1)))).1 ∧ ((m.run r (joinS sep (l.map (·.1)))).2 ++ (m.run r (joinS sep (l.map (·.1)))).1.out).map (·.1) = l.map (·.2)
  | [], _, m, p, e => ⟨p, by show (([] : List W3) ++ m.out).map (fun d => d.1) = []; rw [out_none e]; rfl⟩
  | [(t, w)], h, m, p, e => by
    have q := h (t, w) List.mem_cons_self m p e
    show Pl (m.run r t).1 ∧ ((m.run r t).2 ++ (m.run r t).1.out).map (·.1) = _
    refine ⟨q.pl, ?_⟩
    rw [q.out]
    unfold MS.out
    rw [q.wd]
    rfl
  | (t, w) :: y :: l, h, m, p, e => by
    have q := h (t, w) List.mem_cons_self m p e
    obtain ⟨b1, b2, _, b4⟩ := run_breaks sep hs (m.run r t).1 q.pl
    have b2 := b2 ne
    rw [out_none b2, List.append_nil] at b4
    have ih := run_joinedS hs ne (y :: l) (fun x hx => h x (List.mem_cons_of_mem _ hx)) ((m.run r t).1.run r sep).1 b1 b2
    have er : m.run r (joinS sep (((t, w) :: y :: l).map (·.1))) = ((((m.run r t).1.run r sep).1.run r (joinS sep ((y :: l).map (·.1)))).1, (m.run r t).1.out ++ ((((m.run r t).1.run r sep).1.run r (joinS sep ((y :: l).map (·.1)))).2)) := by
      show m.run r (t ++ (sep ++ joinS sep ((y :: l).map (·.1)))) = _
      rw [MS.run_app, q.out, List.nil_append, MS.run_app, b4]
    rw [er]
    refine ⟨ih.1, ?_⟩
    rw [List.append_assoc, List.map_append, ih.2]
    unfold MS.out
    rw [q.wd]
    rfl
/-- breaks ahead and behind, too -/
theorem read_wide {r : RS} {sep : Tx} (hs : ∀ b ∈ sep, b ∈ r.breaks) (ne : sep ≠ []) {b : Nat} (hb : b ∈ r.breaks) (l : List (Tx × Tx)) (h : ∀ x ∈ l, IsWrd r x.1 x.2) (rp : Addr) :
    ∃ ds, readAll r ([b] ++ joinS sep (l.map (·.1)) ++ [b]) rp = .ok ds ∧ ds.map (·.1) = l.map (·.2) := by
  have hb1 : ∀ c ∈ [b], c ∈ r.breaks := fun c hc => by rw [List.mem_singleton.mp hc]; exact hb
  obtain ⟨a1, _, a3, a4⟩ := run_breaks [b] hb1 (MS.zero rp) ⟨rfl, rfl⟩
  have a3 := a3 rfl
  rw [out_none a3, List.append_nil, out_none (m := MS.zero rp) rfl] at a4
  have j := run_joinedS hs ne l h ((MS.zero rp).run r [b]).1 a1 a3
  obtain ⟨c1, c2, _, c4⟩ := run_breaks [b] hb1 (((MS.zero rp).run r [b]).1.run r (joinS sep (l.map (·.1)))).1 j.1
  have e : (MS.zero rp).run r ([b] ++ joinS sep (l.map (·.1)) ++ [b]) = (((((MS.zero rp).run r [b]).1.run r (joinS sep (l.map (·.1)))).1.run r [b]).1, (((MS.zero rp).run r [b]).1.run r (joinS sep (l.map (·.1)))).2 ++ (((((MS.zero rp).run r [b]).1.run r (joinS sep (l.map (·.1)))).1.run r [b]).2)) := by
    rw [MS.run_app, MS.run_app, a4]
    simp
  refine ⟨_, readAll_of (by rw [e]; exact c1), ?_⟩
  rw [e]
  dsimp only
  rw [List.append_assoc, c4]
  exact j.2
theorem joinS_len (sep : Tx) : ∀ ls : List Tx, (joinS sep ls).length ≤ (ls.map fun x => x.length + sep.length).sum
  | [] => Nat.zero_le _
  | [x] => by simp [joinS]
  | x :: y :: l => by
    have ih := joinS_len sep (y :: l)
    show (x ++ (sep ++ joinS sep (y :: l))).length ≤ _
    rw [List.length_append, List.length_append, List.map_cons, List.sum_cons]
    omega
theorem cutLen {t : Tx} {b e : Nat} (h2 : e ≤ t.length) : (cutT t b e).length = e - b := by
  rw [cutT, List.length_drop, List.length_take, Nat.min_eq_left h2]
theorem stSum {t : Tx} : ∀ {ds : List W3}, (∀ d ∈ ds, d.2.2 ≤ t.length) → ((ds.map fun d => cutT t d.2.1 d.2.2).map fun x => x.length + 1).sum = spanT ds
  | [], _ => rfl
  | d :: ds, h => by
    have ih := stSum (ds := ds) fun x hx => h x (List.mem_cons_of_mem _ hx)
    rw [List.map_cons, List.map_cons, List.sum_cons, ih, cutLen (h d List.mem_cons_self)]
    rfl
theorem sumMore (k : Nat) : ∀ ls : List Tx, (ls.map fun x => x.length + (k + 1)).sum = (ls.map fun x => x.length + 1).sum + k * ls.length
  | [] => rfl
  | x :: ls => by
    have ih := sumMore k ls
    simp only [List.map_cons, List.sum_cons, ih, List.length_cons, Nat.mul_add]
    omega
end Qw

set_option Elab.async false
set_option linter.all false
set_option maxRecDepth 100000
set_option maxHeartbeats 4000000
namespace Qw
open PySem L2
local macro_rules | `(tactic| walk_at "rd") => `(tactic| simp only [iEnum, iRng3, tRevL, rSlS, rSlL, gSub, rSetL, wipe, List.map_cons, List.map_nil, rAll, rAny, rIsi, tM1, tM0, iZipLT, iZip, iRng2, tLenSetS, rListStr, rMulS, rRep, rCntB, tRevS, rNeD, rEqD, tSeq, tNext, tAsg, tRet, tRetN, tDrop, tIfS, sFld, sFldAug, tVar, tC, tOp, tUn, tTest, tB, tAnd, tOr, tNot, tAndV, tOrV, tNotV, tIf, tTup, tLst, tCons, tNil, tCB, tCall, tMeth, tMake, tFld, rI, rI0, rU, rEq, rNe, rCat, gName, gTup, gCons, gNil, tPar, tPar3, tBM, tBM0, rAppend, rExtend, rPopAt, rIxL, rIxT, rIxS, tSl, rSlS, rSlL, tPart, tNoPart, iStr, iTup, iList, iRng1, tAug, ipI, L2.rAdd, L2.rSub, L2.rAddS, tChain, rIsB, rNotB, scal_ss, scal_ii, scal_bb, scal_nn, scal_in, scal_ni, tYes,
  cx_K, cx_N, List.getElem?_cons_zero, List.getElem?_cons_succ, List.set_cons_zero, List.set_cons_succ, List.nil_append, List.cons_append, List.append_nil, List.length_cons, List.length_nil, Nat.zero_add,
  Option.some.injEq, V.ref.injEq, V.int.injEq, V.str.injEq, V.bl.injEq, HO.ins.injEq, HO.lst.injEq, HO.tup.injEq, List.cons.injEq, exists_eq_left, exists_eq_left', exists_eq_right, exists_eq_right', and_true, true_and, exists_and_left, exists_and_right, and_assoc, decide_eq_true_eq, Bool.not_eq_true', decide_eq_false_iff_not, reduceCtorEq, exists_const, forall_const, if_true, if_false, false_and, and_false, ite_true, ite_false, Bool.true_eq_false, Bool.false_eq_true, Nat.reduceLeDiff, Nat.reduceAdd, small_line, small_lt, upd_ne, ne_eq, not_false_eq_true, Nat.zero_le, Prod.mk.injEq, upd_same, upd_upd, S_tl, S_len, S_app, S_one, S_inj,
  lk_breaks, lk_hard, lk_soft, lk_bend, lk_note, lk_rules, lk_state, lk_bent, lk_word, lk_begun, lk_opened, lk_place, pt_state, pt_bent, pt_word, pt_wordS, pt_wordN, pt_begun, pt_opened, pt_place, pt_place1, len_mf, litv_empty, litv_note, litv_nl, mf_inj, rf_inj, lkn_begin, lkn_ended, lkn_plain, lkn_quoted, lkn_step, lkn_fault, lkn_key, lkn_told, lkn_quotes, lkn_special, pt_open1, not_true_eq_false, not_false_eq_true])
local macro_rules | `(tactic| walk_at "rdh") => `(tactic| simp only [iEnum, iRng3, tRevL, rSlS, rSlL, gSub, rSetL, wipe, List.map_cons, List.map_nil, rAll, rAny, rIsi, tM1, tM0, iZipLT, iZip, iRng2, tLenSetS, rListStr, rMulS, rRep, rCntB, tRevS, rNeD, rEqD, tSeq, tNext, tAsg, tRet, tRetN, tDrop, tIfS, sFld, sFldAug, tVar, tC, tOp, tUn, tTest, tB, tAnd, tOr, tNot, tAndV, tOrV, tNotV, tIf, tTup, tLst, tCons, tNil, tCB, tCall, tMeth, tMake, tFld, rI, rI0, rU, rEq, rNe, rCat, gName, gTup, gCons, gNil, tPar, tPar3, tBM, tBM0, rAppend, rExtend, rPopAt, rIxL, rIxT, rIxS, tSl, rSlS, rSlL, tPart, tNoPart, iStr, iTup, iList, iRng1, tAug, ipI, L2.rAdd, L2.rSub, L2.rAddS, tChain, rIsB, rNotB, scal_ss, scal_ii, scal_bb, scal_nn, scal_in, scal_ni, tYes,
  cx_K, cx_N, List.getElem?_cons_zero, List.getElem?_cons_succ, List.set_cons_zero, List.set_cons_succ, List.nil_append, List.cons_append, List.append_nil, List.length_cons, List.length_nil, Nat.zero_add,
  Option.some.injEq, V.ref.injEq, V.int.injEq, V.str.injEq, V.bl.injEq, HO.ins.injEq, HO.lst.injEq, HO.tup.injEq, List.cons.injEq, exists_eq_left, exists_eq_left', exists_eq_right, exists_eq_right', and_true, true_and, exists_and_left, exists_and_right, and_assoc, decide_eq_true_eq, Bool.not_eq_true', decide_eq_false_iff_not, reduceCtorEq, exists_const, forall_const, if_true, if_false, false_and, and_false, ite_true, ite_false, Bool.true_eq_false, Bool.false_eq_true, Nat.reduceLeDiff, Nat.reduceAdd, small_line, small_lt, upd_ne, ne_eq, not_false_eq_true, Nat.zero_le, Prod.mk.injEq, upd_same, upd_upd, S_tl, S_len, S_app, S_one, S_inj,
  lk_breaks, lk_hard, lk_soft, lk_bend, lk_note, lk_rules, lk_state, lk_bent, lk_word, lk_begun, lk_opened, lk_place, pt_state, pt_bent, pt_word, pt_wordS, pt_wordN, pt_begun, pt_opened, pt_place, pt_place1, len_mf, litv_empty, litv_note, litv_nl, mf_inj, rf_inj, lkn_begin, lkn_ended, lkn_plain, lkn_quoted, lkn_step, lkn_fault, lkn_key, lkn_told, lkn_quotes, lkn_special, pt_open1, not_true_eq_false, not_false_eq_true, *])
local macro_rules | `(tactic| walk_at "pl") => `(tactic| (first | decide | (refine Nat.lt_of_le_of_lt (length_putF _ _ _) ?_; repeat (first | decide | refine pl2 ?_))))
local macro_rules | `(tactic| walk_at "al") => `(tactic| (intro p hp; generalize hH : upd _ p _ = H1; obtain ⟨S, e⟩ := gen_new hH hp; clear hH))
theorem join_txt0 (c : Nat) : ∀ ls : List Tx, Str.join (S [c]) (ls.map S) = S (joinT c ls)
  | [] => rfl
  | [x] => rfl
  | x :: y :: r => by
    show S x ++ S [c] ++ Str.join (S [c]) ((y :: r).map S) = _
    rw [join_txt0 c (y :: r), S_app, S_app]
    simp [joinT]
theorem join_txt (c : Nat) (ls : List Tx) : Txt.join (S [c]) (ls.map S) = S (joinT c ls) := by
  rw [show Txt.join (S [c]) (ls.map S) = Str.join (S [c]) (ls.map S) from StrLaws.glued_eq_join _ _]
  exact join_txt0 c ls
/-- a word's heights -/
def hgtT (r : RS) (w : Tx) : List (List Nat) := if w = [] then [] else rowsT r w
/-- a word's writing -/
def WrT (r : RS) (t w : Tx) : Prop := t.length = leastT r w ∧ t ≠ [] ∧ IsWrd r t w ∧ (w.all sgn = true → t.all sgn = true)
theorem go_signs {r : RS} {w : Tx} {rows : List (List Nat)} {P : Nat → Prop} (hw : ∀ c ∈ w, P c) (hr : ∀ c ∈ r.every, P c) : ∀ (n : Nat) (found : Tx) (at_ st : Nat) (t : Tx), wrGo r w rows n found at_ st = some t → (∀ c ∈ found, P c) → at_ ≤ w.length → ∀ c ∈ t, P c := by
  have hq : ∀ k, ∀ c ∈ sT (r.sts.getD k none), P c := fun k c hc => by
    by_cases hk : k < r.sts.length
    · have := at_sts hk
      generalize r.sts.getD k none = s at *
      cases s with
      | none => cases hc
      | some q =>
        rw [List.mem_singleton.mp hc]
        have hq : q ∈ r.quotes := by simpa [RS.sts] using this
        refine hr q ?_
        rcases List.mem_append.mp hq with z | z <;> simp [RS.every, z]
    · rw [List.getD_eq_getElem?_getD, List.getElem?_eq_none (by omega)] at hc
      cases hc
  intro n
  induction n with
  | zero => intro found at_ st t h; rw [wrGo] at h; cases h
  | succ n ih =>
    intro found at_ st t h hf ha
    rw [wrGo] at h
    split at h
    · cases h; exact hf
    · split at h
      · rename_i c hh
        have a0 : at_ ≠ 0 := fun z => by unfold wrHit at hh; rw [if_pos z] at hh; cases hh
        have hc : P (w.getD (at_ - 1) 0) := by
          refine hw _ ?_
          rw [List.getD_eq_getElem?_getD, List.getElem?_eq_getElem (by omega)]
          exact List.getElem_mem _
        refine ih _ _ _ _ h (fun x hx => ?_) (by omega)
        rcases List.mem_append.mp hx with hx | hx
        · split at hx
          · rw [List.mem_singleton.mp hx]; exact hc
          · rcases List.mem_append.mp hx with hx | hx
            · exact hr x (by simp [RS.every, hx])
            · rw [List.mem_singleton.mp hx]; exact hc
        · exact hf x hx
      · split at h
        · exact ih _ _ _ _ h (fun x hx => (List.mem_append.mp hx).elim (hq st x) (hf x)) ha
        · split at h
          · cases h
          · rename_i k _ _
            exact ih _ _ _ _ h (fun x hx => (List.mem_append.mp hx).elim (hq k x) (hf x)) ha
theorem one_signs {r : RS} (ok : r.Ok) {w t : Tx} {hs : List (List Nat)} (h : oneT r w = some (t, hs)) (hw : w.all sgn = true) : t.all sgn = true := by
  have hr : ∀ c ∈ r.every, sgn c = true := List.all_eq_true.mp ok.sg
  refine List.all_eq_true.mpr ?_
  unfold oneT at h
  split at h
  · split at h
    · cases h
    · rename_i q more e
      cases h
      have : q ∈ r.quotes := by rw [e]; exact List.mem_cons_self
      have : sgn q = true := hr q (by rcases List.mem_append.mp this with z | z <;> simp [RS.every, z])
      simpa using this
  · obtain ⟨t', h1, h2⟩ := Option.map_eq_some_iff.mp h
    cases h2
    exact go_signs (List.all_eq_true.mp hw) hr _ _ _ _ _ h1 (fun _ z => (nomatch z)) (Nat.le_refl _)
theorem least_le {r : RS} {w : Tx} (h : cannotT r w = false) : leastT r w ≤ 4 * w.length + 2 := by
  unfold leastT
  split
  · omega
  · rename_i ne
    have := cur_low (r := r) _ w rfl (can_of h ne)
    omega
/-- all words' writings -/
theorem ones_ok {r : RS} (ok : r.Ok) : ∀ (ws : List Tx), (∀ w ∈ ws, w.all sgn = true ∧ w.length ≤ 12 ∧ cannotT r w = false) → ∃ ds : List (Tx × List (List Nat)), ws.map (oneT r) = ds.map some ∧ ds.map (·.2) = ws.map (hgtT r) ∧ Paired (WrT r) (ds.map (·.1)) ws ∧ ∀ d ∈ ds, d.1.length ≤ 50
  | [], _ => ⟨[], rfl, rfl, .nil, fun _ z => (nomatch z)⟩
  | w :: ws, h => by
    obtain ⟨ds, h1, h2, h3, h4⟩ := ones_ok ok ws fun x hx => h x (List.mem_cons_of_mem _ hx)
    obtain ⟨a1, a2, a3⟩ := h w List.mem_cons_self
    obtain ⟨t, g1, g2, g3, g4⟩ := one_ok ok a3 a2
    have le := least_le a3
    refine ⟨(t, hgtT r w) :: ds, by rw [List.map_cons, g1, h1]; rfl, by rw [List.map_cons, h2]; rfl, .cons ⟨g2, g3, g4.isWrd g3, one_signs ok g1⟩ h3, fun d hd => ?_⟩
    rcases List.mem_cons.mp hd with rfl | hd
    · show t.length ≤ 50
      omega
    · exact h4 d hd
/-- an answer of one_written, none of it at D -/
def OneD (D : Addr) (H : Hp) (v : V) (d : Tx × List (List Nat)) : Prop := ∃ q l xs, v = .ref q ∧ q ≠ D ∧ l ≠ D ∧ H q = some (.tup [.str (S d.1), .ref l]) ∧ H l = some (.lst xs) ∧ Paired (RowD D H) xs d.2
theorem OneD.mono {D : Addr} {H H' : Hp} {v : V} {d : Tx × List (List Nat)} (k : Kp D H H') (h : OneD D H v d) : OneD D H' v d := by
  obtain ⟨q, l, xs, h1, h2, h3, h4, h5, h6⟩ := h
  exact ⟨q, l, xs, h1, h2, h3, k _ _ h4 h2, k _ _ h5 h3, Paired.mapP h6 fun _ _ ⟨b, g1, g2, g3⟩ => ⟨b, g1, g2, k _ _ g3 g2⟩⟩
/-- the heights of such answers -/
theorem ones_hts {D : Addr} {H : Hp} : ∀ {xs : List V} {ds : List (Tx × List (List Nat))}, Paired (OneD D H) xs ds → ∃ us : List V, Paired (HeightsV H) us (ds.map (·.2)) ∧
    ∀ (i : Nat) (x u : V), xs[i]? = some x → us[i]? = some u → ∃ b w, x = .ref b ∧ H b = some (.tup [w, u])
  | _, _, .nil => ⟨[], .nil, fun i x u h _ => by simp at h⟩
  | _, _, .cons r t => by
    obtain ⟨us, h2, h3⟩ := ones_hts t
    obtain ⟨b, u, zs, rfl, n1, n2, g1, g2, g3⟩ := r
    refine ⟨.ref u :: us, .cons ⟨u, zs, rfl, g2, Paired.mapP g3 fun _ _ ⟨c, e1, _, e2⟩ => ⟨c, e1, e2⟩⟩ h2, fun i x v e1 e2 => ?_⟩
    match i, e1, e2 with
    | 0, e1, e2 => cases e1; cases e2; exact ⟨b, _, rfl, g1⟩
    | i + 1, e1, e2 => exact h3 i x v (by simpa using e1) (by simpa using e2)
theorem sum_le (n : Nat) : ∀ (ds : List (Tx × List (List Nat))), (∀ d ∈ ds, d.1.length ≤ n) → (List.map (fun x : Str => x.length) ((ds.map (·.1)).map S)).sum ≤ n * ds.length
  | [], _ => by simp
  | d :: ds, h => by
    have h1 := h d List.mem_cons_self
    have h2 := sum_le n ds fun x hx => h x (List.mem_cons_of_mem _ hx)
    simp only [List.map_cons, List.sum_cons, S_len, List.length_cons] at h2 ⊢
    rw [Nat.mul_add]
    omega
section
variable {P : Program} {w : World} {K : PySem.W.Frag} {mg : Str → Option Value} {base : Heap} {a : Ad}
def sp_shortest (a : Ad) : Sp := fun vs H Q _ => ∃ (p dr : Addr) (r : RS) (l : Addr) (ws : List Tx), vs = [.ref p, .ref l] ∧ H p = some (.ins a.c_Rules dr (RS.f r)) ∧ r.Ok ∧ H l = some (.lst (ws.map fun w => .str (S w))) ∧ ws.length ≤ 8 ∧ (∀ w ∈ ws, w.all sgn = true ∧ w.length ≤ 12 ∧ cannotT r w = false) ∧
  ∀ ts q H' dx l' xs', Paired (WrT r) ts ws → H q = none → H l' = none → Same H H' → H' q = some (.ins a.c_Shortest dx [("text", .str (S (joinT (r.breaks.headD 0) ts))), ("heights", .ref l')]) → H' l' = some (.lst xs') → Paired (HeightsV H') xs' (ws.map (hgtT r)) → Q (.ref q) H'
theorem ok_shortest (T : Txt K mg a) : FnOk P w K mg base CX0 6 a.f_shortest a.d_shortest P_shortest (sp_shortest a) := by
  refine T.F_shortest.ok sc_shortest (fun vs H Q E h => ?_) (fun cdv A outer s H vs Q E hr h => ?_)
  · obtain ⟨p, dr, r, l, ws, rfl, _⟩ := h
    rfl
  · obtain ⟨p, dr, r, l, ws, rfl, hR, ok, hl, hn, hw, k⟩ := h
    obtain ⟨ds, hds, hd2, hd1, hd50⟩ := ones_ok ok ws hw
    have G_are_signs := ok_are_signs (P := P) (w := w) (base := base) T
    have B_are_signs := bi_are_signs T
    have G_cannot := ok_cannot (P := P) (w := w) (base := base) T
    have B_cannot := bi_cannot T
    have G_one_written := ok_one_written (P := P) (w := w) (base := base) T
    have B_one_written := bi_one_written T
    have G_Shortest_init := ok_Shortest_init (P := P) (w := w) (base := base) T
    have B_Shortest_init := bi_Shortest_init T
    refine ⟨_,
(pss_cons (ps_if (PW.pt (pw_or (pt_not (pt_val (pe_callB (call_isi) (by rfl) T.b_isinstance (by decide +kernel) (pa_cons (pv 1) (pa_cons (pe_bltn (v := .ty "list") (u := .type "list") rfl T.b_list (by decide +kernel) rfl) pa_nil))))) (pw_or1 (pt_cmpR op_gt (pe_callB call_len_seq (by rfl) T.b_len PySem.boot_len (pa_cons (pv 1) pa_nil)) (pe_glob (v := .int 8) rfl T.g_MOST_WORDS ⟨_, rfl⟩) (nomark _))))) (pss_one ps_never) pss_nil)
    (pss_cons (ps_if (pt_not (pt_val (pe_callB (cr_all rfl) (by rfl) T.b_all (by decide +kernel) (pa_cons (pe_lc (own := [("word", 2)]) (g := gName 2) (tt := tYes) rfl sc_shortest.nd (pi_list (pv 1)) (blkOk_by (own := [("word", 2)]) (N := N_shortest) (sc := defScope st_shortest) (by decide +kernel)) (fun _ _ _ _ _ => (pg_name (i := 2) sc_shortest.nd rfl (by first | exact Or.inl rfl | exact Or.inr rfl))) (fun _ _ _ _ _ => pts_nil) (fun _ _ _ _ _ => (pe_and (pe_call G_are_signs (hr.mono (by decide)) rfl T.f_are_signs.g T.f_are_signs.k B_are_signs .nil pass0 (pa_cons (pv 2) pa_nil)) (pe_one (pe_cmpR op_le (pe_callB call_len_str (by rfl) T.b_len PySem.boot_len (pa_cons (pv 2) pa_nil)) (pe_glob (v := .int 12) rfl T.g_LONGEST_WORD ⟨_, rfl⟩) (nomark _)))))) pa_nil)))) (pss_one ps_never) pss_nil)
    (pss_cons (ps_for PassesOwn.never rfl (pi_enum (by rfl) T.b_enumerate (pa_cons (pv 1) pa_nil)) (pg_tup rfl (pgs_cons (pg_name (i := 3) sc_shortest.nd rfl (by first | exact Or.inl rfl | exact Or.inr rfl)) (pgs_cons (pg_name (i := 2) sc_shortest.nd rfl (by first | exact Or.inl rfl | exact Or.inr rfl)) pgs_nil)))
    (pss_one (ps_if (pt_val (pe_call G_cannot (hr.mono (by decide)) rfl T.f_cannot.g T.f_cannot.k B_cannot .nil pass0 (pa_cons (pv 0) (pa_cons (pv 2) pa_nil)))) (pss_one ps_never) pss_nil)))
    (pss_cons (ps_setLc (i := 4) (own := [("word", 2)]) (g := gName 2) (tt := tYes) rfl sc_shortest.nd rfl rfl (sw_true rfl rfl rfl (by decide +kernel)) (pi_list (pv 1)) (blkOk_by (own := [("word", 2)]) (N := N_shortest) (sc := defScope st_shortest) (by decide +kernel)) (fun _ _ _ _ _ => (pg_name (i := 2) sc_shortest.nd rfl (by first | exact Or.inl rfl | exact Or.inr rfl))) (fun _ _ _ _ _ => pts_nil) (fun _ _ _ _ _ => (pe_call G_one_written (hr.mono (by decide)) rfl T.f_one_written.g T.f_one_written.k B_one_written .nil pass0 (pa_cons (pv 0) (pa_cons (pv 2) pa_nil)))))
    (pss_one (ps_ret (pe_make T.c_Shortest.mc G_Shortest_init (hr.mono (by decide)) rfl T.c_Shortest.g B_Shortest_init .nil pass0 (pa_cons (pe_join (pe_ix ix_str (pe_fld (pv 0) rfl) pe_int (fun _ _ => rfl)) (pe_lc (own := [("pair", 5)]) (g := gName 5) (tt := tYes) rfl sc_shortest.nd (pi_list (pv 4)) (blkOk_by (own := [("pair", 5)]) (N := N_shortest) (sc := defScope st_shortest) (by decide +kernel)) (fun _ _ _ _ _ => (pg_name (i := 5) sc_shortest.nd rfl (by first | exact Or.inl rfl | exact Or.inr rfl))) (fun _ _ _ _ _ => pts_nil) (fun _ _ _ _ _ => (pe_ix (ix_tupK (K := K) rfl) (pv 5) pe_int (fun _ _ => rfl))))) (pa_cons (pe_lc (own := [("pair", 5)]) (g := gName 5) (tt := tYes) rfl sc_shortest.nd (pi_list (pv 4)) (blkOk_by (own := [("pair", 5)]) (N := N_shortest) (sc := defScope st_shortest) (by decide +kernel)) (fun _ _ _ _ _ => (pg_name (i := 5) sc_shortest.nd rfl (by first | exact Or.inl rfl | exact Or.inr rfl))) (fun _ _ _ _ _ => pts_nil) (fun _ _ _ _ _ => (pe_ix (ix_tupK (K := K) rfl) (pv 5) pe_int (fun _ _ => rfl)))) pa_nil)))))))))
      , ?_⟩
    rw [show start N_shortest [V.ref p, V.ref l] = [some (.ref p), some (.ref l), none, none, none, none] from rfl]
    have hlen : (ws.map fun w => V.str (S w)).length = ws.length := List.length_map _
    -- the two refusals don't come
    refine tseq_split (fun σ' H' => σ' = [some (.ref p), some (.ref l), none, none, none, none] ∧ H' = H) (fun N hN => ?_) ?_
    · walk_at "rd"
      refine ⟨_, _, .ty _, .base (.lst hl), _, kit_ty (b := "list") (r := true) (by decide +kernel), ?_⟩
      refine ite2 (fun c => by cases c) (fun _ => ?_)
      refine ⟨_, .inl (.inl (.inl hl)), ?_⟩
      refine ite2 (fun c => absurd c (by rw [hlen]; omega)) (fun _ => ?_)
      exact hN _ _ ⟨rfl, rfl⟩
    rintro σ' H0 ⟨rfl, rfl⟩
    refine tseq_split (fun σ' H' => (∃ v2, σ' = [some (.ref p), some (.ref l), v2, none, none, none]) ∧ Same H0 H') (fun N hN => ?_) ?_
    · walk_at "rd"
      refine tlc_map ws (fun _ => .bl true) (J := Itl K l) (H1 := H0) (G := fun H => SqL K H l (ws.map fun w => .str (S w))) (fun R hR => ?_) (hlen ▸ walk_list) (by omega) (fun H s => .inl (.inl (s _ _ hl))) ?_ ?_
      · walk_at "rd"
        exact ⟨⟨_, .inl (.inl hl)⟩, hR⟩
      · rintro R R' j u x H2 H2' hj s2 ⟨rfl, hx⟩ hk
        rw [List.getElem?_map, hj] at hx
        cases hx
        obtain ⟨g1, g2, g3⟩ := hw u (List.mem_of_getElem? hj)
        walk_at "rdh"
        refine ⟨u, rfl, by omega, fun H4 s4 => ?_⟩
        have hk := hk H4 s4
        rw [g1]
        walk_at "rd"
        rw [decide_eq_true (show ((u.length : Nat) : Int) ≤ 12 by omega)]
        exact ⟨line_le (by omega), hk⟩
      · intro D H2 hD s2 e2
        walk_at "rd"
        refine ⟨ws.map fun _ => true, .inl (.inl (by rw [List.map_map]; exact e2)), ?_⟩
        refine ite2 (fun c => ?_) (fun _ => hN _ _ ⟨⟨_, rfl⟩, s2⟩)
        exfalso
        rw [List.all_map, Bool.eq_false_iff] at c
        exact c (List.all_eq_true.mpr fun _ _ => rfl)
    rintro σ' H1 ⟨⟨v2, rfl⟩, S1⟩
    refine tseq_split (fun σ' H' => (∃ v2 v3, σ' = [some (.ref p), some (.ref l), v2, v3, none, none]) ∧ Same H0 H') (fun N hN => ?_) ?_
    · refine tfor_it (J := Ite K l) (H1 := H1) (n := ws.length) (G := fun H => SqL K H l (ws.map fun w => .str (S w))) (fun R hR => ?_) (hlen ▸ walk_enum) (fun i σ H' => (∃ v2 v3, σ = [some (.ref p), some (.ref l), v2, v3, none, none]) ∧ Same H0 H') ⟨⟨_, _, rfl⟩, S1⟩ (fun _ _ _ _ h => .inl (.inl (h.2 _ _ hl))) ?_ ?_
      · walk_at "rd"
        exact ⟨⟨_, .inl (.inl (S1 _ _ hl))⟩, hR⟩
      · rintro i x σ H2 H2' hi ⟨⟨v2, v3, rfl⟩, S2⟩ ⟨T0, x1, x2, rfl, hT0, rfl, hx1, hx2⟩
        dsimp only at hx2
        rw [List.getElem?_map] at hx2
        obtain ⟨u, hu, rfl⟩ := Option.map_eq_some_iff.mp hx2
        cases hx1
        obtain ⟨g1, g2, g3⟩ := hw u (List.mem_of_getElem? hu)
        walk_at "rdh"
        refine ⟨_, .inl (.inl upd_same), rfl, _, _, rfl, _, _, rfl, rfl, p, dr, r, u, rfl, (S2.trans (same_new hT0)) _ _ hR, ok, by omega, fun H4 s4 => ⟨_, rfl, ?_⟩⟩
        rw [g3]
        exact ite2 (fun c => by cases c) (fun _ => ⟨⟨_, rfl⟩, (S2.trans (same_new hT0)).trans s4⟩)
      · rintro σ H2 h
        exact hN _ _ h
    rintro σ' H2 ⟨⟨v2, v3, rfl⟩, S2⟩
    walk_at "rd"
    have lds : ds.length = ws.length := by
      have := congrArg List.length hds
      simpa using this.symm
    have hl2 := S2 _ _ hl
    have hR2 := S2 _ _ hR
    refine tlc_all (ι := Unit) (C := fun _ => True) (J := fun _ => Itl K l) (H1 := fun _ => H2) (fun R hR => ?_) fun _ _ D hD => ?_
    · walk_at "rd"
      exact ⟨⟨_, .inl (.inl hl2)⟩, hR () trivial⟩
    refine lc_relD ds (OneD D) OneD.mono (G := fun H => SqL K H l (ws.map fun w => .str (S w))) ((hlen.trans lds.symm) ▸ walk_list) (by omega) hD (fun H s => .inl (.inl (s _ _ hl2))) ?_ ?_
    · rintro R R' i d x H3 H3' hi s3 ⟨dl, hdl⟩ ⟨rfl, hx⟩ hk
      rw [List.getElem?_map] at hx
      obtain ⟨u, hu, rfl⟩ := Option.map_eq_some_iff.mp hx
      obtain ⟨g1, g2, g3⟩ := hw u (List.mem_of_getElem? hu)
      have ho : oneT r u = some d := by
        have e := congrArg (fun l => l[i]?) hds
        simp only [List.getElem?_map, hu, hi, Option.map] at e
        exact Option.some.inj e
      walk_at "rdh"
      refine ⟨p, dr, r, u, d, rfl, s3 _ _ hR2, ok, by omega, ho, fun v H4 s4 hv => hk v H4 s4 ?_⟩
      obtain ⟨q, l1, xs, rfl, o1, o2, o3, o4⟩ := hv
      have nD := ne_of_none hdl o2
      refine ⟨q, l1, xs, rfl, ?_, Ne.symm (ne_of_none hdl o2), o1, o3, Paired.mapP o4 fun _ _ ⟨b, g1, g2, g3⟩ => ⟨b, g1, Ne.symm (ne_of_none hdl g2), g3⟩⟩
      rintro rfl
      rw [s4 _ _ hdl] at o1
      cases o1
    intro H3 xs s3 e3 prs
    have hR3 := s3 _ _ hR2
    have n1 := T.n_Rules_breaks
    have hc := T.c_Rules.cl
    obtain ⟨b0, bs, hb0⟩ : ∃ b0 bs, r.breaks = b0 :: bs := by
      cases e : r.breaks with
      | nil => exact absurd e ok.ne
      | cons x y => exact ⟨x, y, rfl⟩
    refine ⟨_, _, _, hR3, hc, n1, _, lk_breaks r, S r.breaks, rfl, line_le (by rw [S_len]; have := ok.l1; omega), b0, ?_, ⟨_, rfl⟩, ?_⟩
    · rw [hb0]
      exact atI_nat (j := 0) rfl
    refine tlc_map ds (fun d => .str (S d.1)) (J := Itl K D) (H1 := H3) (G := fun H => SqL K H D xs) (fun R hR => ?_) (prs.length ▸ walk_list) (by omega) (fun H s => .inl (.inl (s _ _ e3))) ?_ ?_
    · walk_at "rd"
      exact ⟨⟨_, .inl (.inl e3)⟩, hR⟩
    · rintro R R' i d x H4 H4' hi s4 ⟨rfl, hx⟩ hk
      obtain ⟨q, l1, zs, rfl, o1, o2, o3, o4, o5⟩ := Paired.at' prs hi hx
      walk_at "rdh"
      refine ⟨_, .inl (.inl (s4 _ _ o3)), _, atI_nat (j := 0) rfl, hk _ (Same.refl _)⟩
    intro D2 H4 hD2 s4 e4
    refine ⟨D2, rfl, (ds.map (·.1)).map S, .inl (.inl (.inl (by rw [e4, List.map_map, List.map_map]; rfl))), ?_, ?_⟩
    · have h1 := sum_le 50 ds hd50
      rw [List.length_map, List.length_map]
      omega
    obtain ⟨us, hus, hus2⟩ := ones_hts (Paired.mapP prs fun _ _ z => z.mono (s4.kp D))
    have lus := hus.length
    rw [List.length_map] at lus
    rw [join_txt]
    refine tlc_map us id (J := Itl K D) (H1 := H4) (G := fun H => SqL K H D xs) (fun R hR => ?_) ((prs.length.trans lus.symm) ▸ walk_list) (by omega) (fun H s => .inl (.inl (s _ _ (s4 _ _ e3)))) ?_ ?_
    · walk_at "rd"
      exact ⟨⟨_, .inl (.inl (s4 _ _ e3))⟩, hR⟩
    · rintro R R' i u x H5 H5' hi s5 ⟨rfl, hx⟩ hk
      obtain ⟨b, w, rfl, o3⟩ := hus2 i x u hx hi
      walk_at "rdh"
      refine ⟨_, .inl (.inl (s5 _ _ o3)), _, atI_nat (j := 1) rfl, hk _ (Same.refl _)⟩
    intro D3 H5 hD3 s5 e5
    rw [List.map_id] at e5
    intro q dx hq hdx ne
    have S25 := ((S2.trans s3).trans s4).trans s5
    have sq : Same H5 (upd (upd H5 dx (HO.own q)) q (HO.ins a.c_Shortest dx [])) := (same_new hdx).trans (same_new (by rw [upd_ne (Ne.symm ne)]; exact hq))
    refine ⟨q, dx, joinT b0 (ds.map (·.1)), D3, us, ws.map (hgtT r), rfl, upd_same, sq _ _ e5, ?_, by rw [List.length_map]; omega, fun rows hrows => ?_, fun H6 l' xs' hl' g1 g2 g3 k6 => ?_⟩
    · rw [← hd2]
      exact Paired.mapP hus fun _ _ ⟨c, zs, g1, g2, g3⟩ => ⟨c, zs, g1, sq _ _ (s5 _ _ g2), g3.same (s5.trans sq)⟩
    · obtain ⟨u, hu, rfl⟩ := List.mem_map.mp hrows
      have hql := r.quotes_len ok
      have := (hw u hu).2.1
      unfold hgtT
      split
      · exact ⟨by simp, fun _ z => (nomatch z)⟩
      · refine ⟨by simp [rowsT]; omega, fun row hrow => ?_⟩
        obtain ⟨j, _, rfl⟩ := List.mem_map.mp hrow
        rw [cur_len]
        omega
    · have fr : ∀ {b}, upd (upd H5 dx (HO.own q)) q (HO.ins a.c_Shortest dx []) b = none → H0 b = none := fun h => S25.free (none_upd (none_upd h))
      have S56 : Same H5 H6 := fun b o hb => k6 b o (sq _ _ hb) (ne_of_none hb hq)
      exact ⟨rfl, k (ds.map (·.1)) q H6 dx l' xs' hd1 (S25.free hq) (fr hl') (S25.trans S56) (by rw [g1, hb0]; rfl) g2 g3⟩
end
end Qw

set_option Elab.async false
set_option linter.all false
set_option maxRecDepth 100000
set_option maxHeartbeats 4000000
namespace Qw
open PySem L2
local macro_rules | `(tactic| walk_at "rd") => `(tactic| simp only [iEnum, iRng3, tRevL, rSlS, rSlL, gSub, rSetL, wipe, List.map_cons, List.map_nil, rAll, rAny, rIsi, tM1, tM0, iZipLT, iZip, iRng2, tLenSetS, rListStr, rMulS, rRep, rCntB, tRevS, rNeD, rEqD, tSeq, tNext, tAsg, tRet, tRetN, tDrop, tIfS, sFld, sFldAug, tVar, tC, tOp, tUn, tTest, tB, tAnd, tOr, tNot, tAndV, tOrV, tNotV, tIf, tTup, tLst, tCons, tNil, tCB, tCall, tMeth, tMake, tFld, rI, rI0, rU, rEq, rNe, rCat, gName, gTup, gCons, gNil, tPar, tPar3, tBM, tBM0, rAppend, rExtend, rPopAt, rIxL, rIxT, rIxS, tSl, rSlS, rSlL, tPart, tNoPart, iStr, iTup, iList, iRng1, tAug, ipI, L2.rAdd, L2.rSub, L2.rAddS, tChain, rIsB, rNotB, scal_ss, scal_ii, scal_bb, scal_nn, scal_in, scal_ni, tYes,
  cx_K, cx_N, List.getElem?_cons_zero, List.getElem?_cons_succ, List.set_cons_zero, List.set_cons_succ, List.nil_append, List.cons_append, List.append_nil, List.length_cons, List.length_nil, Nat.zero_add,
  Option.some.injEq, V.ref.injEq, V.int.injEq, V.str.injEq, V.bl.injEq, HO.ins.injEq, HO.lst.injEq, HO.tup.injEq, List.cons.injEq, exists_eq_left, exists_eq_left', exists_eq_right, exists_eq_right', and_true, true_and, exists_and_left, exists_and_right, and_assoc, decide_eq_true_eq, Bool.not_eq_true', decide_eq_false_iff_not, reduceCtorEq, exists_const, forall_const, if_true, if_false, false_and, and_false, ite_true, ite_false, Bool.true_eq_false, Bool.false_eq_true, Nat.reduceLeDiff, Nat.reduceAdd, small_line, small_lt, upd_ne, ne_eq, not_false_eq_true, Nat.zero_le, Prod.mk.injEq, upd_same, upd_upd, S_tl, S_len, S_app, S_one, S_inj,
  lk_breaks, lk_hard, lk_soft, lk_bend, lk_note, lk_rules, lk_state, lk_bent, lk_word, lk_begun, lk_opened, lk_place, pt_state, pt_bent, pt_word, pt_wordS, pt_wordN, pt_begun, pt_opened, pt_place, pt_place1, len_mf, litv_empty, litv_note, litv_nl, mf_inj, rf_inj, lkn_begin, lkn_ended, lkn_plain, lkn_quoted, lkn_step, lkn_fault, lkn_key, lkn_told, lkn_quotes, lkn_special, pt_open1, not_true_eq_false, not_false_eq_true])
local macro_rules | `(tactic| walk_at "rdh") => `(tactic| simp only [iEnum, iRng3, tRevL, rSlS, rSlL, gSub, rSetL, wipe, List.map_cons, List.map_nil, rAll, rAny, rIsi, tM1, tM0, iZipLT, iZip, iRng2, tLenSetS, rListStr, rMulS, rRep, rCntB, tRevS, rNeD, rEqD, tSeq, tNext, tAsg, tRet, tRetN, tDrop, tIfS, sFld, sFldAug, tVar, tC, tOp, tUn, tTest, tB, tAnd, tOr, tNot, tAndV, tOrV, tNotV, tIf, tTup, tLst, tCons, tNil, tCB, tCall, tMeth, tMake, tFld, rI, rI0, rU, rEq, rNe, rCat, gName, gTup, gCons, gNil, tPar, tPar3, tBM, tBM0, rAppend, rExtend, rPopAt, rIxL, rIxT, rIxS, tSl, rSlS, rSlL, tPart, tNoPart, iStr, iTup, iList, iRng1, tAug, ipI, L2.rAdd, L2.rSub, L2.rAddS, tChain, rIsB, rNotB, scal_ss, scal_ii, scal_bb, scal_nn, scal_in, scal_ni, tYes,
  cx_K, cx_N, List.getElem?_cons_zero, List.getElem?_cons_succ, List.set_cons_zero, List.set_cons_succ, List.nil_append, List.cons_append, List.append_nil, List.length_cons, List.length_nil, Nat.zero_add,
  Option.some.injEq, V.ref.injEq, V.int.injEq, V.str.injEq, V.bl.injEq, HO.ins.injEq, HO.lst.injEq, HO.tup.injEq, List.cons.injEq, exists_eq_left, exists_eq_left', exists_eq_right, exists_eq_right', and_true, true_and, exists_and_left, exists_and_right, and_assoc, decide_eq_true_eq, Bool.not_eq_true', decide_eq_false_iff_not, reduceCtorEq, exists_const, forall_const, if_true, if_false, false_and, and_false, ite_true, ite_false, Bool.true_eq_false, Bool.false_eq_true, Nat.reduceLeDiff, Nat.reduceAdd, small_line, small_lt, upd_ne, ne_eq, not_false_eq_true, Nat.zero_le, Prod.mk.injEq, upd_same, upd_upd, S_tl, S_len, S_app, S_one, S_inj,
  lk_breaks, lk_hard, lk_soft, lk_bend, lk_note, lk_rules, lk_state, lk_bent, lk_word, lk_begun, lk_opened, lk_place, pt_state, pt_bent, pt_word, pt_wordS, pt_wordN, pt_begun, pt_opened, pt_place, pt_place1, len_mf, litv_empty, litv_note, litv_nl, mf_inj, rf_inj, lkn_begin, lkn_ended, lkn_plain, lkn_quoted, lkn_step, lkn_fault, lkn_key, lkn_told, lkn_quotes, lkn_special, pt_open1, not_true_eq_false, not_false_eq_true, *])
local macro_rules | `(tactic| walk_at "pl") => `(tactic| (first | decide | (refine Nat.lt_of_le_of_lt (length_putF _ _ _) ?_; repeat (first | decide | refine pl2 ?_))))
local macro_rules | `(tactic| walk_at "al") => `(tactic| (intro p hp; generalize hH : upd _ p _ = H1; obtain ⟨S, e⟩ := gen_new hH hp; clear hH))
/-! ### a text that comes in pieces -/
theorem line_le'' {n : Nat} (h : n ≤ 100000) : n ≤ sizeLine := Nat.le_trans h (by decide)
def SF (mp fl : Addr) (b : Bool) : List (Str × V) := [("machine", .ref mp), ("found", .ref fl), ("over", .bl b)]
theorem lk_machine (mp fl : Addr) (b : Bool) : List.lookup ("machine" : Str) (SF mp fl b) = some (.ref mp) := by kernel_rfl
theorem lk_found (mp fl : Addr) (b : Bool) : List.lookup ("found" : Str) (SF mp fl b) = some (.ref fl) := by kernel_rfl
theorem lk_over (mp fl : Addr) (b : Bool) : List.lookup ("over" : Str) (SF mp fl b) = some (.bl b) := by kernel_rfl
theorem lkn_take (mp fl : Addr) (b : Bool) : List.lookup ("take" : Str) (SF mp fl b) = none := by kernel_rfl
theorem lkn_end (mp fl : Addr) (b : Bool) : List.lookup ("end" : Str) (SF mp fl b) = none := by kernel_rfl
/-- all but these are kept -/
def K2 (p q : Addr) (H H' : Hp) : Prop := ∀ b o, H b = some o → b ≠ p → b ≠ q → H' b = some o
theorem K2.trans {p q : Addr} {H H1 H2 : Hp} (a : K2 p q H H1) (b : K2 p q H1 H2) : K2 p q H H2 := fun c o e n m => b c o (a c o e n m) n m
theorem _root_.L2.Same.k2 {H H' : Hp} (p q : Addr) (s : Same H H') : K2 p q H H' := fun b o e _ _ => s b o e
theorem Kp.k2l {p : Addr} {H H' : Hp} (q : Addr) (k : Kp p H H') : K2 p q H H' := fun b o e n _ => k b o e n
theorem Kp.k2r {q : Addr} {H H' : Hp} (p : Addr) (k : Kp q H H') : K2 p q H H' := fun b o e _ n => k b o e n
theorem K2.tk {p q : Addr} {H H' : Hp} (k : K2 p q H H') {o1 o2 : HO} (h1 : H p = some o1) (h2 : H q = some o2) (n1 : ∀ xs, o1 ≠ .tup xs) (n2 : ∀ xs, o2 ≠ .tup xs) : Tk H H' := fun b xs e => k b _ e (fun z => by rw [z, h1] at e; exact n1 xs (Option.some.inj e)) (fun z => by rw [z, h2] at e; exact n2 xs (Option.some.inj e))
abbrev runZ (r : RS) (rp : Addr) (u : Tx) : MS × List W3 := (MS.zero rp).run r u
/-- a splitter behind the text u -/
structure Spl (a : Ad) (H : Hp) (p dx mp dm fl rp dr : Addr) (r : RS) (u : Tx) : Prop where
  h1 : H p = some (.ins a.c_Splitter dx (SF mp fl false))
  h2 : H mp = some (.ins a.c_Machine dm (runZ r rp u).1.f)
  h3 : ∃ xs, H fl = some (.lst xs) ∧ Fnds H xs (runZ r rp u).2
  h4 : H rp = some (.ins a.c_Rules dr r.f)
theorem Spl.same {a : Ad} {H H' : Hp} {p dx mp dm fl rp dr : Addr} {r : RS} {u : Tx} (h : Spl a H p dx mp dm fl rp dr r u) (s : Same H H') : Spl a H' p dx mp dm fl rp dr r u := by
  obtain ⟨xs, x1, x2⟩ := h.h3
  exact ⟨s _ _ h.h1, s _ _ h.h2, ⟨xs, s _ _ x1, x2.mono s.tk⟩, s _ _ h.h4⟩
theorem Spl.ne1 {a : Ad} {H : Hp} {p dx mp dm fl rp dr : Addr} {r : RS} {u : Tx} (h : Spl a H p dx mp dm fl rp dr r u) : p ≠ mp ∧ p ≠ fl ∧ mp ≠ fl ∧ rp ≠ mp ∧ rp ≠ fl ∧ rp ≠ p := by
  obtain ⟨xs, x1, x2⟩ := h.h3
  refine ⟨ne_of h.h1 h.h2 fun z => ?_, ne_of h.h1 x1 (fun z => by cases z), ne_of h.h2 x1 (fun z => by cases z), ne_of h.h4 h.h2 fun z => ?_, ne_of h.h4 x1 (fun z => by cases z), ne_of h.h4 h.h1 fun z => ?_⟩
  · injection z with _ _ z; exact absurd (congrArg List.length z) (by show ¬ (3 = 7); decide)
  · injection z with _ _ z; exact absurd (congrArg List.length z) (by show ¬ (5 = 7); decide)
  · injection z with _ _ z; exact absurd (congrArg List.length z) (by show ¬ (5 = 3); decide)
section
variable {P : Program} {w : World} {K : PySem.W.Frag} {mg : Str → Option Value} {base : Heap} {a : Ad}
def sp_Splitter_init (a : Ad) : Sp := fun vs H Q _ => ∃ p dx rp dr r, vs = [.ref p, .ref rp] ∧ H p = some (.ins a.c_Splitter dx []) ∧ H rp = some (.ins a.c_Rules dr (RS.f r)) ∧
  ∀ H' mp dm fl, H mp = none → H fl = none → Spl a H' p dx mp dm fl rp dr r [] → Kp p H H' → Q .non H'
theorem ok_Splitter_init (T : Txt K mg a) : FnOk P w K mg base CX0 3 a.f_Splitter_init a.d_Splitter_init P_Splitter_init (sp_Splitter_init a) := by
  refine T.F_Splitter_init.ok sc_Splitter_init (fun vs H Q E h => ?_) (fun cdv A outer s H vs Q E hr h => ?_)
  · obtain ⟨p, dx, rp, dr, r, rfl, _⟩ := h
    rfl
  · obtain ⟨p, dx, rp, dr, r, rfl, hM, hR, k⟩ := h
    have G_Machine_init := ok_Machine_init (P := P) (w := w) (base := base) T
    have B_Machine_init := bi_Machine_init T
    refine ⟨_,
(pss_cons (ps_fld (pv 0) (pe_make T.c_Machine.mc G_Machine_init (hr.mono (by decide)) rfl T.c_Machine.g B_Machine_init .nil pass0 (pa_cons (pv 1) pa_nil)) rfl)
    (pss_cons (ps_fld (pv 0) (pe_lst pa_nil) rfl)
    (pss_one (ps_fld (pv 0) pe_bl rfl))))
      , ?_⟩
    rw [show start N_Splitter_init [V.ref p, V.ref rp] = [some (.ref p), some (.ref rp)] from rfl]
    have hc := T.c_Splitter.cl
    have n1 := T.n_Splitter_machine
    have n2 := T.n_Splitter_found
    have n3 := T.n_Splitter_over
    walk_at "rdh"
    intro x dm hx hdm ne
    refine ⟨x, dm, rp, rfl, upd_same, fun H2 h1 h2 => ⟨rfl, ?_⟩⟩
    have S1 : Same H H2 := Same.made hx hdm h2
    refine ⟨_, _, _, S1 _ _ hM, hc, n1, by decide, fun f hf => ?_⟩
    have npf : f ≠ p := ne_upd hf
    have hf2 := none_upd hf
    have npx : x ≠ p := Ne.symm (ne_of_none hM hx)
    have nxf : x ≠ f := ne_of_none h1 hf2
    have nrp : rp ≠ p := ne_of hR hM fun z => by injection z with _ _ z; exact absurd (congrArg List.length z) (by show ¬ (5 = 0); decide)
    refine ⟨_, _, _, by rw [upd_ne (Ne.symm npf), upd_same], hc, n2, by walk_at "pl", hc, n3, by walk_at "pl", ?_⟩
    refine k _ x dm f hx (S1.free hf2) ⟨?_, ?_, ⟨[], ?_, .nil⟩, ?_⟩ ?_
    · rw [upd_same]
      exact congrArg (fun l => some (HO.ins a.c_Splitter dx l)) (by kernel_rfl)
    · rw [upd_ne npx, upd_ne nxf, upd_ne npx]
      exact h1
    · rw [upd_ne npf, upd_same]
    · rw [upd_ne nrp, upd_ne (ne_of_none (S1 _ _ hR) hf2), upd_ne nrp]
      exact S1 _ _ hR
    · refine Kp.upd (fun b o e n => ?_)
      rw [upd_ne (ne_of_none (S1 _ _ e) hf2), upd_ne n]
      exact S1 _ _ e
def sp_take (a : Ad) : Sp := fun vs H Q _ => ∃ p dx mp dm fl rp dr r u t, vs = [.ref p, .str (S t)] ∧ Spl a H p dx mp dm fl rp dr r u ∧ r.hard.length + r.soft.length ≤ 100 ∧ u.length + t.length ≤ 50000 ∧ t.all sgn = true ∧
  ∀ l H', H l = none → H' l = some (.lst (((runZ r rp u).1.run r t).2.map fun d => .str (S d.1))) → Spl a H' p dx mp dm fl rp dr r (u ++ t) → K2 mp fl H H' → Q (.ref l) H'
theorem ok_Splitter_take (T : Txt K mg a) : FnOk P w K mg base CX0 4 a.f_Splitter_take a.d_Splitter_take P_Splitter_take (sp_take a) := by
  refine T.F_Splitter_take.ok sc_Splitter_take (fun vs H Q E h => ?_) (fun cdv A outer s H vs Q E hr h => ?_)
  · obtain ⟨p, dx, mp, dm, fl, rp, dr, r, u, t, rfl, _⟩ := h
    rfl
  · obtain ⟨p, dx, mp, dm, fl, rp, dr, r, u, t, rfl, hS, hq, hl, hs, k⟩ := h
    have G_are_signs := ok_are_signs (P := P) (w := w) (base := base) T
    have B_are_signs := bi_are_signs T
    have G_Machine_step := ok_Machine_step (P := P) (w := w) (base := base) T
    have B_Machine_step := bi_Machine_step T
    refine ⟨_,
(pss_cons (ps_if (pt_not (pt_val (pe_call G_are_signs (hr.mono (by decide)) rfl T.f_are_signs.g T.f_are_signs.k B_are_signs .nil pass0 (pa_cons (pv 1) pa_nil)))) (pss_one ps_never) pss_nil)
    (pss_cons (ps_if (pt_val (pe_fld (pv 0) rfl)) (pss_one ps_never) pss_nil)
    (pss_cons (ps_set (i := 2) sc_Splitter_take.nd rfl (by first | exact Or.inl rfl | exact Or.inr rfl) (pe_callB call_len_seq (by rfl) T.b_len PySem.boot_len (pa_cons (pe_fld (pv 0) rfl) pa_nil)))
    (pss_cons (ps_for PassesOwn.never rfl (pi_str (pv 1)) (pg_name (i := 3) sc_Splitter_take.nd rfl (by first | exact Or.inl rfl | exact Or.inr rfl))
    (pss_one (ps_expr (pe_bm PySem.F.plainAttrs_list PySem.F.slot_list_extend PySem.F.type_list_extend mt_extend (pe_fld (pv 0) rfl) (pa_cons (pe_meth (pe_fld (pv 0) rfl) T.c_Machine.cl T.m_Machine_step G_Machine_step (hr.mono (by decide)) B_Machine_step .nil pass0 (pa_cons (pv 3) pa_nil)) pa_nil)))))
    (pss_one (ps_ret (pe_lc (own := [("pair", 4)]) (g := gName 4) (tt := tYes) rfl sc_Splitter_take.nd (pi_list (pe_slice sl_list (pe_fld (pv 0) rfl) (po_some (pv 2)) po_none)) (blkOk_by (own := [("pair", 4)]) (N := N_Splitter_take) (sc := defScope st_Splitter_take) (by decide +kernel)) (fun _ _ _ _ _ => (pg_name (i := 4) sc_Splitter_take.nd rfl (by first | exact Or.inl rfl | exact Or.inr rfl))) (fun _ _ _ _ _ => pts_nil) (fun _ _ _ _ _ => (pe_ix (ix_tupK (K := K) rfl) (pv 4) pe_int (fun _ _ => rfl))))))))))
      , ?_⟩
    rw [show start N_Splitter_take [V.ref p, V.str (S t)] = [some (.ref p), some (.str (S t)), none, none, none] from rfl]
    have hc := T.c_Splitter.cl
    have n1 := T.n_Splitter_machine
    have n2 := T.n_Splitter_found
    have n3 := T.n_Splitter_over
    have h1 := hS.h1
    walk_at "rdh"
    refine ⟨t, rfl, by omega, fun H0 s0 => ⟨_, rfl, ?_⟩⟩
    rw [hs]
    refine ite2 (fun z => by cases z) (fun _ => ?_)
    have hS0 := hS.same s0
    refine ⟨_, _, _, hS0.h1, hc, n3, _, lk_over _ _ _, _, rfl, ite2 (fun z => by cases z) (fun _ => ?_)⟩
    obtain ⟨xs0, x1, x2⟩ := hS0.h3
    refine ⟨_, _, _, hS0.h1, hc, n2, _, lk_found _ _ _, _, rfl, _, .inl (.inl (.inl x1)), ?_⟩
    obtain ⟨e1, e2, e3, e4, e5, e6⟩ := hS0.ne1
    have lx0 : xs0.length ≤ u.length := by
      have h1 := x2.length
      have h2 : (runZ r rp u).2.length ≤ u.length := MS.out_run r u (MS.zero rp)
      omega
    refine tfor_it (J := Its (S t)) (H1 := H0) (n := t.length) (G := fun _ => True) (fun R hR => ⟨_, rfl, _, rfl, hR⟩) walk_text (fun i σ H' => ∃ v3 ys, σ = [some (.ref p), some (.str (S t)), some (.int (xs0.length : Nat)), v3, none] ∧
      Spl a H' p dx mp dm fl rp dr r (u ++ t.take i) ∧ H' fl = some (.lst (xs0 ++ ys)) ∧ Fnds H' ys ((runZ r rp u).1.run r (t.take i)).2 ∧ K2 mp fl H0 H') ⟨_, [], rfl, ?_, ?_, .nil, fun _ _ e _ _ => e⟩ (fun _ _ _ _ _ => trivial) ?_ ?_
    · rw [List.take_zero, List.append_nil]; exact hS0
    · rw [List.append_nil]; exact x1
    · rintro i x σ Hx H2 hi ⟨v3, ys, rfl, S2, f2, g2, k2⟩ ⟨rfl, c, hc1, rfl⟩
      have m2 := S2.h2
      have q1 := S2.h1
      walk_at "rdh"
      have pl : (runZ r rp (u ++ t.take i)).1.place = u.length + i := by
        rw [runZ, MS.place_run, List.length_append, List.length_take]
        show 0 + _ = _
        omega
      have ru : (runZ r rp (u ++ t.take i)).1.rules = rp := MS.rules_run r _ _
      have ok := (MS.Ok.zero rp).run r (u ++ t.take i)
      have et : u ++ t.take (i + 1) = u ++ t.take i ++ [c] := by rw [take_at hc1, List.append_assoc]
      have es : (runZ r rp (u ++ t.take i)).1 = ((runZ r rp u).1.run r (t.take i)).1 := by rw [runZ, MS.run_app]
      have ly : ys.length ≤ i := by
        have h1 := g2.length
        have h2 := MS.out_run r (t.take i) (runZ r rp u).1
        rw [List.length_take] at h2
        omega
      obtain ⟨xs2, y1, y2⟩ := S2.h3
      obtain rfl : xs2 = xs0 ++ ys := by
        have := y1.symm.trans f2
        injection this with this
        injection this
      refine ⟨_, lk_found _ _ _, .inl ⟨rfl, _, .inl (.inl f2)⟩, _, lk_machine _ _ _, _, rfl, _, _, m2, lkn_step _, mp, dm, _, c, dr, r, rfl, m2, (by rw [ru]; exact S2.h4), hq, ok, (by rw [pl]; omega), fun l H3 zs q1' q2 q3 q4 q5 => ?_⟩
      have nlf : l ≠ fl := fun z => by rw [z, f2] at q1'; cases q1'
      have f3 := q5 _ _ f2 (Ne.symm e3)
      have kk : K2 mp fl H2 (upd H3 fl (.lst (xs0 ++ ys ++ zs))) := fun b o e n1 n2 => by
        rw [upd_ne n2]; exact q5 b o e n1
      have tk2 : Tk H2 H3 := q5.tk m2 fun _ z => by cases z
      have tk3 : Tk H3 (upd H3 fl (.lst (xs0 ++ ys ++ zs))) := kp_upd.tk f3 fun _ z => by cases z
      have ezs : zs.length ≤ 1 := by
        have h1 := q3.length
        have h2 := MS.out_step r (runZ r rp (u ++ t.take i)).1 c
        omega
      refine ⟨fl, rfl, l, rfl, _, f3, _, q2, ?_, ⟨kk _ _ S2.h1 e1 e2, ?_, ⟨_, upd_same, ?_⟩, kk _ _ S2.h4 e4 e5⟩, ys ++ zs, ?_, ?_, k2.trans kk⟩
      · rw [List.length_append]
        exact Nat.le_trans (show xs0.length + ys.length + zs.length ≤ 100000 by omega) (by decide)
      · rw [upd_ne e3, q4, et, show runZ r rp (u ++ t.take i ++ [c]) = _ from MS.run_one r _ c _]
      · rw [et, show runZ r rp (u ++ t.take i ++ [c]) = _ from MS.run_one r _ c _]
        exact Paired.app ((y2.mono tk2).mono tk3) (q3.mono tk3)
      · rw [upd_same, List.append_assoc]
      · rw [take_at hc1, MS.run_one, ← es]
        exact Paired.app ((g2.mono tk2).mono tk3) (q3.mono tk3)
    · rintro σ H2 ⟨v3, ys, rfl, S2, f2, g2, k2⟩
      rw [List.take_length] at S2 g2
      have q1 := S2.h1
      walk_at "rdh"
      have ly : ys.length ≤ t.length := by
        have h1 := g2.length
        have h2 := MS.out_run r t (runZ r rp u).1
        omega
      refine tlc_all (ι := Addr × Hp) (C := fun z => z.2 z.1 = some (.lst ys) ∧ Same H2 z.2) (J := fun z => Itl K z.1) (H1 := fun z => z.2) (fun R hR => ?_) fun z hz D hD => ?_
      · walk_at "rdh"
        refine ⟨_, lk_found _ _ _, _, rfl, _, .inl (.inl f2), ?_⟩
        rw [cut_from, List.drop_left]
        walk_at "al"
        rename_i p2 hp2 H3 S3 e3'
        exact ⟨⟨_, .inl (.inl e3')⟩, hR (p2, H3) ⟨e3', S3⟩⟩
      obtain ⟨p2, H3⟩ := z
      obtain ⟨z1, z2⟩ := hz
      dsimp only at z1 z2 hD
      have g3 := g2.mono z2.tk
      refine lc_map ((runZ r rp u).1.run r t).2 (fun d => .str (S d.1)) (G := fun H => SqL K H p2 ys) (g3.length ▸ walk_list) (by rw [← g3.length]; omega) hD (fun H s => .inl (.inl (s _ _ z1))) ?_ ?_
      · rintro R R' i d x H4 H4' hi s4 ⟨rfl, hx⟩ hk
        obtain ⟨b, v, rfl, o1, o2⟩ := Paired.at' g3 hi hx
        walk_at "rdh"
        exact ⟨_, .inl (.inl (s4 _ _ o1)), _, atI_nat (j := 0) rfl, hk _ (Same.refl _)⟩
      · intro H4 s4 e4'
        have S24 := z2.trans s4
        have fr : H D = none := by
          cases e : H D with
          | none => rfl
          | some o =>
            exfalso
            have hD2 : H2 D = none := z2.free hD
            by_cases n1 : D = mp
            · rw [n1, S2.h2] at hD2; cases hD2
            by_cases n2 : D = fl
            · rw [n2, f2] at hD2; cases hD2
            have := k2 _ _ (s0 _ _ e) n1 n2
            rw [hD2] at this; cases this
        exact k D H4 fr e4' (S2.same S24) (((s0.k2 mp fl).trans k2).trans (S24.k2 _ _))
def sp_end (a : Ad) : Sp := fun vs H Q _ => ∃ p dx mp dm fl rp dr r u, vs = [.ref p] ∧ Spl a H p dx mp dm fl rp dr r u ∧ u.length ≤ 50000 ∧
  ∀ q H', H q = none → Ansd a H H' q (told3 (readAll r u rp)) → H' p = some (.ins a.c_Splitter dx (SF mp fl true)) → K2 p mp H H' → Q (.ref q) H'
theorem ok_Splitter_end (T : Txt K mg a) : FnOk P w K mg base CX0 3 a.f_Splitter_end a.d_Splitter_end P_Splitter_end (sp_end a) := by
  refine T.F_Splitter_end.ok sc_Splitter_end (fun vs H Q E h => ?_) (fun cdv A outer s H vs Q E hr h => ?_)
  · obtain ⟨p, dx, mp, dm, fl, rp, dr, r, u, rfl, _⟩ := h
    rfl
  · obtain ⟨p, dx, mp, dm, fl, rp, dr, r, u, rfl, hS, hl, k⟩ := h
    have G_Machine_fault := ok_Machine_fault (P := P) (w := w) (base := base) T
    have B_Machine_fault := bi_Machine_fault T
    have G_Fault_init := ok_Fault_init (P := P) (w := w) (base := base) T
    have B_Fault_init := bi_Fault_init T
    have G_Machine_ended := ok_Machine_ended (P := P) (w := w) (base := base) T
    have B_Machine_ended := bi_Machine_ended T
    have G_Words_init := ok_Words_init (P := P) (w := w) (base := base) T
    have B_Words_init := bi_Words_init T
    refine ⟨_,
(pss_cons (ps_if (pt_val (pe_fld (pv 0) rfl)) (pss_one ps_never) pss_nil)
    (pss_cons (ps_fld (pv 0) pe_bl rfl)
    (pss_cons (ps_set (i := 1) sc_Splitter_end.nd rfl (by first | exact Or.inl rfl | exact Or.inr rfl) (pe_meth0 (pe_fld (pv 0) rfl) T.c_Machine.cl T.m_Machine_fault G_Machine_fault (hr.mono (by decide)) B_Machine_fault .nil pass0))
    (pss_cons (ps_if (pt_cmpR op_notN (pv 1) pe_non (nomark _)) (pss_one (ps_ret (pe_make T.c_Fault.mc G_Fault_init (hr.mono (by decide)) rfl T.c_Fault.g B_Fault_init .nil pass0 (pa_cons (pv 1) pa_nil)))) pss_nil)
    (pss_cons (ps_set (i := 2) sc_Splitter_end.nd rfl (by first | exact Or.inl rfl | exact Or.inr rfl) (pe_op op_cat (pe_fld (pv 0) rfl) (pe_meth0 (pe_fld (pv 0) rfl) T.c_Machine.cl T.m_Machine_ended G_Machine_ended (hr.mono (by decide)) B_Machine_ended .nil pass0)))
    (pss_one (ps_ret (pe_make T.c_Words.mc G_Words_init (hr.mono (by decide)) rfl T.c_Words.g B_Words_init .nil pass0 (pa_cons (pe_lc (own := [("pair", 3)]) (g := gName 3) (tt := tYes) rfl sc_Splitter_end.nd (pi_list (pv 2)) (blkOk_by (own := [("pair", 3)]) (N := N_Splitter_end) (sc := defScope st_Splitter_end) (by decide +kernel)) (fun _ _ _ _ _ => (pg_name (i := 3) sc_Splitter_end.nd rfl (by first | exact Or.inl rfl | exact Or.inr rfl))) (fun _ _ _ _ _ => pts_nil) (fun _ _ _ _ _ => (pe_ix (ix_tupK (K := K) rfl) (pv 3) pe_int (fun _ _ => rfl)))) (pa_cons (pe_lc (own := [("pair", 3)]) (g := gName 3) (tt := tYes) rfl sc_Splitter_end.nd (pi_list (pv 2)) (blkOk_by (own := [("pair", 3)]) (N := N_Splitter_end) (sc := defScope st_Splitter_end) (by decide +kernel)) (fun _ _ _ _ _ => (pg_name (i := 3) sc_Splitter_end.nd rfl (by first | exact Or.inl rfl | exact Or.inr rfl))) (fun _ _ _ _ _ => pts_nil) (fun _ _ _ _ _ => (pe_ix (ix_tupK (K := K) rfl) (pv 3) pe_int (fun _ _ => rfl)))) pa_nil))))))))))
      , ?_⟩
    rw [show start N_Splitter_end [V.ref p] = [some (.ref p), none, none, none] from rfl]
    have hc := T.c_Splitter.cl
    have n1 := T.n_Splitter_machine
    have n2 := T.n_Splitter_found
    have n3 := T.n_Splitter_over
    have h1 := hS.h1
    obtain ⟨n1', n2', n3', n4', n5', n6'⟩ := hS.ne1
    walk_at "rdh"
    have esf : putF (Str.ofString "over") (V.bl true) (SF mp fl false) = SF mp fl true := by kernel_rfl
    rw [esf]
    refine ⟨_, lk_over _ _ _, _, rfl, ite2 (fun z => by cases z) (fun _ => ⟨by show 3 < 1000; decide, ?_⟩)⟩
    have k1 : Kp p H (upd H p (HO.ins a.c_Splitter dx (SF mp fl true))) := kp_upd
    have p1 : upd H p (HO.ins a.c_Splitter dx (SF mp fl true)) p = some (HO.ins a.c_Splitter dx (SF mp fl true)) := upd_same
    have tk1 := k1.tk h1 fun _ z => by cases z
    obtain ⟨xs, x1, x2⟩ := hS.h3
    have m1 := k1 _ _ hS.h2 (Ne.symm n1')
    have f1 := k1 _ _ x1 (Ne.symm n2')
    have g1 := x2.mono tk1
    generalize upd H p (HO.ins a.c_Splitter dx (SF mp fl true)) = H1 at *
    have fr1 : ∀ {b}, H1 b = none → H b = none := fun {b} hb => by
      cases e : H b with
      | none => rfl
      | some o =>
        exfalso
        by_cases n : b = p
        · rw [n, p1] at hb; cases hb
        · rw [k1 _ _ e n] at hb; cases hb
    refine ⟨_, lk_machine _ _ _, _, rfl, _, _, m1, lkn_fault _, mp, dm, _, rfl, m1, fun H2 s2 => ?_⟩
    have hu : u.length ≤ 50000 := hl
    cases ef : (runZ r rp u).1.fault with
    | some n =>
      have er : readAll r u rp = .error n := by unfold readAll; rw [show (MS.run r (MS.zero rp) u).1.fault = some n from ef]
      rw [er] at k
      dsimp only
      refine ite2 (fun _ => ?_) (fun c => absurd (fun z => by cases z) c)
      intro x dx' hx hdx ne
      refine ⟨x, dx', _, rfl, upd_same, fun H' g1 g2 => ⟨rfl, ?_⟩⟩
      have sm := Same.made hx hdx g2
      exact k x H' (fr1 (s2.free hx)) ⟨dx', g1⟩ (sm _ _ (s2 _ _ p1)) ((k1.k2l mp).trans ((s2.trans sm).k2 _ _))
    | none =>
      have er : readAll r u rp = .ok ((runZ r rp u).2 ++ (runZ r rp u).1.out) := by unfold readAll; rw [show (MS.run r (MS.zero rp) u).1.fault = none from ef]
      rw [er] at k
      dsimp only
      refine ite2 (fun c => absurd rfl c) (fun _ => ?_)
      have p2 := s2 _ _ p1
      have m2 := s2 _ _ m1
      have f2 := s2 _ _ f1
      refine ⟨_, _, _, p2, hc, n2, _, lk_found _ _ _, _, _, _, p2, hc, n1, _, lk_machine _ _ _, _, rfl, _, _, m2, lkn_ended _, mp, dm, _, rfl, m2, fun l H3 ys q1 q2 q3 q4 q5 => ?_⟩
      have f3 := q5 _ _ f2 (Ne.symm n3')
      have p3 := q5 _ _ p2 n1'
      have tk3 : Tk H2 H3 := q5.tk m2 fun _ z => by cases z
      have lxs : xs.length ≤ u.length := by
        have h1 := g1.length
        have h2 : (runZ r rp u).2.length ≤ u.length := MS.out_run r u (MS.zero rp)
        omega
      have lys : ys.length ≤ 1 := by
        have h1 := q3.length
        have : (runZ r rp u).1.out.length ≤ 1 := by unfold MS.out; split <;> simp
        omega
      have fr3 : ∀ {b}, H3 b = none → H b = none := fun {b} hb => by
        refine fr1 ?_
        cases e : H1 b with
        | none => rfl
        | some o =>
          exfalso
          by_cases n : b = mp
          · rw [n, q4] at hb; cases hb
          · rw [q5 _ _ (s2 _ _ e) n] at hb; cases hb
      have kk : K2 p mp H H3 := ((k1.k2l mp).trans (s2.k2 _ _)).trans (q5.k2r p)
      refine ⟨_, rfl, _, rfl, _, f3, _, q2, line_le'' (by omega), fun l5 hl5 => ?_⟩
      obtain ⟨S5, e5⟩ := gen_new (o := HO.lst (xs ++ ys)) rfl hl5
      generalize upd H3 l5 (HO.lst (xs ++ ys)) = H5 at *
      have t3 : Fnds H5 (xs ++ ys) ((runZ r rp u).2 ++ (runZ r rp u).1.out) := Paired.app (((g1.mono s2.tk).mono tk3).mono S5.tk) (q3.mono S5.tk)
      generalize hds : (runZ r rp u).2 ++ (runZ r rp u).1.out = ds at *
      generalize hxy : xs ++ ys = zs at *
      have hlen := t3.length
      have dl : zs.length ≤ 60000 := by rw [← hxy, List.length_append]; omega
      refine tlc_map ds (fun d => .str (S d.1)) (J := Itl K l5) (H1 := H5) (G := fun H => SqL K H l5 zs) (fun R hR => ?_) (hlen ▸ walk_list) (by omega) (fun H s => .inl (.inl (s _ _ e5))) ?_ ?_
      · exact ⟨_, rfl, l5, rfl, ⟨_, .inl (.inl e5)⟩, hR⟩
      · rintro R R' i d x H6 H7 hi s6 ⟨rfl, hx⟩ hR
        obtain ⟨b, v, rfl, g1, g2⟩ := Paired.at' t3 hi hx
        walk_at "rd"
        refine ⟨_, .inl (.inl (s6 _ _ g1)), _, rfl, hR _ (Same.refl _)⟩
      · intro D H6 hD s6 e6
        obtain ⟨us, u1, u2, u3⟩ := fnds_pl t3
        refine tlc_map us id (J := Itl K l5) (H1 := H6) (G := fun H => SqL K H l5 zs) (fun R hR => ?_) ((hlen.trans u1.symm) ▸ walk_list) (by omega) (fun H s => .inl (.inl (s _ _ (s6 _ _ e5)))) ?_ ?_
        · exact ⟨_, rfl, l5, rfl, ⟨_, .inl (.inl (s6 _ _ e5))⟩, hR⟩
        · rintro R R' i v x H7 H8 hi s7 ⟨rfl, hx⟩ hR
          obtain ⟨b, w, rfl, g1⟩ := u3 i x v hx hi
          walk_at "rd"
          exact ⟨_, .inl (.inl (s7 _ _ (s6 _ _ g1))), _, rfl, hR _ (Same.refl _)⟩
        · intro D3 H7 hD3 s7 e7
          rw [List.map_id] at e7
          intro x dx' hx hdx ne
          have s37 := (S5.trans s6).trans s7
          have sm : Same H7 (upd (upd H7 dx' (.own x)) x (.ins a.c_Words dx' [])) := Same.made hx hdx fun _ _ e _ => e
          refine ⟨x, dx', D, D3, _, _, rfl, upd_same, sm _ _ (s7 _ _ e6), sm _ _ e7, fun w1 w2 H' r1 r2 r3 r4 r5 r6 r7 => ⟨rfl, ?_⟩⟩
          have sf : Same H7 H' := Same.made hx hdx r7
          refine k x H' (fr3 (s37.free hx)) ⟨dx', w1, w2, us, r6, ?_, r5, ?_, fr3 ((s37.trans sm).free r1), fr3 ((s37.trans sm).free r2), r3⟩ ((s37.trans sf) _ _ p3) (kk.trans ((s37.trans sf).k2 _ _))
          · rw [r4, List.map_map]; rfl
          · exact Paired.mapP u2 fun _ _ z => z.mono fun b xs => ((s6.trans s7).trans sf) b _
end
end Qw

set_option Elab.async false
set_option linter.all false
set_option maxRecDepth 100000
set_option maxHeartbeats 4000000
namespace Qw
open PySem L2 PySem.Spec PyProof.Rows
/-! ### own errors: isinstance of one that is caught, the making of one with a field -/
/-- what the text says of an error's class -/
structure ErrC (K : PySem.W.Frag) (D : Addr) : Prop where
  ga : PySem.W.findIn K (.ref D) "__getattribute__" = some (some (.builtin "BaseException.__getattribute__"))
  gg : PySem.W.findIn K (.ref D) "__getattr__" = some none
  be : PySem.W.subIn K (.ref D) (.type "BaseException") = some true
  hd : PySem.W.hasDictIn K D = true
  cl : PySem.W.findIn K (.ref D) "__class__" = some (some (.builtin "object.__class__"))
  gn : PySem.W.specialIn K (.builtin "object.__class__") "__get__" = some (some (.builtin "getset_descriptor.__get__"))
  tk : PySem.W.takesIn K (.builtin "object.__class__") = some true
  ob : PySem.W.mroIn K D (.type "object") = some true
  ty : PySem.W.typeIn K (.ref D) = some (.type "type")
  kp : PySem.W.keepIn K (.ref D) = true
theorem ErrC.some {K : PySem.W.Frag} {D : Addr} (e : ErrC K D) : (PySem.W.clsIn K D).isSome = true := by
  obtain ⟨cd, hc, _⟩ := PySem.W.any_some e.hd
  rw [hc]
  rfl
theorem ErrC.xf {K : PySem.W.Frag} {D : Addr} (e : ErrC K D) : XfC K D := ⟨e.ga, e.gg, e.be, e.hd⟩
theorem ErrC.raises {X : Cx} {D : Addr} (e : ErrC X.K D) : Raises X (.ref D) := raises_own e.be e.ty
/-- a clause's test -/
theorem ErrC.clause {K : PySem.W.Frag} {C D : Addr} {b : Bool} (e : ErrC K D) (h : PySem.W.subIn K (.ref C) (.ref D) = Option.some b) : PySem.W.exmOne K (.ref C) (.ref D) = Option.some b := PySem.W.exm_ref e.be e.hd e.ty h
/-- isinstance(error, c) in the suite, the error at a of the class cls, its fields at d -/
def rIsX (K : PySem.W.Frag) (cls : Value) (d : Option Addr) (a : Addr) : List V → Hp → VK → Prop := fun xs H Q => ∃ (D : Addr) (c : V) (cv : Value) (b : Bool), cls = .ref D ∧ ErrC K D ∧ xs = [.ref a, c] ∧ (∀ u, RelV c u → u = cv) ∧
  PySem.W.kitOne K (.ref D) cv = Option.some b ∧ (d = Option.none ∨ ∃ dd fs, d = Option.some dd ∧ H dd = Option.some (.xd fs)) ∧ Q (.bl b) H
theorem call_isX {X : Cx} {a : Addr} {cls : Value} {d : Option Addr} {oe : Obj} {pn : List (Addr × Obj)} (zc : Zc cls d oe) (fl : ∃ vs, oe.data = .fields vs) : CallR (X.suite a ((a, oe) :: pn)) (.builtin "isinstance") (rIsX X.K cls d a) := by
  intro pins s σ H xs us Q I r h
  obtain ⟨D, c, cv, b, rfl, C, rfl, hcv, e, hd, q⟩ := h
  obtain ⟨u1, us1, rfl, r1, rr⟩ : ∃ u1 us1, us = u1 :: us1 ∧ RelV (.ref a) u1 ∧ Vals [c] us1 := by
    cases r with
    | cons x y => exact ⟨_, _, rfl, x, y⟩
  obtain ⟨u2, rfl, r2⟩ := rr.one
  cases r1
  cases hcv _ r2
  obtain ⟨at_, _⟩ := I.pin (a, oe) (List.mem_append.mpr (.inl List.mem_cons_self))
  obtain ⟨fv, hv⟩ := fl
  have done : ∀ od : Option Obj, PySem.W.InstAt s.heap a oe D od → wpAny (model X.prog X.w) (X.suite a ((a, oe) :: pn)).A (call (.builtin "isinstance") [.ref a, cv]) (EP (X.suite a ((a, oe) :: pn)) pins σ Q) (X.suite a ((a, oe) :: pn)).xe s := fun od J =>
    PySem.W.kia_one (PySem.W.kitx_exc C.some C.ga C.gg C.be C.cl C.gn C.tk C.ob) I.kIn J e (fun z => nomatch z) fun tk => ⟨.bl b, H, I.kept (t' := tk) fun _ _ z => z, rfl, q⟩
  have nc : PySem.W.notCls oe = true := by unfold PySem.W.notCls; rw [hv]
  rcases hd with rfl | ⟨dd, fs, rfl, hx⟩
  · refine done Option.none ⟨at_, zc.1, nc, ?_⟩
    rw [zc.2]
    trivial
  · obtain ⟨mA, hns, _⟩ := (show ObjOk X.prog X.w H s.heap dd (.xd fs) from I.hok dd _ hx)
    obtain ⟨od, ho, _⟩ := lookIn_ns hns
    refine done (Option.some od) ⟨at_, zc.1, nc, ?_⟩
    rw [zc.2]
    exact ho
/-- Base.__init__(self, ..) of an own class without one of its own, over ValueError -/
theorem pe_upinit {X : Cx} {x : Str} {D : Addr} {pl : Sem Bool} {e : Expr} {es : List Expr} {ta : TA} {p1 p2 pos : Pos} (hg : Gl X x) (hm : X.mg x = Option.some (.ref D)) (rd : PySem.W.readsIn X.K D (.type "type") = true)
    (gt : PySem.W.specialIn X.K (.ref D) "__getattribute__" = Option.some (Option.some (.builtin "type.__getattribute__")))
    (vV : PySem.W.findCls X.K (.ref D) (.type "type") "__init__" = Option.some (.val (.builtin "ValueError.__init__"))) (ha : PA X (e :: es) ta) (hdb : (x == ("__debug__" : Str)) = false := by decide)
    (hc : eval (.Call (.Attribute (.Name x p1) "__init__" p2) (e :: es) [] pos) X.env = (do
      let ov ← eval (.Name x p1) X.env
      standAt p2.atName
      let (g, first) ← holding [ov] (getMethod ov "__init__" pl)
      callWith pos g first (backTo pos (starEach (e :: es) X.env)) (backToKw pos (keywordEach [] X.env))) := by rfl)
    (he : starEach (e :: es) X.env = (false, eval e X.env) :: starEach es X.env := by rfl) (hpl : (backTo pos (starEach es X.env)).any (·.1) = false := by rfl) :
    PE X (.Call (.Attribute (.Name x p1) "__init__" p2) (e :: es) [] pos) (tVeI X.K ta) := by
  refine ⟨fun pins s σ H Q I h => ?_⟩
  refine PySem.W.methodCall_KW (ld_glob I hg hm ?_ hdb) hc
  refine PySem.W.method_cls I.kIn gt (PySem.W.cls_value I.kIn rd vV (by decide +kernel) ?_)
  have J0 := I.tok (s.toks + 1)
  show wpAny _ _ (callWith pos (Value.builtin "ValueError.__init__") [] (backTo pos (starEach (e :: es) X.env)) []) _ _ _
  refine callWith_method1 (thn (ha.run pos pins _ σ H _ J0 h) fun us s1 hh => ?_) he hpl
  obtain ⟨vs, H1, I1, r1, b, C, ws, rfl, hl, O, eb, q⟩ := hh
  obtain ⟨u0, ur, rfl, ra, rw'⟩ : ∃ u0 ur, us = u0 :: ur ∧ RelV (.ref b) u0 ∧ Vals ws ur := by
    cases r1 with
    | cons x y => exact ⟨_, _, rfl, x, y⟩
  cases ra
  refine oinit_ok O I1 eb ?_ fun s' J => ⟨.non, H1, J, rfl, q⟩
  have := rw'.length
  rw [sizeLine_eq]
  omega
end Qw

set_option Elab.async false
set_option linter.all false
set_option maxRecDepth 100000
set_option maxHeartbeats 4000000
namespace Qw
open PySem L2 LamX NdefX PySem.Spec PyProof.Rows
/-! ### lambdas with parameters: made, and called by a local name -/
/-- its words, the cells that it captured, its code object -/
structure LF where
  qual : Str
  params : Arguments
  body : Expr
  scope : Scope
  cl : List (Str × Addr)
  c : Addr
/-- as the words of a def that has no body: its frame is made alike -/
abbrev LF.nf (L : LF) : NF := ⟨"<lambda>", L.qual, L.params, [], L.scope, L.cl, L.c⟩
abbrev LF.obj (L : LF) (pm ctv : Value) : Obj := PySem.W.kla_obj "<lambda>" L.qual L.params L.body L.scope L.cl pm L.c ctv
/-- the object at f is the lambda L -/
def LamO (f : Addr) (L : LF) : HO := .ext fun h => ∃ pm ctv : Value, h.get? f = some (L.obj pm ctv)
theorem lamO_at {P : Program} {w : World} {H : Hp} {h : Heap} {f : Addr} {L : LF} (hok : HOk P w H h) (e : H f = some (LamO f L)) : ∃ pm ctv : Value, h.get? f = some (L.obj pm ctv) := (hok f _ e).1
theorem lamO_tup {f : Addr} {L : LF} {xs : List V} : LamO f L ≠ .tup xs := fun z => by unfold LamO at z; cases z
/-- a table is kept by what keeps all but another -/
theorem TabS.kp {H H' : Hp} {P Q : Addr} {q : Str} (t : TabS H Q q) (k : Kp P H H') (n : Q ≠ P) (hP : ∃ ps, H P = some (.tbl ps)) : TabS H' Q q := by
  obtain ⟨ps, h1, h2, h3⟩ := t
  obtain ⟨qs, hq⟩ := hP
  refine ⟨ps, k _ _ h1 n, h2, fun pos cv hc => ?_⟩
  obtain ⟨c, e1, e2⟩ := h3 pos cv hc
  refine ⟨c, e1, k _ _ e2 fun z => ?_⟩
  rw [z, hq] at e2
  exact codeO_ne qs (Option.some.inj e2).symm
section
variable {X : Cx} {pins : List (Addr × Obj)} {σ : L2.St} {H : Hp} {s : Shared}
theorem inv_lam {L : LF} {t' : Nat} {pm ctv : Value} (I : Inv X pins σ H s) : Inv X pins σ (upd H s.heap.objs.size (LamO s.heap.objs.size L)) { s with heap := s.heap.push (L.obj pm ctv), toks := t' } := by
  have e : (s.heap.push (L.obj pm ctv)).get? s.heap.objs.size = some (L.obj pm ctv) := Heap.get?_push_size _ rfl
  exact I.laid (a := s.heap.objs.size) (fun _ _ z => Heap.get?_push_of_some _ z) (Nat.le_refl _) ⟨⟨pm, ctv, e⟩, ⟨_, e⟩, fun _ _ ⟨p, t, z⟩ st => ⟨p, t, st _ z⟩⟩
/-- a lambda's object is made; its code object is new, or known from the table -/
theorem lam_put {c P : Addr} {q : Str} {params : Arguments} {body : Expr} {scope : Scope} {pos : Pos} {E : Value → Shared → Prop} {Q : Value → Shared → Prop} (I : Inv X pins σ H s) (TB : TabB X.base X.mg c P) (cd : X.env.code = .ref c) (hq : X.env.qual ++ "<lambda>" = q)
    (T : TabS H P q) (df : defaultsOf params X.env = ([], [])) (fr : ∀ y ∈ scope.names, y.2 = .free → ∃ c, X.env.cells.lookup y.1 = some c)
    (h : ∀ (f c' : Addr) (H1 : Hp) (s' : Shared), Inv X pins σ H1 s' → Kp P H H1 → (∀ b, H1 b = none → H b = none) → TabS H1 P q → H f = none →
      H1 f = some (LamO f ⟨q, params, body, scope, cloFrom X.env.cells scope.names [], c'⟩) → H1 c' = some (CodeO c' q) → Q (.ref f) s') :
    wpAny (model X.prog X.w) X.A (eval (.Lambda params body scope pos) X.env) Q E s := by
  subst hq
  obtain ⟨ps, tP, tok, tc⟩ := T
  have hb := TB.bm.keeps I.bk
  have tP' : s.heap.get? P = some { cls := .none, data := .fields ps } := I.hok P _ tP
  refine PySem.W.kla_eval df ?_
  cases e : codeAmong pos ps.toList with
  | some cv =>
    obtain ⟨c', rfl, co⟩ := tc pos cv e
    refine PySem.W.kla_makeFunctionHit (mg := X.mg) (c := c) (P := P) (ps := ps) (closure_ok fr) I.ok.glob (I.mod.glob.keeps I.bk) cd (TB.code.keeps I.bk) tP' tok e hb fun ctv h' tk old _ => ?_
    have J : Inv X pins σ H { s with heap := h', toks := tk } := I.kept old
    have nf : H h'.objs.size = none := J.hok.fresh (Nat.le_refl _)
    have ne : ∀ {b : Addr} {o : HO}, H b = some o → b ≠ h'.objs.size := fun z => ne_of_none z nf
    have J2 := inv_lam (L := ⟨X.env.qual ++ "<lambda>", params, body, scope, cloFrom X.env.cells scope.names [], c'⟩) (t' := tk) (pm := (X.mg "__name__").getD .none) (ctv := ctv) J
    refine h h'.objs.size c' _ _ J2 (fun b o z _ => (upd_ne (ne z)).trans z) (fun b z => none_upd z) ⟨ps, (upd_ne (ne tP)).trans tP, tok, fun p v w => ?_⟩ nf upd_same ((upd_ne (ne co)).trans co)
    obtain ⟨d, e1, e2⟩ := tc p v w
    exact ⟨d, e1, (upd_ne (ne e2)).trans e2⟩
  | none =>
    refine PySem.W.kla_makeFunction (mg := X.mg) (c := c) (P := P) (ps := ps) (closure_ok fr) I.ok.glob (I.mod.glob.keeps I.bk) cd (TB.code.keeps I.bk) tP' tok e TB.gP hb fun c' ctv h' tk old big lt rec_ tab => ?_
    obtain ⟨c2, oc, vs, t, e2, r1, r2, r3⟩ := rec_
    cases e2
    have nC : H c' = none := I.hok.fresh big
    have J := inv_table (t' := tk) (more := #[rawInt pos.line, rawInt pos.col, .ref c']) (h' := h') I tP (fun b o n z => old b o n z) tab big ⟨oc, vs, t, r1, r2, r3⟩
    have eP : upd (upd H P (.tbl (ps ++ #[rawInt pos.line, rawInt pos.col, .ref c']))) c' (CodeO c' (X.env.qual ++ "<lambda>")) P = some (.tbl (ps ++ #[rawInt pos.line, rawInt pos.col, .ref c'])) := by rw [upd_ne (ne_of_none tP nC), upd_same]
    have oth : ∀ {b : Addr} {o : HO}, H b = some o → b ≠ P → upd (upd H P (.tbl (ps ++ #[rawInt pos.line, rawInt pos.col, .ref c']))) c' (CodeO c' (X.env.qual ++ "<lambda>")) b = some o := fun z n => by
      rw [upd_ne (ne_of_none z nC), upd_ne n]
      exact z
    generalize hG : upd (upd H P (.tbl (ps ++ #[rawInt pos.line, rawInt pos.col, .ref c']))) c' (CodeO c' (X.env.qual ++ "<lambda>")) = G at *
    have eC : G c' = some (CodeO c' (X.env.qual ++ "<lambda>")) := by rw [← hG]; exact upd_same
    have nf : G h'.objs.size = none := J.hok.fresh (Nat.le_refl _)
    have ne : ∀ {b : Addr} {o : HO}, G b = some o → b ≠ h'.objs.size := fun z => ne_of_none z nf
    have fr0 : ∀ b, G b = none → H b = none := fun b z => by
      rw [← hG] at z
      exact none_upd (none_upd z)
    have J2 := inv_lam (L := ⟨X.env.qual ++ "<lambda>", params, body, scope, cloFrom X.env.cells scope.names [], c'⟩) (t' := tk) (pm := (X.mg "__name__").getD .none) (ctv := ctv) J
    refine h h'.objs.size c' _ _ J2 (fun b o z n => (upd_ne (ne (oth z n))).trans (oth z n)) (fun b z => fr0 _ (none_upd z)) ⟨_, (upd_ne (ne eP)).trans eP, ?_, fun p v w => ?_⟩ (fr0 _ nf) upd_same ((upd_ne (ne eC)).trans eC)
    · rw [Array.toList_append]
      exact PySem.TriplesOk_snoc _ _ _ _ tok
    · rw [Array.toList_append] at w
      rcases among_app _ tok w with z | z
      · obtain ⟨d, e1, e2⟩ := tc p v z
        have z2 := oth e2 fun y => by
          rw [y, tP] at e2
          exact codeO_ne ps (Option.some.inj e2).symm
        exact ⟨d, e1, (upd_ne (ne z2)).trans z2⟩
      · exact ⟨c', z, (upd_ne (ne eC)).trans eC⟩
end
/-- the reading of a lambda -/
def tLamP (P : Addr) (q : Str) (mk : Addr → LF) : TE := fun _ H Q => TabS H P q ∧ ∀ f c' H1, Kp P H H1 → (∀ b, H1 b = none → H b = none) → TabS H1 P q → H f = none → H1 f = some (LamO f (mk c')) → H1 c' = some (CodeO c' q) → Q (.ref f) H1
section
variable {X : Cx}
theorem pe_lamP {c P : Addr} {q : Str} {params : Arguments} {body : Expr} {scope : Scope} {pos : Pos} (TB : TabB X.base X.mg c P) (cd : X.env.code = .ref c) (hq : X.env.qual ++ "<lambda>" = q) (df : defaultsOf params X.env = ([], []))
    (fr : ∀ y ∈ scope.names, y.2 = .free → X.env.scope.names.lookup y.1 = some .cell ∨ X.env.scope.names.lookup y.1 = some .free) :
    PE X (.Lambda params body scope pos) (tLamP P q fun c' => ⟨q, params, body, scope, cloFrom X.env.cells scope.names [], c'⟩) :=
  ⟨fun pins s σ H Q I h => lam_put I TB cd hq h.1 df (fun y hy e => (fr y hy e).elim (fun z => I.ok.has _ (.inl z)) fun z => I.ok.has _ (.inr z)) fun f c' H1 s' J k n t hf e1 e2 => ⟨.ref f, H1, J, rfl, h.2 f c' H1 k n t hf e1 e2⟩⟩
end
/-- what the lambda L promises: its parameters ps, what its captured names fr hold ws -/
structure LOk (P : Program) (w : World) (K : PySem.W.Frag) (mg : Str → Option Value) (base : Heap) (CX : CXT) (k : Nat) (L : LF) (ps fr : List Str) (ws : List (Option V)) (sp : Sp) : Prop where
  len : ∀ vs H Q E, sp vs H Q E → vs.length = ps.length
  run : ∀ (f : Addr) (A : Around) (outer : List Env) (s : Shared) (H : Hp) (us : List Value) (vs : List V) (Q : VK) (E : XK), Room k A → Env0 P w K mg base A outer s H → H f = some (LamO f L) → H L.c = some (CodeO L.c L.qual) →
    CellsAt L.cl fr ws s.heap H → Vals vs us → sp vs H Q E → codeAny (model P w) A (.call (.ref f) ⟨us, []⟩) (CR CX outer P w H s Q E) s
section
variable {CX : CXT} {P : Program} {w : World} {K : PySem.W.Frag} {mg : Str → Option Value} {base : Heap} {N ps fr : List Str} {L : LF} {k : Nat} {ws : List (Option V)} {sp : Sp}
theorem lok_of (S : NScope N ps fr L.scope) (bd : ∀ (pm ctv : Value) (us : List Value), us.length = ps.length → bindArgs (PySem.W.kla_fn "<lambda>" L.qual L.params L.body L.scope L.cl pm (.ref L.c) ctv) ⟨us, []⟩ = pure (ps.zip us))
    (len : ∀ vs H Q E, sp vs H Q E → vs.length = ps.length)
    (go : ∀ (f : Addr) (A : Around) (outer : List Env) (s : Shared) (H : Hp) (vs : List V) (Q : VK) (E : XK), Room k (A.deeper (envF L.nf f s.heap.objs.size)) → sp vs H Q E →
      ∃ t, PE (ncx CX P w K mg base N L.nf f A outer s H E) L.body t ∧ t (startF N vs ws) H Q) : LOk P w K mg base CX (k + 1) L ps fr ws sp := by
  refine ⟨len, fun f A outer s H us vs Q E hr e0 hf hc C r q => ?_⟩
  have lv := len _ _ _ _ q
  have lim : s.heap.NoLimit := e0.mod.nolimit.keeps fun _ _ e => (e0.bs _ _ e).1
  obtain ⟨pm, ctv, ho⟩ := lamO_at e0.hok hf
  refine PySem.W.kla_callFunE hr.depth ho rfl S.co S.gen rfl (codeO_at e0.hok hc) ?_
  rw [bd pm ctv us (r.length ▸ lv)]
  refine wpAny_pure (wpAny_newFunctionEnv S.nocell (fun ⟨n, _⟩ hy => S.par n (List.of_mem_zip hy).1) (fun h₁ hns hsb => ⟨lim.fresh _ hsb, ?_⟩) S.kind)
  have old : ∀ b o, s.heap.get? b = some o → h₁.get? b = some o := fun b o e => hsb.extBut b o (Nat.ne_of_lt (Heap.lt_size e)) (Heap.get?_push_of_some _ e)
  obtain ⟨t, pt, qt⟩ := go f A outer s H vs Q E (hr.deeper _) q
  have J : Inv (ncx CX P w K mg base N L.nf f A outer s H E) [] (startF N vs ws) H { s with heap := h₁, toks := s.toks + (ps.zip us).length } := inv_startN S hr.hd e0 lv r C hns old
  refine PySem.W.kla_codeExpr (wpAny_mono (pt.run [] _ (startF N vs ws) H Q J qt) (fun u s' z => ?_) fun _ _ z => z)
  obtain ⟨v, H', J', rv, z⟩ := z
  exact ⟨v, H', J'.os, J'.bare, J'.base, J'.hok, rv, z⟩
end
/-- x(..), x a local that holds one of the lambdas told by G -/
def tCallLam (i : Nat) (G : LF → Sp → Prop) (E : L2.St → XK) (t : TA) : TE := fun σ H Q => ∃ f L sp, σ[i]? = some (some (.ref f)) ∧ G L sp ∧ H f = some (LamO f L) ∧ t σ H fun vs H1 => H1 f = some (LamO f L) ∧ H1 L.c = some (CodeO L.c L.qual) ∧ sp vs H1 Q (E σ)
/-- what lambdas a frame may call: its promise, and what its cells hold all the while -/
def Knows (X : Cx) (CX : CXT) (k : Nat) (G : LF → Sp → Prop) : Prop := ∀ L sp, G L sp → ∃ ps fr ws, LOk X.prog X.w X.K X.mg X.base CX k L ps fr ws sp ∧ ∀ pins σ H s, Inv X pins σ H s → CellsAt L.cl fr ws s.heap H
section
variable {X : Cx} {CX : CXT} {k i : Nat} {x : Str} {G : LF → Sp → Prop} {E : L2.St → XK} {t : TA} {e : Expr} {es : List Expr} {p pos : Pos}
theorem pe_callLam (Kn : Knows X CX k G) (hr : Room k X.A) (hx : ∀ σ, PassesAt CX X σ (E σ)) (hN : X.N[i]? = some x) (hv : Vis X.env.scope x) (ha : PA X (e :: es) t) (hd : (x == ("__debug__" : Str)) = false := by decide) (hcd : (x == ("__classdict__" : Str)) = false := by decide)
    (he : starEach (e :: es) X.env = (false, eval e X.env) :: starEach es X.env := by rfl) (hpl : (backTo pos (starEach es X.env)).any (·.1) = false := by rfl) : PE X (.Call (.Name x p) (e :: es) [] pos) (tCallLam i G E t) := by
  refine ⟨fun pins s σ H Q I h => ?_⟩
  obtain ⟨f, L, sp, hs, g, hf, ht⟩ := h
  obtain ⟨ps, fr, ws, lo, cells⟩ := Kn L sp g
  have fa : ∀ {H : Hp} {s : Shared}, Inv X pins σ H s → H f = some (LamO f L) → PySem.W.FnAt f s.heap := fun J z => by
    obtain ⟨pm, ctv, o⟩ := lamO_at J.hok z
    exact ⟨_, _, _, _, o⟩
  refine wpAny_Call_Name_kw (thn ((pe_var (pos := p) hN hv hd hcd).run pins s σ H (fun v H1 => v = .ref f ∧ H1 = H) I ⟨.ref f, hs, rfl, rfl⟩) fun u s1 hh => ?_)
  obtain ⟨v, H1, I1, r1, rfl, rfl⟩ := hh
  cases r1
  refine PySem.W.callWith_F (first := []) (fa I1 hf) (thn (ha.run pos pins s1 σ _ _ I1 ht) fun us s2 hh => ?_) he hpl
  obtain ⟨vs, H2, I2, r, h1, h2, q⟩ := hh
  refine ⟨fa I2 h1, ?_⟩
  show wpAny _ _ (call (.ref f) us) _ _ _
  refine wpAny_call (codeAny_mono (lo.run f X.A X.stack s2 H2 us vs Q (E σ) hr I2.env0 h1 h2 (cells pins σ H2 s2 I2) r q) fun y s' z => ?_)
  match y, z with
  | .error e', z => exact hx σ pins H2 s2 e' s' I2 z
  | .ok (.ret u), z => exact I2.after z
end
end Qw

set_option Elab.async false
set_option linter.all false
set_option maxRecDepth 100000
set_option maxHeartbeats 4000000
/-! a law whose helpers make lambdas: their code objects' tables may grow -/
namespace Qw
open PySem L2 LamX PySem.Spec PyProof.Rows
abbrev tab0 : Obj := { cls := .none, data := .fields #[] }
/-- what is tracked at first: the tables, the script if it is not written in K -/
def Kind (K : PySem.W.Frag) (cs : List (Addr × Addr)) (a : Addr) (sc : Obj) (xs : List V) (H : Hp) : Prop :=
  ∀ b u, H b = some u → (u = .tbl #[] ∧ ∃ p ∈ cs, p.2 = b) ∨ (b = a ∧ K.lookup a = none ∧ u = .frz sc (.lst xs))
theorem law_callGT {P : Program} {w : World} {K : PySem.W.Frag} {mg mb : Str → Option Value} {k : Nat} {fa a : Addr} {fd : FuncData} {x : Str} {sp : Sp} {s : Shared} {vs : List Value} {ns : List Int} {cs : List (Addr × Addr)}
    (inK : K.In s.heap) (nsG : s.heap.Ns mainGlobals mg) (nsB : s.heap.Ns builtinsNs mb) (boot : ∀ x : Str, x ≠ "__name__" → mb x = bootBuiltins x)
    (nol : s.heap.NoLimit) (nog : s.gens = #[]) (at_a : s.heap.get? a = some { cls := .type "list", data := .seq vs.toArray }) (inZ : IntsAre vs ns)
    (few : ns.length ≤ sizeLine) (room : Room k callerA)
    (tabs : ∀ p ∈ cs, s.heap.get? p.2 = some tab0) (outK : ∀ p ∈ cs, K.lookup p.2 = none) (code : ∀ p ∈ cs, PySem.W.CodeHd s.heap p.1 p.2)
    (bmod : ∃ (m : Addr) (ob : Obj), mg "__builtins__" = some (.ref m) ∧ m ≠ builtinsNs ∧ s.heap.get? m = some ob ∧ ob.cls = .type "module" ∧ ob.dict = some builtinsNs ∧ ob.data = .plain)
    (F : ∀ base : Heap, K.In base → base.Ns mainGlobals mg → (∀ p ∈ cs, TabB base mg p.1 p.2) → FnG P w K mg base k fa fd [x] sp)
    (binds : ∀ (s : Shared) (u : Value), BindsTo s fd ⟨[u], []⟩ [(x, u)])
    (start : ∀ H : Hp, (∀ p ∈ cs, H p.2 = some (.tbl #[])) → ((∃ o, H a = some (.frz o (.lst (ns.map V.int)))) ∨ SqL K (fun _ => none) a (ns.map V.int)) → sp [.ref a] H (fun v _ => v = .bl true) E0) :
    codeAny (model P w) callerA (.call (.ref fa) ⟨[.ref a], []⟩)
      (fun r s' => r = .ok (.ret (.bool true)) ∧ OldK s.heap s'.heap ∧ s'.os = s.os ∧ AllBare s'.gens) s := by
  have lenV := inZ.length
  let sc : Obj := { cls := .type "list", data := .seq vs.toArray }
  have main : ∀ H : Hp, Kind K cs a sc (ns.map V.int) H → (∀ p ∈ cs, H p.2 = some (.tbl #[])) → ((∃ o, H a = some (.frz o (.lst (ns.map V.int)))) ∨ SqL K (fun _ => none) a (ns.map V.int)) →
      codeAny (model P w) callerA (.call (.ref fa) ⟨[.ref a], []⟩)
        (fun r s' => r = .ok (.ret (.bool true)) ∧ OldK s.heap s'.heap ∧ s'.os = s.os ∧ AllBare s'.gens) s := by
    intro H kd tb st
    have seen : ∀ {b : Addr} {u : HO}, H b = some u → K.lookup b = none ∧ (s.heap.get? b = some tab0 ∨ s.heap.get? b = some sc) := fun {b u} e => by
      rcases kd b u e with ⟨_, p, hp, rfl⟩ | ⟨rfl, h2, _⟩
      · exact ⟨outK p hp, .inl (tabs p hp)⟩
      · exact ⟨h2, .inr at_a⟩
    have hid : ∀ {b : Addr} {o : Obj}, s.heap.get? b = some o → o.data ≠ .fields #[] → (∀ vs n, o.data ≠ .seq vs n) → (hidT s.heap H).get? b = some o := fun {b o} e n1 n2 => by
      refine hidT_get e ?_
      cases q : H b with
      | none => rfl
      | some u =>
        rcases (seen q).2 with z | z
        · rw [e] at z
          exact absurd (congrArg Obj.data (Option.some.inj z)) n1
        · rw [e] at z
          exact absurd (congrArg Obj.data (Option.some.inj z)) (n2 _ _)
    have nsH : ∀ {b : Addr} {m : Str → Option Value}, s.heap.Ns b m → (hidT s.heap H).Ns b m := by
      rintro b m ⟨o, es, ep, e, d, r⟩
      exact ⟨o, es, ep, hid e (fun z => by rw [d] at z; cases z) (fun _ _ z => by rw [d] at z; cases z), d, r⟩
    have KH : K.In (hidT s.heap H) := fun b o e => by
      refine hidT_get (inK b o e) ?_
      cases q : H b with
      | none => rfl
      | some u =>
        rw [(seen q).1] at e
        cases e
    have MH : Mod K mg (hidT s.heap H) := by
      obtain ⟨mc, l1, l2⟩ := nol
      exact ⟨KH, nsH nsG, ⟨mb, nsH nsB, boot⟩, ⟨mc, nsH l1, l2⟩⟩
    have ok : HOk P w H s.heap := fun b u e => by
      rcases kd b u e with ⟨rfl, p, hp, rfl⟩ | ⟨rfl, _, rfl⟩
      · exact tabs p hp
      · exact ⟨at_a, by rw [List.length_map]; exact few, vs, _, vals_ints inZ, at_a⟩
    have TB : ∀ p ∈ cs, TabB (hidT s.heap H) mg p.1 p.2 := fun p hp => by
      refine ⟨?_, ?_, ?_⟩
      · obtain ⟨oc, fs, f1, f2, g1, g2, i1, i2, i3, c1, c2, c3, c4, rest⟩ := code p hp
        refine ⟨oc, fs, f1, f2, g1, g2, i1, i2, i3, hid c1 (fun z => ?_) (fun _ _ z => ?_), c2, c3, c4, rest⟩
        · rw [c3] at z
          have z := Data.fields.inj z
          rw [z] at c4
          simp at c4
        · rw [c3] at z; cases z
      · obtain ⟨m, ob, m1, m2, m3, m4, m5, m6⟩ := bmod
        refine ⟨m, ob, m1, m2, ?_, ?_, hid m3 (fun z => by rw [m6] at z; cases z) (fun _ _ z => by rw [m6] at z; cases z), m4, m5, m6⟩
        · rintro rfl
          obtain ⟨o, es, ep, e, d, _⟩ := nsG
          rw [e] at m3
          cases m3
          rw [d] at m6; cases m6
        · rintro rfl
          rw [tabs p hp] at m3
          cases m3
          cases m6
      · intro z
        obtain ⟨o, es, ep, e, d, _⟩ := nsG
        rw [z, tabs p hp] at e
        cases e
        cases d
    have env : Env0 P w K mg (hidT s.heap H) callerA [] s H :=
      ⟨rfl, MH, fun _ _ e => of_hidT e, Nat.le_of_eq (hidT_size _ _), trivial, fun b z => (by cases z), ok, .of_eq nog⟩
    have run := (F _ KH (nsH nsG) TB).runG callerA [] s H ⟨[.ref a], []⟩ [.ref a] [.ref a] _ _ free_caller room env (binds s (.ref a)) (.cons rfl .nil) (start H tb st)
    refine codeAny_mono run fun r s' h => ?_
    match r, h with
    | .error _, h => exact h.elim
    | .ok (.ret u), h =>
      obtain ⟨v, H', os, bare, un, ok', rv, q⟩ := h
      cases (show v = .bl true from q)
      cases (show u = Value.bool true from rv)
      have kept : ∀ b o, (∀ p ∈ cs, p.2 ≠ b) → s.heap.get? b = some o → s'.heap.get? b = some o := fun b o nb e => by
        cases q : H b with
        | none => exact un.keep b o e q (by intro y; cases y) (by simp)
        | some u =>
          rcases kd b u q with ⟨_, p, hp, z⟩ | ⟨rfl, _, rfl⟩
          · exact absurd z (nb p hp)
          · rw [at_a] at e
            cases e
            exact (ok' b _ (un.frzs b _ _ q)).1
      have more : ∀ p ∈ cs, ∃ add : Array Value, s'.heap.get? p.2 = some { cls := .none, data := .fields (#[] ++ add) } := fun p hp => by
        obtain ⟨add, z⟩ := un.tbls _ _ (tb p hp)
        exact ⟨add, ok' p.2 _ z⟩
      refine ⟨rfl, ⟨fun b o e => ?_, fun b o e => ?_⟩, os, bare⟩
      · by_cases hb : ∃ p ∈ cs, p.2 = b
        · obtain ⟨p, hp, rfl⟩ := hb
          obtain ⟨add, g⟩ := more p hp
          rw [tabs p hp] at e
          cases e
          exact .inr (.inl ⟨((code p hp).tab (tabs p hp)).isCodeTable, rfl, #[], add, rfl, g⟩)
        · exact .inl (kept b o (fun p hp z => hb ⟨p, hp, z⟩) e)
      · by_cases hb : ∃ p ∈ cs, p.2 = b
        · obtain ⟨p, hp, rfl⟩ := hb
          obtain ⟨add, g⟩ := more p hp
          exact ⟨_, g⟩
        · exact ⟨o, kept b o (fun p hp z => hb ⟨p, hp, z⟩) e⟩
  have apart : ∀ p ∈ cs, p.2 ≠ a := fun p hp z => by
    have e := tabs p hp
    rw [z, at_a] at e
    cases e
  rcases hk : K.lookup a with _ | o
  · refine main (fun b => if b = a then some (.frz sc (.lst (ns.map V.int))) else if ∃ p ∈ cs, p.2 = b then some (.tbl #[]) else none) (fun b u e => ?_) (fun p hp => ?_) (.inl ⟨sc, if_pos rfl⟩)
    · dsimp only at e
      split at e
      · rename_i ba
        exact .inr ⟨ba, hk, (Option.some.inj e).symm⟩
      · split at e
        · rename_i hb
          exact .inl ⟨(Option.some.inj e).symm, hb⟩
        · cases e
    · exact (if_neg (apart p hp)).trans (if_pos ⟨p, hp, rfl⟩)
  · have e := inK a o hk
    rw [at_a] at e
    cases e
    refine main (fun b => if ∃ p ∈ cs, p.2 = b then some (.tbl #[]) else none) (fun b u e => ?_) (fun p hp => if_pos ⟨p, hp, rfl⟩) (.inr (.inr ⟨_, vs.toArray, _, hk, rfl, rfl, rfl, by rw [List.size_toArray, lenV]; exact few, by simpa using vals_ints inZ⟩))
    dsimp only at e
    split at e
    · rename_i hb
      exact .inl ⟨(Option.some.inj e).symm, hb⟩
    · cases e
/-- such a law's end -/
theorem walk_ofGT {l : PySem.W.OpenLaw} {n k : Nat} {q : Program} {loose : List Str} {XP : (Str → Option Value) → Heap → Prop} {YP : World → Heap → Prop} {d : DefRec} {x : Str}
    (most : l.most = some n) (small : n ≤ sizeLine) (nodef : d.params.defaults = []) (room : Room k callerA)
    (F : ∀ (w : World) (mg : Str → Option Value) (fa : Addr) (h : Heap), YP w h → h.Ns mainGlobals mg → mg d.name = some (.ref fa) →
      ∃ (K : PySem.W.Frag) (fd : FuncData) (sp : Sp) (cs : List (Addr × Addr)), K.In h ∧ (∀ p ∈ cs, h.get? p.2 = some tab0 ∧ K.lookup p.2 = none ∧ PySem.W.CodeHd h p.1 p.2) ∧ (∀ (s : Shared) (u : Value), BindsTo s fd ⟨[u], []⟩ [(x, u)]) ∧
        (∀ (H : Hp) (a : Addr) (ns : List Int), ns.length ≤ n → (∀ p ∈ cs, H p.2 = some (.tbl #[])) → ((∃ o, H a = some (.frz o (.lst (ns.map V.int)))) ∨ SqL K (fun _ => none) a (ns.map V.int)) → sp [.ref a] H (fun v _ => v = .bl true) E0) ∧
        ∀ base : Heap, K.In base → base.Ns mainGlobals mg → (∀ p ∈ cs, TabB base mg p.1 p.2) → FnG l.prog w K mg base k fa fd [x] sp) : PySem.W.WalkO q loose XP YP l.row.toRowW d [] (fun f vs => PySem.call f vs) := by
  refine Att.attach_callB most nodef fun w _ s mg mb fa o pm cd doc a vs ns G Y ho hd hcd hmg hob hin hlen hbits hg => ?_
  obtain ⟨K, fd, sp, cs, KX, ht, hb, hsp, hF⟩ := F w mg fa _ Y G.T.g hmg
  exact law_callGT KX G.T.g G.T.b G.T.builtins G.T.nolimit hg hob hin (Nat.le_trans hlen small) room (fun p hp => (ht p hp).1) (fun p hp => (ht p hp).2.1) (fun p hp => (ht p hp).2.2) G.T.bmain hF hb fun H hT hS => hsp H a ns hlen hT hS
end Qw

set_option Elab.async false
set_option linter.all false
set_option maxRecDepth 100000
set_option maxHeartbeats 4000000
/-! cells lent to callees: there they stand in the abstract heap, each by its one object -/
namespace Qw
open PySem L2 LamX NdefX
/-- the object at a is o -/
def ObjO (a : Addr) (o : Obj) : HO := .ext fun h => h.get? a = some o
def lendH (cs : List (Addr × Obj)) (H : Hp) : Hp := fun b => match cs.lookup b with | some o => some (ObjO b o) | none => H b
def dropH (cs : List (Addr × Obj)) (H : Hp) : Hp := fun b => match cs.lookup b with | some _ => none | none => H b
theorem lend_out {cs : List (Addr × Obj)} {H : Hp} {b : Addr} (h : cs.lookup b = none) : lendH cs H b = H b := by
  unfold lendH; rw [h]
theorem drop_out {cs : List (Addr × Obj)} {H : Hp} {b : Addr} (h : cs.lookup b = none) : dropH cs H b = H b := by
  unfold dropH; rw [h]
theorem lend_in {cs : List (Addr × Obj)} {H : Hp} {b : Addr} {o : Obj} (h : cs.lookup b = some o) : lendH cs H b = some (ObjO b o) := by
  unfold lendH; rw [h]
theorem drop_in {cs : List (Addr × Obj)} {H : Hp} {b : Addr} {o : Obj} (h : cs.lookup b = some o) : dropH cs H b = none := by
  unfold dropH; rw [h]
theorem drop_lend {cs : List (Addr × Obj)} {H : Hp} (n : ∀ b o, cs.lookup b = some o → H b = none) : dropH cs (lendH cs H) = H := funext fun b => by
  cases e : cs.lookup b with
  | none => rw [drop_out e, lend_out e]
  | some o => rw [drop_in e, n b o e]
theorem lend_drop {cs : List (Addr × Obj)} {H : Hp} (n : ∀ b o, cs.lookup b = some o → H b = some (ObjO b o)) : lendH cs (dropH cs H) = H := funext fun b => by
  cases e : cs.lookup b with
  | none => rw [lend_out e, drop_out e]
  | some o => rw [lend_in e, n b o e]
/-- as an object that is tracked by something else than an own object -/
theorem lend_of {cs : List (Addr × Obj)} {H : Hp} {b : Addr} {u : HO} (n : ∀ b o, cs.lookup b = some o → H b = none) (e : H b = some u) : lendH cs H b = some u := by
  cases q : cs.lookup b with
  | none => rw [lend_out q]; exact e
  | some o => rw [n b o q] at e; cases e
theorem drop_of {cs : List (Addr × Obj)} {H : Hp} {b : Addr} {u : HO} (n : ∀ b o, cs.lookup b = some o → H b = some (ObjO b o)) (e : H b = some u) (ne : ∀ o, u ≠ ObjO b o) : dropH cs H b = some u := by
  cases q : cs.lookup b with
  | none => rw [drop_out q]; exact e
  | some o => rw [n b o q] at e; exact absurd (Option.some.inj e).symm (ne o)
theorem objO_tup {a : Addr} {o : Obj} {xs : List V} : HO.tup xs ≠ ObjO a o := fun z => by unfold ObjO at z; cases z
theorem objO_own {a b : Addr} {o : Obj} : HO.own b ≠ ObjO a o := fun z => by unfold ObjO at z; cases z
theorem objO_frz {a : Addr} {o ob : Obj} {u : HO} : HO.frz ob u ≠ ObjO a o := fun z => by unfold ObjO at z; cases z
theorem objO_tbl {a : Addr} {o : Obj} {ps : Array Value} : HO.tbl ps ≠ ObjO a o := fun z => by unfold ObjO at z; cases z
theorem objO_inj {a : Addr} {o o' : Obj} {h : Heap} {P : Program} {w : World} {H : Hp} (ok : HOk P w H h) (e : H a = some (ObjO a o)) : h.get? a = some o := (ok a _ e).1
section
variable {P : Program} {w : World} {K : PySem.W.Frag} {mg : Str → Option Value} {base : Heap} {A : Around} {out : List Env} {s : Shared} {H : Hp} {cs : List (Addr × Obj)}
theorem hok_lend {h : Heap} (ok : HOk P w H h) (n : ∀ b o, cs.lookup b = some o → H b = none ∧ h.get? b = some o) : HOk P w (lendH cs H) h := fun b u e => by
  cases q : cs.lookup b with
  | some o =>
    rw [lend_in q] at e
    cases e
    exact ⟨(n b o q).2, ⟨o, (n b o q).2⟩, fun h1 h2 p k => k o p⟩
  | none =>
    rw [lend_out q] at e
    exact (ok b u e).stay (fun _ _ _ z => z) (fun d z => lend_of (fun b o q => (n b o q).1) z) fun d xs z => lend_of (fun b o q => (n b o q).1) z
theorem hok_drop {h : Heap} (ok : HOk P w H h) (n : ∀ b o, cs.lookup b = some o → H b = some (ObjO b o)) : HOk P w (dropH cs H) h := fun b u e => by
  cases q : cs.lookup b with
  | some o => rw [drop_in q] at e; cases e
  | none =>
    rw [drop_out q] at e
    exact (ok b u e).stay (fun _ _ _ z => z) (fun d z => drop_of n z fun _ => objO_own) fun d xs z => drop_of n z fun _ => objO_tup
theorem env_lend (e : Env0 P w K mg base A out s H) (n : ∀ b o, cs.lookup b = some o → H b = none ∧ s.heap.get? b = some o ∧ base.get? b = none ∧ b ∉ frs out) : Env0 P w K mg base A out s (lendH cs H) :=
  ⟨e.frames, e.mod, fun b o q => ⟨(e.bs b o q).1, by
    cases z : cs.lookup b with
    | none => rw [lend_out z]; exact (e.bs b o q).2
    | some u => rw [(n b u z).2.2.1] at q; cases q⟩, e.bsz, e.funs, fun b q => by
    cases z : cs.lookup b with
    | none => rw [lend_out z]; exact e.frf b q
    | some u => exact absurd q (n b u z).2.2.2, hok_lend e.hok fun b o q => ⟨(n b o q).1, (n b o q).2.1⟩, e.bare⟩
theorem env_drop (e : Env0 P w K mg base A out s H) (n : ∀ b o, cs.lookup b = some o → H b = some (ObjO b o)) : Env0 P w K mg base A out s (dropH cs H) :=
  ⟨e.frames, e.mod, fun b o q => ⟨(e.bs b o q).1, by
    cases z : cs.lookup b with
    | none => rw [drop_out z]; exact (e.bs b o q).2
    | some u => exact drop_in z⟩, e.bsz, e.funs, fun b q => by
    cases z : cs.lookup b with
    | none => rw [drop_out z]; exact e.frf b q
    | some u => exact drop_in z, hok_drop e.hok n, e.bare⟩
/-- a call's end, its cells taken back -/
theorem ce_lend {Q Q' : VK} {u : Value} {s' : Shared} (n : ∀ b o, cs.lookup b = some o → H b = none ∧ s.heap.get? b = some o ∧ b ∉ frs out)
    (q : ∀ v H', Q' v H' → (∀ b o, cs.lookup b = some o → H' b = some (ObjO b o)) ∧ Q v (dropH cs H')) (c : CE out P w (lendH cs H) s Q' u s') : CE out P w H s Q u s' := by
  obtain ⟨v, H', os, bare, un, ok, rv, z⟩ := c
  obtain ⟨lent, z⟩ := q v H' z
  have n1 : ∀ b o, cs.lookup b = some o → H b = none := fun b o e => (n b o e).1
  refine ⟨v, dropH cs H', os, bare, ⟨fun b o g hb nf nx => ?_, fun b o g hb yf nx => ?_, fun b o g hb nx => ?_, un.there, fun b xs e => ?_, fun b o u e => ?_, fun b ps e => ?_⟩, hok_drop ok lent, rv, z⟩
  · cases y : cs.lookup b with
    | none => exact un.keep b o g (by rw [lend_out y]; exact hb) nf nx
    | some o' =>
      have g' := (n b o' y).2.1
      rw [g] at g'
      cases g'
      exact (ok b _ (lent b _ y)).1
  · cases y : cs.lookup b with
    | none => exact un.slot b o g (by rw [lend_out y]; exact hb) yf nx
    | some o' => exact absurd yf (n b o' y).2.2
  · cases y : cs.lookup b with
    | none => rw [drop_out y]; exact un.free b o g (by rw [lend_out y]; exact hb) nx
    | some o' => exact drop_in y
  · exact drop_of lent (un.tups b xs (lend_of n1 e)) fun _ => objO_tup
  · exact drop_of lent (un.frzs b o u (lend_of n1 e)) fun _ => objO_frz
  · obtain ⟨more, z⟩ := un.tbls b ps (lend_of n1 e)
    exact ⟨more, drop_of lent z fun _ => objO_tbl⟩
/-- a call's end, its cells lent again -/
theorem ce_drop {Q Q' : VK} {u : Value} {s' : Shared} (n : ∀ b o, cs.lookup b = some o → H b = some (ObjO b o) ∧ b ∉ frs out) (ok0 : HOk P w H s.heap)
    (q : ∀ v H', Q' v H' → (∀ b o, cs.lookup b = some o → H' b = none) → Q v (lendH cs H')) (c : CE out P w (dropH cs H) s Q' u s') : CE out P w H s Q u s' := by
  obtain ⟨v, H', os, bare, un, ok, rv, z⟩ := c
  have at0 : ∀ b o, cs.lookup b = some o → s.heap.get? b = some o := fun b o y => (ok0 b _ (n b o y).1).1
  have nil' : ∀ b o, cs.lookup b = some o → H' b = none := fun b o y => un.free b o (at0 b o y) (drop_in y) (by simp)
  have at1 : ∀ b o, cs.lookup b = some o → s'.heap.get? b = some o := fun b o y => un.keep b o (at0 b o y) (drop_in y) (n b o y).2 (by simp)
  have hl : ∀ {b u}, H' b = some u → lendH cs H' b = some u := fun {b u} e => lend_of nil' e
  have lt : ∀ {b u}, H b = some u → (∀ o, u ≠ ObjO b o) → dropH cs H b = some u := fun {b u} e ne => drop_of (fun b o y => (n b o y).1) e ne
  refine ⟨v, lendH cs H', os, bare, ⟨fun b o g hb nf nx => ?_, fun b o g hb yf nx => ?_, fun b o g hb nx => ?_, un.there, fun b xs e => hl (un.tups b xs (lt e fun _ => objO_tup)), fun b o u e => hl (un.frzs b o u (lt e fun _ => objO_frz)), fun b ps e => ?_⟩, hok_lend ok fun b o y => ⟨nil' b o y, at1 b o y⟩, rv, q v H' z nil'⟩
  · refine un.keep b o g ?_ nf nx
    cases y : cs.lookup b with
    | none => rw [drop_out y]; exact hb
    | some o' => exact drop_in y
  · refine un.slot b o g ?_ yf nx
    cases y : cs.lookup b with
    | none => rw [drop_out y]; exact hb
    | some o' => exact drop_in y
  · cases y : cs.lookup b with
    | none => rw [lend_out y]; exact un.free b o g (by rw [drop_out y]; exact hb) nx
    | some o' => rw [(n b o' y).1] at hb; cases hb
  · obtain ⟨more, z⟩ := un.tbls b ps (lt e fun _ => objO_tbl)
    exact ⟨more, hl z⟩
/-- .. of a call that let an exception out -/
theorem cx_drop {E E' : XK} {u : Value} {s' : Shared} (n : ∀ b o, cs.lookup b = some o → H b = some (ObjO b o) ∧ b ∉ frs out) (ok0 : HOk P w H s.heap)
    (q : ∀ cls d H', E' cls d H' → (∀ b o, cs.lookup b = some o → H' b = none) → E cls d (lendH cs H')) (c : L2.CX P w out (dropH cs H) s E' u s') : L2.CX P w out H s E u s' := by
  obtain ⟨x, B, H', cls, d, e, fl, ok, ub, na, os, bare, z⟩ := c
  have at0 : ∀ b o, cs.lookup b = some o → s.heap.get? b = some o := fun b o y => (ok0 b _ (n b o y).1).1
  have nil' : ∀ b o, cs.lookup b = some o → H' b = none := fun b o y => ub.free b o (at0 b o y) (drop_in y)
  have at1 : ∀ b o, cs.lookup b = some o → B.get? b = some o := fun b o y => ub.keep b o (at0 b o y) (drop_in y) (n b o y).2
  have hl : ∀ {b u}, H' b = some u → lendH cs H' b = some u := fun {b u} e => lend_of nil' e
  have lt : ∀ {b u}, H b = some u → (∀ o, u ≠ ObjO b o) → dropH cs H b = some u := fun {b u} e ne => drop_of (fun b o y => (n b o y).1) e ne
  refine ⟨x, B, lendH cs H', cls, d, e, fl, hok_lend ok fun b o y => ⟨nil' b o y, at1 b o y⟩, ⟨fun b o g hb nf => ?_, ub.slot, fun b o g hb => ?_, ub.there, fun b xs e => hl (ub.tups b xs (lt e fun _ => objO_tup)), fun b o u e => hl (ub.frzs b o u (lt e fun _ => objO_frz)), fun b ps e => ?_⟩, ?_, os, bare, q _ _ _ z nil'⟩
  · refine ub.keep b o g ?_ nf
    cases y : cs.lookup b with
    | none => rw [drop_out y]; exact hb
    | some o' => exact drop_in y
  · cases y : cs.lookup b with
    | none => rw [lend_out y]; exact ub.free b o g (by rw [drop_out y]; exact hb)
    | some o' => rw [(n b o' y).1] at hb; cases hb
  · obtain ⟨more, z⟩ := ub.tbls b ps (lt e fun _ => objO_tbl)
    exact ⟨more, hl z⟩
  · cases y : cs.lookup x with
    | none => rw [lend_out y]; exact na
    | some o' =>
      have := at1 x o' y
      rw [fl.2.1] at this
      cases this
end
/-! ### a frame's cells, lent to a callee -/
def LentF (X : Cx) (ys : List (Str × Nat)) (σ : L2.St) (cs : List (Addr × Obj)) (H : Hp) : Prop :=
  (∀ b o, cs.lookup b = some o → H b = none) ∧
  ∀ y ∈ ys, ∃ c o u, X.env.cells.lookup y.1 = some c ∧ cs.lookup c = some o ∧ o.data = .cell u ∧ ∀ v, σ[y.2]? = some (some v) → ∃ u', L2.RelV v u' ∧ u = some u'
theorem lookup_mem' {α β : Type} [BEq α] [LawfulBEq α] {c : α} {o : β} : ∀ {l : List (α × β)}, l.lookup c = some o → (c, o) ∈ l
  | [], h => (nomatch h)
  | (a, b) :: l, h => by
    rw [List.lookup_cons] at h
    split at h
    · rename_i e
      cases h
      rw [beq_iff_eq.mp e]
      exact .head _
    · exact .tail _ (lookup_mem' h)
theorem mem_lookup {α β : Type} [BEq α] [LawfulBEq α] {c : α} {o : β} : ∀ {l : List (α × β)}, (c, o) ∈ l → ∃ o', l.lookup c = some o'
  | (a, b) :: l, h => by
    rw [List.lookup_cons]
    split
    · exact ⟨_, rfl⟩
    · rename_i e
      rcases List.mem_cons.mp h with z | z
      · cases z
        simp at e
      · exact mem_lookup z
section
variable {X : Cx} {pins : List (Addr × Obj)} {σ : L2.St} {H : Hp} {s : Shared} {ys : List (Str × Nat)}
theorem lent_of (I : Inv X pins σ H s) (hy : ∀ y ∈ ys, X.N[y.2]? = some y.1 ∧ X.env.scope.names.lookup y.1 = some .cell ∧ X.fn y.1 = true) :
    ∃ cs, LentF X ys σ cs H ∧ ∀ b o, cs.lookup b = some o → H b = none ∧ s.heap.get? b = some o ∧ X.base.get? b = none ∧ b ∉ frs X.stack := by
  let f : Str × Nat → Option (Addr × Obj) := fun y => (X.env.cells.lookup y.1).bind fun c => (s.heap.get? c).map fun o => (c, o)
  have fm : ∀ {y c o}, f y = some (c, o) → X.env.cells.lookup y.1 = some c ∧ s.heap.get? c = some o := fun {y c o} e => by
    obtain ⟨c', e1, e2⟩ := Option.bind_eq_some_iff.mp e
    obtain ⟨o', e3, e4⟩ := Option.map_eq_some_iff.mp e2
    cases e4
    exact ⟨e1, e3⟩
  have of : ∀ {b o}, (ys.filterMap f).lookup b = some o → ∃ y ∈ ys, X.env.cells.lookup y.1 = some b ∧ s.heap.get? b = some o := fun {b o} e => by
    obtain ⟨y, m, e⟩ := List.mem_filterMap.mp (lookup_mem' e)
    exact ⟨y, m, fm e⟩
  obtain ⟨m, hn, hl⟩ := I.loc
  refine ⟨ys.filterMap f, ⟨fun b o e => ?_, fun y my => ?_⟩, fun b o e => ?_⟩
  · obtain ⟨y, _, e1, _⟩ := of e
    exact I.freeC _ _ e1
  · obtain ⟨h1, h2, h3⟩ := hy y my
    obtain ⟨c, hc⟩ := I.ok.has y.1 (.inl h2)
    obtain ⟨u, o, ho, hd⟩ := I.cell _ _ hc
    have mem : (c, o) ∈ ys.filterMap f := List.mem_filterMap.mpr ⟨y, my, by show ((X.env.cells.lookup y.1).bind fun c => (s.heap.get? c).map fun o => (c, o)) = some (c, o); rw [hc]; show ((s.heap.get? c).map fun o => (c, o)) = _; rw [ho]; rfl⟩
    obtain ⟨o', e'⟩ := mem_lookup mem
    obtain ⟨_, _, _, e2⟩ := of e'
    rw [ho] at e2
    cases e2
    refine ⟨c, o, u, hc, e', hd, fun v ev => ?_⟩
    obtain ⟨u', r, l⟩ := hl y.2 y.1 v h1 ev (.inr (.inl h2))
    rcases l with ⟨z, _⟩ | ⟨_, c', hc', o2, ho2, hd2⟩
    · have z : X.env.scope.names.lookup y.1 = some .local := z
      rw [h2] at z; cases z
    · rw [hc] at hc'
      cases hc'
      rw [ho] at ho2
      cases ho2
      rw [hd] at hd2
      exact ⟨u', r, by cases hd2; rfl⟩
  · obtain ⟨y, my, e1, e2⟩ := of e
    obtain ⟨h1, h2, h3⟩ := hy y my
    have big := I.ok.cab _ _ h3 e1
    refine ⟨I.freeC _ _ e1, e2, Heap.get?_none_of_le (Nat.le_trans I.ok.bsz big), fun z => ?_⟩
    obtain ⟨u, o', ho, hd⟩ := I.cell _ _ e1
    rcases List.mem_cons.mp (I.stkSub b z) with z | z
    · obtain ⟨ol, es, ep, el, dl, _⟩ := hn
      rw [← z, ho] at el
      cases el
      rw [hd] at dl
      cases dl
    · obtain ⟨_, ob, hb, _⟩ := I.ok.funs.mem z
      exact absurd (Heap.lt_size hb) (Nat.not_lt.mpr big)
end
def tCallLend (X : Cx) (ys : List (Str × Nat)) (sp : Sp) (t : TA) : TE := fun σ H Q => t σ H fun vs H1 => ∀ cs, LentF X ys σ cs H1 → sp vs (lendH cs H1) (fun v H2 => (∀ b o, cs.lookup b = some o → H2 b = some (ObjO b o)) ∧ Q v (dropH cs H2)) E0
section
variable {X : Cx} {k : Nat} {f : Addr} {fd : FuncData} {ps : List Str} {sp : Sp} {ys : List (Str × Nat)} {x : Str} {p pos : Pos} {e : Expr} {es : List Expr} {t : TA}
/-- f(..), the frame's cells lent -/
theorem pe_callLend (F : FnG X.prog X.w X.K X.mg X.base k f fd ps sp) (hf : Free X.A) (hr : Room k X.A) (hg : Gl X x) (hm : X.mg x = some (.ref f)) (hk : PySem.W.keepIn X.K (.ref f) = true) (hb : Binds X.K fd ps [])
    (hy : ∀ y ∈ ys, X.N[y.2]? = some y.1 ∧ X.env.scope.names.lookup y.1 = some .cell ∧ X.fn y.1 = true)
    (ha : PA X (e :: es) t) (hdb : (x == ("__debug__" : Str)) = false := by decide) (he : starEach (e :: es) X.env = (false, eval e X.env) :: starEach es X.env := by rfl)
    (hpl : (backTo pos (starEach es X.env)).any (·.1) = false := by rfl) : PE X (.Call (.Name x p) (e :: es) [] pos) (tCallLend X ys sp t) := by
  refine ⟨fun pins s σ H Q I h => wpAny_Call_Name_kw (ld_glob I hg hm ?_ hdb)⟩
  refine PySem.W.callWith_K (h₀ := X.base) I.ok.mod.kin hk ?_ he hpl
  refine thn (ha.run pos pins s σ H _ I h) fun us s1 ⟨vs, H1, I1, r, q⟩ => ⟨I1.kIn, ?_⟩
  obtain ⟨cs, lf, at_⟩ := lent_of I1 hy
  have q := q cs lf
  have hl : (us ++ []).length = ps.length := by
    rw [List.append_nil, ← r.length]
    exact F.lenG _ _ _ _ q
  have bd := hb s1 us I1.kIn hl
  rw [List.append_nil] at bd
  refine wpAny_call (codeAny_mono (F.runG X.A X.stack s1 _ ⟨us, []⟩ us vs _ E0 hf hr (env_lend I1.env0 at_) bd r q) fun y s' z => ?_)
  match y, z with
  | .error _, z => exact z.elim
  | .ok (.ret u), z => exact I1.after (ce_lend (fun b o e => ⟨(at_ b o e).1, (at_ b o e).2.1, (at_ b o e).2.2.2⟩) (fun v H' z => z) z)
end
/-! ### a lambda called whose cells are lent -/
/-- what lent cells tell of the captured names -/
structure CellsL (cl : List (Str × Addr)) (fr : List Str) (ws : List (Option V)) (cs : List (Addr × Obj)) (H : Hp) : Prop where
  lent : ∀ b o, cs.lookup b = some o → H b = some (ObjO b o)
  len : ws.length = fr.length
  all : ∀ y c, cl.lookup y = some c → ∃ o u, cs.lookup c = some o ∧ o.data = .cell u
  inj : ∀ x y c, cl.lookup x = some c → cl.lookup y = some c → x = y
  has : ∀ (i : Nat) (y : Str), fr[i]? = some y → ∃ c o, cl.lookup y = some c ∧ cs.lookup c = some o ∧ ∀ v, ws[i]? = some (some v) → ∃ u, L2.RelV v u ∧ o.data = .cell (some u)
theorem CellsL.at_ {P : Program} {w : World} {cl : List (Str × Addr)} {fr : List Str} {ws : List (Option V)} {cs : List (Addr × Obj)} {H : Hp} {h : Heap} (c : CellsL cl fr ws cs H) (ok : HOk P w H h) : CellsAt cl fr ws h (dropH cs H) := by
  have get : ∀ b o, cs.lookup b = some o → h.get? b = some o := fun b o e => (ok b _ (c.lent b o e)).1
  refine ⟨c.len, fun y a e => ?_, c.inj, fun i y e => ?_⟩
  · obtain ⟨o, u, h1, h2⟩ := c.all y a e
    exact ⟨drop_in h1, u, o, get a o h1, h2⟩
  · obtain ⟨a, o, h1, h2, h3⟩ := c.has i y e
    refine ⟨a, h1, fun v ev => ?_⟩
    obtain ⟨u, r, z⟩ := h3 v ev
    exact ⟨u, r, o, get a o h2, z⟩
def tCallLamL (X : Cx) (CX : CXT) (k : Nat) (i : Nat) (E : L2.St → XK) (t : TA) : TE := fun σ H Q => ∃ f L ps fr ws sp, σ[i]? = some (some (.ref f)) ∧ LOk X.prog X.w X.K X.mg X.base CX k L ps fr ws sp ∧ H f = some (LamO f L) ∧
  t σ H fun vs H1 => H1 f = some (LamO f L) ∧ H1 L.c = some (CodeO L.c L.qual) ∧ ∃ cs, CellsL L.cl fr ws cs H1 ∧ cs.lookup f = none ∧ cs.lookup L.c = none ∧ sp vs (dropH cs H1) (fun v H2 => (∀ b o, cs.lookup b = some o → H2 b = none) → Q v (lendH cs H2)) (fun cls d H2 => (∀ b o, cs.lookup b = some o → H2 b = none) → E σ cls d (lendH cs H2))
section
variable {X : Cx} {k i : Nat} {x : Str} {t : TA} {e : Expr} {es : List Expr} {p pos : Pos}
theorem pe_callLamL {CX : CXT} {E : L2.St → XK} (cxd : ∀ {out : List Env} {H : Hp} {s : Shared} {cs : List (Addr × Obj)} {E E' : XK} {u : Value} {s' : Shared}, (∀ b o, cs.lookup b = some o → H b = some (ObjO b o) ∧ b ∉ frs out) → HOk X.prog X.w H s.heap → (∀ cls d H', E' cls d H' → (∀ b o, cs.lookup b = some o → H' b = none) → E cls d (lendH cs H')) → CX out (dropH cs H) s E' u s' → CX out H s E u s')
    (hr : Room k X.A) (hx : ∀ σ, PassesAt CX X σ (E σ)) (hN : X.N[i]? = some x) (hv : Vis X.env.scope x) (ha : PA X (e :: es) t) (hd : (x == ("__debug__" : Str)) = false := by decide) (hcd : (x == ("__classdict__" : Str)) = false := by decide)
    (he : starEach (e :: es) X.env = (false, eval e X.env) :: starEach es X.env := by rfl) (hpl : (backTo pos (starEach es X.env)).any (·.1) = false := by rfl) : PE X (.Call (.Name x p) (e :: es) [] pos) (tCallLamL X CX k i E t) := by
  refine ⟨fun pins s σ H Q I h => ?_⟩
  obtain ⟨f, L, ps, fr, ws, sp, hs, lo, hf, ht⟩ := h
  have fa : ∀ {H : Hp} {s : Shared}, Inv X pins σ H s → H f = some (LamO f L) → PySem.W.FnAt f s.heap := fun J z => by
    obtain ⟨pm, ctv, o⟩ := lamO_at J.hok z
    exact ⟨_, _, _, _, o⟩
  refine wpAny_Call_Name_kw (thn ((pe_var (pos := p) hN hv hd hcd).run pins s σ H (fun v H1 => v = .ref f ∧ H1 = H) I ⟨.ref f, hs, rfl, rfl⟩) fun u s1 hh => ?_)
  obtain ⟨v, H1, I1, r1, rfl, rfl⟩ := hh
  cases r1
  refine PySem.W.callWith_F (first := []) (fa I1 hf) (thn (ha.run pos pins s1 σ _ _ I1 ht) fun us s2 hh => ?_) he hpl
  obtain ⟨vs, H2, I2, r, h1, h2, cs, cL, n1, n2, q⟩ := hh
  refine ⟨fa I2 h1, ?_⟩
  show wpAny _ _ (call (.ref f) us) _ _ _
  have cells := cL.at_ I2.hok
  have apart : ∀ b o, cs.lookup b = some o → H2 b = some (ObjO b o) ∧ b ∉ frs X.stack := fun b o e => ⟨cL.lent b o e, fun z => by
    have := I2.stkFree b z
    rw [cL.lent b o e] at this; cases this⟩
  have out1 : dropH cs H2 f = some (LamO f L) := (drop_out n1).trans h1
  have out2 : dropH cs H2 L.c = some (CodeO L.c L.qual) := (drop_out n2).trans h2
  refine wpAny_call (codeAny_mono (lo.run f X.A X.stack s2 (dropH cs H2) us vs _ _ hr (env_drop I2.env0 cL.lent) out1 out2 cells r q) fun y s' z => ?_)
  match y, z with
  | .error e', z => exact hx σ pins H2 s2 e' s' I2 (cxd apart I2.hok (fun _ _ _ z n => z n) z)
  | .ok (.ret u), z => exact I2.after (ce_drop apart I2.hok (fun _ _ z n => z n) z)
end
end Qw

set_option Elab.async false
set_option linter.all false
set_option maxRecDepth 100000
set_option maxHeartbeats 4000000
namespace Qw
open PySem L2
local macro_rules | `(tactic| walk_at "rd") => `(tactic| simp only [iEnum, iRng3, tRevL, rSlS, rSlL, gSub, rSetL, wipe, List.map_cons, List.map_nil, rAll, rAny, rIsi, tM1, tM0, iZipLT, iZip, iRng2, tLenSetS, rListStr, rMulS, rRep, rCntB, tRevS, rNeD, rEqD, tSeq, tNext, tAsg, tRet, tRetN, tDrop, tIfS, sFld, sFldAug, tVar, tC, tOp, tUn, tTest, tB, tAnd, tOr, tNot, tAndV, tOrV, tNotV, tIf, tTup, tLst, tCons, tNil, tCB, tCall, tMeth, tMake, tFld, rI, rI0, rU, rEq, rNe, rCat, gName, gTup, gCons, gNil, tPar, tPar3, tBM, tBM0, rAppend, rExtend, rPopAt, rIxL, rIxT, rIxS, tSl, rSlS, rSlL, tPart, tNoPart, iStr, iTup, iList, iRng1, tAug, ipI, L2.rAdd, L2.rSub, L2.rAddS, tChain, rIsB, rNotB, scal_ss, scal_ii, scal_bb, scal_nn, scal_in, scal_ni, tYes,
  cx_K, cx_N, List.getElem?_cons_zero, List.getElem?_cons_succ, List.set_cons_zero, List.set_cons_succ, List.nil_append, List.cons_append, List.append_nil, List.length_cons, List.length_nil, Nat.zero_add,
  Option.some.injEq, V.ref.injEq, V.int.injEq, V.str.injEq, V.bl.injEq, HO.ins.injEq, HO.lst.injEq, HO.tup.injEq, List.cons.injEq, exists_eq_left, exists_eq_left', exists_eq_right, exists_eq_right', and_true, true_and, exists_and_left, exists_and_right, and_assoc, decide_eq_true_eq, Bool.not_eq_true', decide_eq_false_iff_not, reduceCtorEq, exists_const, forall_const, if_true, if_false, false_and, and_false, ite_true, ite_false, Bool.true_eq_false, Bool.false_eq_true, Nat.reduceLeDiff, Nat.reduceAdd, small_line, small_lt, upd_ne, ne_eq, not_false_eq_true, Nat.zero_le, Prod.mk.injEq, upd_same, upd_upd, S_tl, S_len, S_app, S_one, S_inj,
  lk_breaks, lk_hard, lk_soft, lk_bend, lk_note, lk_rules, lk_state, lk_bent, lk_word, lk_begun, lk_opened, lk_place, pt_state, pt_bent, pt_word, pt_wordS, pt_wordN, pt_begun, pt_opened, pt_place, pt_place1, len_mf, litv_empty, litv_note, litv_nl, mf_inj, rf_inj, lkn_begin, lkn_ended, lkn_plain, lkn_quoted, lkn_step, lkn_fault, lkn_key, lkn_told, lkn_quotes, lkn_special, pt_open1, not_true_eq_false, not_false_eq_true])
local macro_rules | `(tactic| walk_at "rdh") => `(tactic| simp only [iEnum, iRng3, tRevL, rSlS, rSlL, gSub, rSetL, wipe, List.map_cons, List.map_nil, rAll, rAny, rIsi, tM1, tM0, iZipLT, iZip, iRng2, tLenSetS, rListStr, rMulS, rRep, rCntB, tRevS, rNeD, rEqD, tSeq, tNext, tAsg, tRet, tRetN, tDrop, tIfS, sFld, sFldAug, tVar, tC, tOp, tUn, tTest, tB, tAnd, tOr, tNot, tAndV, tOrV, tNotV, tIf, tTup, tLst, tCons, tNil, tCB, tCall, tMeth, tMake, tFld, rI, rI0, rU, rEq, rNe, rCat, gName, gTup, gCons, gNil, tPar, tPar3, tBM, tBM0, rAppend, rExtend, rPopAt, rIxL, rIxT, rIxS, tSl, rSlS, rSlL, tPart, tNoPart, iStr, iTup, iList, iRng1, tAug, ipI, L2.rAdd, L2.rSub, L2.rAddS, tChain, rIsB, rNotB, scal_ss, scal_ii, scal_bb, scal_nn, scal_in, scal_ni, tYes,
  cx_K, cx_N, List.getElem?_cons_zero, List.getElem?_cons_succ, List.set_cons_zero, List.set_cons_succ, List.nil_append, List.cons_append, List.append_nil, List.length_cons, List.length_nil, Nat.zero_add,
  Option.some.injEq, V.ref.injEq, V.int.injEq, V.str.injEq, V.bl.injEq, HO.ins.injEq, HO.lst.injEq, HO.tup.injEq, List.cons.injEq, exists_eq_left, exists_eq_left', exists_eq_right, exists_eq_right', and_true, true_and, exists_and_left, exists_and_right, and_assoc, decide_eq_true_eq, Bool.not_eq_true', decide_eq_false_iff_not, reduceCtorEq, exists_const, forall_const, if_true, if_false, false_and, and_false, ite_true, ite_false, Bool.true_eq_false, Bool.false_eq_true, Nat.reduceLeDiff, Nat.reduceAdd, small_line, small_lt, upd_ne, ne_eq, not_false_eq_true, Nat.zero_le, Prod.mk.injEq, upd_same, upd_upd, S_tl, S_len, S_app, S_one, S_inj,
  lk_breaks, lk_hard, lk_soft, lk_bend, lk_note, lk_rules, lk_state, lk_bent, lk_word, lk_begun, lk_opened, lk_place, pt_state, pt_bent, pt_word, pt_wordS, pt_wordN, pt_begun, pt_opened, pt_place, pt_place1, len_mf, litv_empty, litv_note, litv_nl, mf_inj, rf_inj, lkn_begin, lkn_ended, lkn_plain, lkn_quoted, lkn_step, lkn_fault, lkn_key, lkn_told, lkn_quotes, lkn_special, pt_open1, not_true_eq_false, not_false_eq_true, *])
local macro_rules | `(tactic| walk_at "pl") => `(tactic| (first | decide | (refine Nat.lt_of_le_of_lt (length_putF _ _ _) ?_; repeat (first | decide | refine pl2 ?_))))
local macro_rules | `(tactic| walk_at "al") => `(tactic| (intro p hp; generalize hH : upd _ p _ = H1; obtain ⟨S, e⟩ := gen_new hH hp; clear hH))
/-! ### what is refused -/
theorem cxK0 {CX : CXT} {P : Program} {w : World} {K : PySem.W.Frag} {mg : Str → Option Value} {base : Heap} {N : List Str} {q : Str} {sc : Scope} {f : Addr} {cd : Value} {A : Around} {o : List Env} {s : Shared} {H : Hp} {E : XK} : (L2.cxOf CX P w K mg base N q sc f cd A o s H E).K = K := rfl
theorem fn_or {P : Program} {w : World} {K : PySem.W.Frag} {mg : Str → Option Value} {base : Heap} {CX : CXT} {k : Nat} {f : Addr} {fd : FuncData} {ps : List Str} {s1 s2 : Sp} (F : FnOk P w K mg base CX k f fd ps s1) (G : FnOk P w K mg base CX k f fd ps s2) :
    FnOk P w K mg base CX k f fd ps (fun vs H Q E => s1 vs H Q E ∨ s2 vs H Q E) :=
  ⟨fun vs H Q E h => h.elim (F.len vs H Q E) (G.len vs H Q E), fun A o s H as us vs Q E hr e b r q => q.elim (F.run A o s H as us vs Q E hr e b r) (G.run A o s H as us vs Q E hr e b r)⟩
theorem _root_.L2.TyX.same {K : PySem.W.Frag} {H H' : Hp} {v : V} {t : Value} (h : TyX K H v t) (s : Same H H') : TyX K H' v t := by
  cases h with
  | base b =>
    refine .base ?_
    cases b with
    | non => exact .non
    | bl x => exact .bl x
    | int i => exact .int i
    | str x => exact .str x
    | flt x => exact .flt x
    | lst e => exact .lst (s _ _ e)
    | frz e => exact .frz (s _ _ e)
    | tup e => exact .tup (s _ _ e)
    | dK e => exact .dK (s _ _ e)
    | dT e => exact .dT (s _ _ e)
    | ins e a b c d f => exact .ins (s _ _ e) a b c d f
  | byt b => exact .byt b
  | set e => exact .set (s _ _ e)
  | kList e c => exact .kList e c
  | kTuple e c => exact .kTuple e c
  | kDict e c => exact .kDict e c
  | fTuple e => exact .fTuple (s _ _ e)
  | fDict e => exact .fDict (s _ _ e)
/-- no text of signs -/
def BadT (K : PySem.W.Frag) (H : Hp) (v : V) : Prop := (∃ t, TyX K H v t ∧ PySem.W.kitOne K t (.type "str") = some false) ∨ ∃ u : Tx, v = .str (S u) ∧ u.length ≤ 50000 ∧ u.all sgn = false
theorem BadT.same {K : PySem.W.Frag} {H H' : Hp} {v : V} (h : BadT K H v) (s : Same H H') : BadT K H' v := h.imp (fun ⟨t, a, b⟩ => ⟨t, a.same s, b⟩) id
/-- a part of rules, of at most m signs, as it is due -/
def PartB (K : PySem.W.Frag) (H : Hp) (v : V) (m : Int) (b : Bool) : Prop := (BadT K H v ∧ b = false) ∨ ∃ u : Tx, v = .str (S u) ∧ u.length ≤ 50000 ∧ u.all sgn = true ∧ b = decide ((u.length : Int) ≤ m)
theorem PartB.same {K : PySem.W.Frag} {H H' : Hp} {v : V} {m : Int} {b : Bool} (h : PartB K H v m b) (s : Same H H') : PartB K H' v m b := h.imp (fun ⟨a, b⟩ => ⟨a.same s, b⟩) id
section
variable {P : Program} {w : World} {K : PySem.W.Frag} {mg : Str → Option Value} {base : Heap} {a : Ad}
theorem err_BR (T : Txt K mg a) : ErrC K a.c_BadRules := ⟨T.ea_BadRules, T.eb_BadRules, T.ec_BadRules, T.ed_BadRules, T.ee_BadRules, T.i_Words.hn, T.i_Words.ht, T.ef_BadRules, T.eh_BadRules, T.ei_BadRules⟩
theorem err_BT (T : Txt K mg a) : ErrC K a.c_BadText := ⟨T.ea_BadText, T.eb_BadText, T.ec_BadText, T.ed_BadText, T.ee_BadText, T.i_Words.hn, T.i_Words.ht, T.ef_BadText, T.eh_BadText, T.ei_BadText⟩
theorem err_BW (T : Txt K mg a) : ErrC K a.c_BadWords := ⟨T.ea_BadWords, T.eb_BadWords, T.ec_BadWords, T.ed_BadWords, T.ee_BadWords, T.i_Words.hn, T.i_Words.ht, T.ef_BadWords, T.eh_BadWords, T.ei_BadWords⟩
theorem err_En (T : Txt K mg a) : ErrC K a.c_Ended := ⟨T.ea_Ended, T.eb_Ended, T.ec_Ended, T.ed_Ended, T.ee_Ended, T.i_Words.hn, T.i_Words.ht, T.ef_Ended, T.eh_Ended, T.ei_Ended⟩
theorem err_NW (T : Txt K mg a) : ErrC K a.c_NoWriting := ⟨T.ea_NoWriting, T.eb_NoWriting, T.ec_NoWriting, T.ed_NoWriting, T.ee_NoWriting, T.i_Words.hn, T.i_Words.ht, T.ef_NoWriting, T.eh_NoWriting, T.ei_NoWriting⟩
theorem err_QE (T : Txt K mg a) : ErrC K a.c_QuoteError := ⟨T.ea_QuoteError, T.eb_QuoteError, T.ec_QuoteError, T.ed_QuoteError, T.ee_QuoteError, T.i_Words.hn, T.i_Words.ht, T.ef_QuoteError, T.eh_QuoteError, T.ei_QuoteError⟩
def sp_are_signsN (K : PySem.W.Frag) : Sp := fun vs H Q _ => ∃ v t, vs = [v] ∧ TyX K H v t ∧ PySem.W.kitOne K t (.type "str") = some false ∧ ∀ H', Same H H' → Q (.bl false) H'
theorem ok_are_signsN (T : Txt K mg a) : FnOk P w K mg base CX0 1 a.f_are_signs a.d_are_signs P_are_signs (sp_are_signsN K) := by
  refine T.F_are_signs.ok sc_are_signs (fun vs H Q E h => ?_) (fun cdv A outer s H vs Q E hr h => ?_)
  · obtain ⟨v, t, rfl, _⟩ := h
    rfl
  · obtain ⟨v, t, rfl, ht, hk, k⟩ := h
    refine ⟨_,
(pss_one (ps_ret (pe_and (pe_callB (call_isi) (by rfl) T.b_isinstance (by decide +kernel) (pa_cons (pv 0) (pa_cons (pe_bltn (v := .ty "str") (u := .type "str") rfl T.b_str (by decide +kernel) rfl) pa_nil))) (pe_one (pe_callB (cr_all rfl) (by rfl) T.b_all (by decide +kernel) (pa_cons (pe_lc (own := [("sign", 1)]) (g := gName 1) (tt := tYes) rfl sc_are_signs.nd (pi_str (pv 0)) (blkOk_by (own := [("sign", 1)]) (N := N_are_signs) (sc := defScope st_are_signs) (by decide +kernel)) (fun _ _ _ _ _ => (pg_name (i := 1) sc_are_signs.nd rfl (by first | exact Or.inl rfl | exact Or.inr rfl))) (fun _ _ _ _ _ => pts_nil) (fun _ _ _ _ _ => (pe_or (pe_chain op_le_str op_le_str pe_str (pv 1) pe_str) (pe_one (pe_cmpR op_eq (pv 1) (pe_glob (v := .str ("\n" : Str)) rfl T.g_LINE_END ⟨_, rfl⟩) (nomark _)))))) pa_nil))))))
      , ?_⟩
    rw [show start N_are_signs [v] = [some v, none] from rfl]
    walk_at "rdh"
    exact ⟨_, _, .ty _, ht, _, hk, ite2 (fun z => by cases z) (fun _ => k H (Same.refl _))⟩
def sp_are2 (K : PySem.W.Frag) (a : Ad) : Sp := fun vs H Q E => sp_are_signs a vs H Q E ∨ sp_are_signsN K vs H Q E
theorem ok_are2 (T : Txt K mg a) : FnOk P w K mg base CX0 1 a.f_are_signs a.d_are_signs P_are_signs (sp_are2 K a) := fn_or (ok_are_signs T) (ok_are_signsN T)
theorem are_bad {H : Hp} {v : V} {Q : VK} {E : XK} (b : BadT K H v) (k : ∀ H', Same H H' → Q (.bl false) H') : sp_are2 K a [v] H Q E := by
  rcases b with ⟨t, h1, h2⟩ | ⟨u, rfl, h1, h2⟩
  · exact .inr ⟨v, t, rfl, h1, h2, k⟩
  · exact .inl ⟨u, rfl, h1, fun H' s => by rw [h2]; exact k H' s⟩
/-- no rules -/
def sp_Rules_initX (K : PySem.W.Frag) (a : Ad) : Sp := fun vs H Q E => ∃ (p dx : Addr) (v0 v1 v2 v3 v4 : V) (b0 b1 b2 b3 b4 : Bool), vs = [.ref p, v0, v1, v2, v3, v4] ∧ H p = some (.ins a.c_Rules dx []) ∧
  PartB K H v0 4 b0 ∧ PartB K H v1 2 b1 ∧ PartB K H v2 2 b2 ∧ PartB K H v3 1 b3 ∧ PartB K H v4 1 b4 ∧
  ([b0, b1, b2, b3, b4].all id = false ∨ ([b0, b1, b2, b3, b4].all id = true ∧ ∃ r : RS, v0 = .str (S r.breaks) ∧ v1 = .str (S r.hard) ∧ v2 = .str (S r.soft) ∧ v3 = .str (S r.bend) ∧ v4 = .str (S r.note) ∧ r.every.length ≤ 10 ∧ (r.breaks = [] ∨ (r.breaks ≠ [] ∧ (uniq r.every).length < r.every.length)))) ∧
  ∀ H', Same H H' → E (.ref a.c_BadRules) none H'
theorem ok_Rules_initX (T : Txt K mg a) : FnOk P w K mg base (L2.CX P w) 2 a.f_Rules_init a.d_Rules_init P_Rules_init (sp_Rules_initX K a) := by
  refine T.F_Rules_init.ok sc_Rules_init (fun vs H Q E h => ?_) (fun cdv A outer s H vs Q E hr h => ?_)
  · obtain ⟨p, dx, v0, v1, v2, v3, v4, b0, b1, b2, b3, b4, rfl, _⟩ := h
    rfl
  · obtain ⟨p, dx, v0, v1, v2, v3, v4, b0, b1, b2, b3, b4, rfl, hM, q0, q1, q2, q3, q4, hb, k⟩ := h
    have G_are_signs := ok_are2 (P := P) (w := w) (base := base) T
    have B_are_signs := bi_are_signs T
    refine ⟨_,
(pss_cons (ps_set (i := 6) sc_Rules_init.nd rfl (by first | exact Or.inl rfl | exact Or.inr rfl) (pe_lst (pa_cons (pv 1) (pa_cons (pv 2) (pa_cons (pv 3) (pa_cons (pv 4) (pa_cons (pv 5) pa_nil)))))))
    (pss_cons (ps_if (PW.pt (pw_or (pt_not (pt_val (pe_callB (cr_all rfl) (by rfl) T.b_all (by decide +kernel) (pa_cons (pe_lc (own := [("part", 8), ("most", 9)]) (g := gTup _ 2 (gCons (gName 8) (gCons (gName 9) (gNil)))) (tt := tYes) rfl sc_Rules_init.nd (pi_zipLT rfl T.b_zip (pa_cons (pv 6) (pa_cons (pe_glob (v := .ref a.a_MOST) rfl T.g_MOST rfl) pa_nil))) (blkOk_by (own := [("part", 8), ("most", 9)]) (N := N_Rules_init) (sc := defScope st_Rules_init) (by decide +kernel)) (fun _ _ _ _ _ => (pg_tup rfl (pgs_cons (pg_name (i := 8) sc_Rules_init.nd rfl (by first | exact Or.inl rfl | exact Or.inr rfl)) (pgs_cons (pg_name (i := 9) sc_Rules_init.nd rfl (by first | exact Or.inl rfl | exact Or.inr rfl)) pgs_nil)))) (fun _ _ _ _ _ => pts_nil) (fun _ _ _ _ _ => (pe_and (pe_call G_are_signs (hr.mono (by decide)) rfl T.f_are_signs.g T.f_are_signs.k B_are_signs .nil pass0 (pa_cons (pv 8) pa_nil)) (pe_one (pe_cmpR op_le (pe_callB call_len_str (by rfl) T.b_len PySem.boot_len (pa_cons (pv 8) pa_nil)) (pv 9) (nomark _)))))) pa_nil)))) (pw_or1 (pt_cmpR op_eq (pv 1) pe_str (nomark _))))) (pss_one (ps_raise rfl (takes_of rfl rfl rfl rfl) (pmk_own PySem.F.excBase_ValueError T.ex_BadRules T.eg_BadRules.g T.ei_BadRules (raises_own T.ec_BadRules T.eh_BadRules) rfl))) pss_nil)
    (pss_cons (ps_set (i := 7) sc_Rules_init.nd rfl (by first | exact Or.inl rfl | exact Or.inr rfl) (pe_join pe_str (pv 6)))
    (pss_cons (ps_if (pt_cmpR op_lt (pe_lenSetS rfl rfl T.b_len rfl T.b_set (pv 7)) (pe_callB call_len_str (by rfl) T.b_len PySem.boot_len (pa_cons (pv 7) pa_nil)) (nomark _)) (pss_one (ps_raise rfl (takes_of rfl rfl rfl rfl) (pmk_own PySem.F.excBase_ValueError T.ex_BadRules T.eg_BadRules.g T.ei_BadRules (raises_own T.ec_BadRules T.eh_BadRules) rfl))) pss_nil)
    (pss_cons (ps_fld (pv 0) (pv 1) rfl)
    (pss_cons (ps_fld (pv 0) (pv 2) rfl)
    (pss_cons (ps_fld (pv 0) (pv 3) rfl)
    (pss_cons (ps_fld (pv 0) (pv 4) rfl)
    (pss_one (ps_fld (pv 0) (pv 5) rfl))))))))))
      , ?_⟩
    rw [show start N_Rules_init [V.ref p, v0, v1, v2, v3, v4] = [some (.ref p), some v0, some v1, some v2, some v3, some v4, none, none, none, none] from rfl]
    simp only [cxK0]
    walk_at "rd"
    intro l hl
    have S1 := same_new (o := HO.lst [v0, v1, v2, v3, v4]) hl
    have hL : upd H l (HO.lst [v0, v1, v2, v3, v4]) l = _ := upd_same
    generalize upd H l (HO.lst [v0, v1, v2, v3, v4]) = H1 at *
    have sm := T.s_MOST
    refine tlc_map (α := V × Int × Bool) [(v0, 4, b0), (v1, 2, b1), (v2, 2, b2), (v3, 1, b3), (v4, 1, b4)] (fun z => .bl z.2.2) (J := ItzLT K l a.a_MOST) (H1 := H1)
      (G := fun H => SqL K H l [v0, v1, v2, v3, v4] ∧ SqT K H a.a_MOST [.int 4, .int 2, .int 2, .int 1, .int 1]) (fun R hR => ?_) (walk_zipLT rfl) (by simp only [List.length_cons, List.length_nil]; omega) (fun H s => ⟨.inl (.inl (s _ _ hL)), sm H⟩) ?_ ?_
    · walk_at "rd"
      exact ⟨⟨_, .inl (.inl hL)⟩, ⟨_, sm _⟩, hR⟩
    · rintro R R' i ⟨c, n, b⟩ x H2 H3 hi s1 ⟨t, x, y, rfl, ht, rfl, hx, hy⟩ hR
      have hxy : x = c ∧ y = .int n ∧ PartB K H c n b := by
        match i, hi, hx, hy with
        | 0, hi, hx, hy => cases hi; cases hx; cases hy; exact ⟨rfl, rfl, q0⟩
        | 1, hi, hx, hy => cases hi; cases hx; cases hy; exact ⟨rfl, rfl, q1⟩
        | 2, hi, hx, hy => cases hi; cases hx; cases hy; exact ⟨rfl, rfl, q2⟩
        | 3, hi, hx, hy => cases hi; cases hx; cases hy; exact ⟨rfl, rfl, q3⟩
        | 4, hi, hx, hy => cases hi; cases hx; cases hy; exact ⟨rfl, rfl, q4⟩
      obtain ⟨rfl, rfl, g⟩ := hxy
      walk_at "rdh"
      refine ⟨_, .inl (.inl upd_same), rfl, _, _, rfl, _, _, rfl, rfl, ?_⟩
      replace g := g.same ((S1.trans s1).trans (same_new (o := HO.tup [x, .int n]) ht))
      rcases g with ⟨g, rfl⟩ | ⟨u, rfl, g1, g2, rfl⟩
      · refine are_bad g fun H4 s4 => ?_
        walk_at "rdh"
        exact hR _ ((same_new ht).trans s4)
      · refine .inl ⟨u, rfl, g1, fun H4 s4 => ?_⟩
        rw [g2]
        walk_at "rdh"
        exact ⟨Nat.le_trans (show u.length ≤ 50000 from g1) (by decide), hR _ ((same_new ht).trans s4)⟩
    · intro D H2 hD s1 e
      walk_at "rdh"
      refine ⟨[b0, b1, b2, b3, b4], .inl (.inl e), ?_⟩
      have sH2 := S1.trans s1
      rcases hb with hb | ⟨hb, r, rfl, rfl, rfl, rfl, rfl, ev, hd⟩
      · rw [hb]
        refine ite2 (fun _ => k _ sH2) (fun z => absurd rfl z)
      rw [hb]
      refine ite2 (fun z => by cases z) (fun _ => ?_)
      refine ⟨rfl, ite2 (fun z => k _ sH2) (fun z => ?_)⟩
      have hu : (uniq r.every).length < r.every.length := by
        rcases hd with hd | hd
        · exact absurd (by rw [hd]) z
        · exact hd.2
      have jn : Txt.join (S []) [S r.breaks, S r.hard, S r.soft, S r.bend, S r.note] = S r.every := by
        have := join_flat [r.breaks, r.hard, r.soft, r.bend, r.note]
        simpa [RS.every] using this
      refine ⟨⟨_, rfl⟩, [S r.breaks, S r.hard, S r.soft, S r.bend, S r.note], .inl (.inl (.inl (s1 _ _ hL))), ?_, ?_⟩
      · have := ev
        simp only [RS.every, List.length_append] at this
        simp only [List.map_cons, List.map_nil, List.sum_cons, List.sum_nil, S_len, List.length_cons, List.length_nil]; omega
      · rw [jn]
        refine ⟨_, rfl, by omega, ?_⟩
        walk_at "rdh"
        refine ⟨Nat.le_trans ev (by decide), ?_⟩
        exact ite2 (fun _ => trivial) (fun c => absurd (show ((uniq r.every).length : Int) < (r.every.length : Nat) by omega) c)
/-! ### texts, pieces -/
/-- no text, or one of too many signs -/
def LongT (K : PySem.W.Frag) (H : Hp) (v : V) : Prop := BadT K H v ∨ ∃ t : Tx, v = .str (S t) ∧ t.all sgn = true ∧ 400 < t.length ∧ t.length ≤ 50000
def sp_splitX (K : PySem.W.Frag) (a : Ad) : Sp := fun vs H Q E => ∃ u v, vs = [u, v] ∧ LongT K H v ∧ ∀ H', Same H H' → E (.ref a.c_BadText) none H'
theorem ok_splitX (T : Txt K mg a) : FnOk P w K mg base (L2.CX P w) 2 a.f_split a.d_split P_split (sp_splitX K a) := by
  refine T.F_split.okX sc_split (fun vs H Q E h => ?_) (fun cdv A outer s H vs Q E hr h => ?_)
  · obtain ⟨u, v, rfl, _⟩ := h
    rfl
  · obtain ⟨u, v, rfl, hv, k⟩ := h
    have G_are_signs := ok_are2 (P := P) (w := w) (base := base) T
    have B_are_signs := bi_are_signs T
    refine ⟨_,
(pss_cons (ps_if (PW.pt (pw_or (pt_not (pt_val (pe_call G_are_signs (hr.mono (by decide)) rfl T.f_are_signs.g T.f_are_signs.k B_are_signs .nil pass0 (pa_cons (pv 1) pa_nil)))) (pw_or1 (pt_cmpR op_gt (pe_callB call_len_str (by rfl) T.b_len PySem.boot_len (pa_cons (pv 1) pa_nil)) (pe_glob (v := .int 400) rfl T.g_LONGEST ⟨_, rfl⟩) (nomark _))))) (pss_one (ps_raise rfl (takes_of rfl rfl rfl rfl) (pmk_own PySem.F.excBase_ValueError T.ex_BadText T.eg_BadText.g T.ei_BadText (raises_own T.ec_BadText T.eh_BadText) rfl))) pss_nil)
    (pss_cons ps_never
    (pss_cons (ps_if (pt_cmpR op_isN (pv 2) pe_non (nomark _)) (pss_one ps_never) pss_nil)
    (pss_one ps_never))))
      , ?_⟩
    rw [show start N_split [u, v] = [some u, some v, none, none, none] from rfl]
    simp only [cxK0]
    walk_at "rd"
    rcases hv with hv | ⟨t, rfl, h1, h2, h3⟩
    · exact are_bad hv fun H' s' => ⟨false, rfl, ite2 (fun _ => k _ s') (fun z => absurd rfl z)⟩
    · refine .inl ⟨t, rfl, h3, fun H' s' => ⟨_, rfl, ?_⟩⟩
      rw [h1]
      refine ite2 (fun z => by cases z) (fun _ => ?_)
      exact ⟨_, rfl, by rw [S_len]; exact Nat.le_trans h3 (by decide), ite2 (fun _ => k _ s') (fun z => absurd (by rw [S_len]; omega) z)⟩
def sp_takeB (K : PySem.W.Frag) (a : Ad) : Sp := fun vs H Q E => ∃ u v, vs = [u, v] ∧ BadT K H v ∧ ∀ H', Same H H' → E (.ref a.c_BadText) none H'
theorem ok_takeB (T : Txt K mg a) : FnOk P w K mg base (L2.CX P w) 4 a.f_Splitter_take a.d_Splitter_take P_Splitter_take (sp_takeB K a) := by
  refine T.F_Splitter_take.okX sc_Splitter_take (fun vs H Q E h => ?_) (fun cdv A outer s H vs Q E hr h => ?_)
  · obtain ⟨u, v, rfl, _⟩ := h
    rfl
  · obtain ⟨u, v, rfl, hv, k⟩ := h
    have G_are_signs := ok_are_signs (P := P) (w := w) (base := base) T
    have B_are_signs := bi_are_signs T
    have G_Machine_step := ok_Machine_step (P := P) (w := w) (base := base) T
    have B_Machine_step := bi_Machine_step T
    have G_are_signs := ok_are2 (P := P) (w := w) (base := base) T
    refine ⟨_,
(pss_cons (ps_if (pt_not (pt_val (pe_call G_are_signs (hr.mono (by decide)) rfl T.f_are_signs.g T.f_are_signs.k B_are_signs .nil pass0 (pa_cons (pv 1) pa_nil)))) (pss_one (ps_raise rfl (takes_of rfl rfl rfl rfl) (pmk_own PySem.F.excBase_ValueError T.ex_BadText T.eg_BadText.g T.ei_BadText (raises_own T.ec_BadText T.eh_BadText) rfl))) pss_nil)
    (pss_cons (ps_if (pt_val (pe_fld (pv 0) rfl)) (pss_one (ps_raise rfl (takes_of rfl rfl rfl rfl) (pmk_own PySem.F.excBase_ValueError T.ex_Ended T.eg_Ended.g T.ei_Ended (raises_own T.ec_Ended T.eh_Ended) rfl))) pss_nil)
    (pss_cons (ps_set (i := 2) sc_Splitter_take.nd rfl (by first | exact Or.inl rfl | exact Or.inr rfl) (pe_callB call_len_seq (by rfl) T.b_len PySem.boot_len (pa_cons (pe_fld (pv 0) rfl) pa_nil)))
    (pss_cons (ps_for (passes_of rfl) rfl (pi_str (pv 1)) (pg_name (i := 3) sc_Splitter_take.nd rfl (by first | exact Or.inl rfl | exact Or.inr rfl))
    (pss_one (ps_expr (pe_bm PySem.F.plainAttrs_list PySem.F.slot_list_extend PySem.F.type_list_extend mt_extend (pe_fld (pv 0) rfl) (pa_cons (pe_meth (pe_fld (pv 0) rfl) T.c_Machine.cl T.m_Machine_step G_Machine_step (hr.mono (by decide)) B_Machine_step .nil pass0 (pa_cons (pv 3) pa_nil)) pa_nil)))))
    (pss_one (ps_ret (pe_lc (own := [("pair", 4)]) (g := gName 4) (tt := tYes) rfl sc_Splitter_take.nd (pi_list (pe_slice sl_list (pe_fld (pv 0) rfl) (po_some (pv 2)) po_none)) (blkOk_by (own := [("pair", 4)]) (N := N_Splitter_take) (sc := defScope st_Splitter_take) (by decide +kernel)) (fun _ _ _ _ _ => (pg_name (i := 4) sc_Splitter_take.nd rfl (by first | exact Or.inl rfl | exact Or.inr rfl))) (fun _ _ _ _ _ => pts_nil) (fun _ _ _ _ _ => (pe_ix (ix_tupK (K := K) rfl) (pv 4) pe_int (fun _ _ => rfl))))))))))
      , ?_⟩
    rw [show start N_Splitter_take [u, v] = [some u, some v, none, none, none] from rfl]
    simp only [cxK0]
    walk_at "rd"
    exact are_bad hv fun H' s' => ⟨false, rfl, ite2 (fun _ => k _ s') (fun z => absurd rfl z)⟩
/-- a splitter whose end was told -/
def Over (a : Ad) (H : Hp) (p : Addr) : Prop := ∃ dx mp fl, H p = some (.ins a.c_Splitter dx (SF mp fl true))
theorem Over.same {a : Ad} {H H' : Hp} {p : Addr} (h : Over a H p) (s : Same H H') : Over a H' p := by
  obtain ⟨dx, mp, fl, e⟩ := h
  exact ⟨dx, mp, fl, s _ _ e⟩
def sp_takeX (a : Ad) : Sp := fun vs H Q E => ∃ p t, vs = [.ref p, .str (S t)] ∧ Over a H p ∧ t.length ≤ 50000 ∧ t.all sgn = true ∧ ∀ H', Same H H' → E (.ref a.c_Ended) none H'
theorem ok_Splitter_takeX (T : Txt K mg a) : FnOk P w K mg base (L2.CX P w) 4 a.f_Splitter_take a.d_Splitter_take P_Splitter_take (sp_takeX a) := by
  refine T.F_Splitter_take.okX sc_Splitter_take (fun vs H Q E h => ?_) (fun cdv A outer s H vs Q E hr h => ?_)
  · obtain ⟨p, t, rfl, _⟩ := h
    rfl
  · obtain ⟨p, t, rfl, ⟨dx, mp, fl, hS⟩, hl, hs, k⟩ := h
    have G_are_signs := ok_are_signs (P := P) (w := w) (base := base) T
    have B_are_signs := bi_are_signs T
    have G_Machine_step := ok_Machine_step (P := P) (w := w) (base := base) T
    have B_Machine_step := bi_Machine_step T
    refine ⟨_,
(pss_cons (ps_if (pt_not (pt_val (pe_call G_are_signs (hr.mono (by decide)) rfl T.f_are_signs.g T.f_are_signs.k B_are_signs .nil pass0 (pa_cons (pv 1) pa_nil)))) (pss_one (ps_raise rfl (takes_of rfl rfl rfl rfl) (pmk_own PySem.F.excBase_ValueError T.ex_BadText T.eg_BadText.g T.ei_BadText (raises_own T.ec_BadText T.eh_BadText) rfl))) pss_nil)
    (pss_cons (ps_if (pt_val (pe_fld (pv 0) rfl)) (pss_one (ps_raise rfl (takes_of rfl rfl rfl rfl) (pmk_own PySem.F.excBase_ValueError T.ex_Ended T.eg_Ended.g T.ei_Ended (raises_own T.ec_Ended T.eh_Ended) rfl))) pss_nil)
    (pss_cons (ps_set (i := 2) sc_Splitter_take.nd rfl (by first | exact Or.inl rfl | exact Or.inr rfl) (pe_callB call_len_seq (by rfl) T.b_len PySem.boot_len (pa_cons (pe_fld (pv 0) rfl) pa_nil)))
    (pss_cons (ps_for (passes_of rfl) rfl (pi_str (pv 1)) (pg_name (i := 3) sc_Splitter_take.nd rfl (by first | exact Or.inl rfl | exact Or.inr rfl))
    (pss_one (ps_expr (pe_bm PySem.F.plainAttrs_list PySem.F.slot_list_extend PySem.F.type_list_extend mt_extend (pe_fld (pv 0) rfl) (pa_cons (pe_meth (pe_fld (pv 0) rfl) T.c_Machine.cl T.m_Machine_step G_Machine_step (hr.mono (by decide)) B_Machine_step .nil pass0 (pa_cons (pv 3) pa_nil)) pa_nil)))))
    (pss_one (ps_ret (pe_lc (own := [("pair", 4)]) (g := gName 4) (tt := tYes) rfl sc_Splitter_take.nd (pi_list (pe_slice sl_list (pe_fld (pv 0) rfl) (po_some (pv 2)) po_none)) (blkOk_by (own := [("pair", 4)]) (N := N_Splitter_take) (sc := defScope st_Splitter_take) (by decide +kernel)) (fun _ _ _ _ _ => (pg_name (i := 4) sc_Splitter_take.nd rfl (by first | exact Or.inl rfl | exact Or.inr rfl))) (fun _ _ _ _ _ => pts_nil) (fun _ _ _ _ _ => (pe_ix (ix_tupK (K := K) rfl) (pv 4) pe_int (fun _ _ => rfl))))))))))
      , ?_⟩
    rw [show start N_Splitter_take [V.ref p, V.str (S t)] = [some (.ref p), some (.str (S t)), none, none, none] from rfl]
    simp only [cxK0]
    have hc := T.c_Splitter.cl
    have n3 := T.n_Splitter_over
    walk_at "rd"
    refine ⟨t, rfl, by omega, fun H0 s0 => ⟨_, rfl, ?_⟩⟩
    rw [hs]
    refine ite2 (fun z => by cases z) (fun _ => ?_)
    refine ⟨_, _, _, s0 _ _ hS, hc, n3, _, lk_over _ _ _, _, rfl, ite2 (fun _ => ?_) (fun z => absurd rfl z)⟩
    exact k _ s0
def sp_endX (a : Ad) : Sp := fun vs H Q E => ∃ p, vs = [.ref p] ∧ Over a H p ∧ ∀ H', Same H H' → E (.ref a.c_Ended) none H'
theorem ok_Splitter_endX (T : Txt K mg a) : FnOk P w K mg base (L2.CX P w) 3 a.f_Splitter_end a.d_Splitter_end P_Splitter_end (sp_endX a) := by
  refine T.F_Splitter_end.okX sc_Splitter_end (fun vs H Q E h => ?_) (fun cdv A outer s H vs Q E hr h => ?_)
  · obtain ⟨p, rfl, _⟩ := h
    rfl
  · obtain ⟨p, rfl, ⟨dx, mp, fl, hS⟩, k⟩ := h
    have G_Machine_fault := ok_Machine_fault (P := P) (w := w) (base := base) T
    have B_Machine_fault := bi_Machine_fault T
    have G_Fault_init := ok_Fault_init (P := P) (w := w) (base := base) T
    have B_Fault_init := bi_Fault_init T
    have G_Machine_ended := ok_Machine_ended (P := P) (w := w) (base := base) T
    have B_Machine_ended := bi_Machine_ended T
    have G_Words_init := ok_Words_init (P := P) (w := w) (base := base) T
    have B_Words_init := bi_Words_init T
    refine ⟨_,
(pss_cons (ps_if (pt_val (pe_fld (pv 0) rfl)) (pss_one (ps_raise rfl (takes_of rfl rfl rfl rfl) (pmk_own PySem.F.excBase_ValueError T.ex_Ended T.eg_Ended.g T.ei_Ended (raises_own T.ec_Ended T.eh_Ended) rfl))) pss_nil)
    (pss_cons (ps_fld (pv 0) pe_bl rfl)
    (pss_cons (ps_set (i := 1) sc_Splitter_end.nd rfl (by first | exact Or.inl rfl | exact Or.inr rfl) (pe_meth0 (pe_fld (pv 0) rfl) T.c_Machine.cl T.m_Machine_fault G_Machine_fault (hr.mono (by decide)) B_Machine_fault .nil pass0))
    (pss_cons (ps_if (pt_cmpR op_notN (pv 1) pe_non (nomark _)) (pss_one (ps_ret (pe_make T.c_Fault.mc G_Fault_init (hr.mono (by decide)) rfl T.c_Fault.g B_Fault_init .nil pass0 (pa_cons (pv 1) pa_nil)))) pss_nil)
    (pss_cons (ps_set (i := 2) sc_Splitter_end.nd rfl (by first | exact Or.inl rfl | exact Or.inr rfl) (pe_op op_cat (pe_fld (pv 0) rfl) (pe_meth0 (pe_fld (pv 0) rfl) T.c_Machine.cl T.m_Machine_ended G_Machine_ended (hr.mono (by decide)) B_Machine_ended .nil pass0)))
    (pss_one (ps_ret (pe_make T.c_Words.mc G_Words_init (hr.mono (by decide)) rfl T.c_Words.g B_Words_init .nil pass0 (pa_cons (pe_lc (own := [("pair", 3)]) (g := gName 3) (tt := tYes) rfl sc_Splitter_end.nd (pi_list (pv 2)) (blkOk_by (own := [("pair", 3)]) (N := N_Splitter_end) (sc := defScope st_Splitter_end) (by decide +kernel)) (fun _ _ _ _ _ => (pg_name (i := 3) sc_Splitter_end.nd rfl (by first | exact Or.inl rfl | exact Or.inr rfl))) (fun _ _ _ _ _ => pts_nil) (fun _ _ _ _ _ => (pe_ix (ix_tupK (K := K) rfl) (pv 3) pe_int (fun _ _ => rfl)))) (pa_cons (pe_lc (own := [("pair", 3)]) (g := gName 3) (tt := tYes) rfl sc_Splitter_end.nd (pi_list (pv 2)) (blkOk_by (own := [("pair", 3)]) (N := N_Splitter_end) (sc := defScope st_Splitter_end) (by decide +kernel)) (fun _ _ _ _ _ => (pg_name (i := 3) sc_Splitter_end.nd rfl (by first | exact Or.inl rfl | exact Or.inr rfl))) (fun _ _ _ _ _ => pts_nil) (fun _ _ _ _ _ => (pe_ix (ix_tupK (K := K) rfl) (pv 3) pe_int (fun _ _ => rfl)))) pa_nil))))))))))
      , ?_⟩
    rw [show start N_Splitter_end [V.ref p] = [some (.ref p), none, none, none] from rfl]
    simp only [cxK0]
    have hc := T.c_Splitter.cl
    have n3 := T.n_Splitter_over
    walk_at "rd"
    refine ⟨_, _, _, hS, hc, n3, _, lk_over _ _ _, _, rfl, ite2 (fun _ => ?_) (fun z => absurd rfl z)⟩
    exact k _ (Same.refl _)
/-! ### two rules -/
/-- no rules -/
def NoR (K : PySem.W.Frag) (a : Ad) (H : Hp) (v : V) : Prop := ∃ T, TyX K H v (.type T) ∧ PySem.W.subIn K (.type T) (.ref a.c_Rules) = some false
theorem sub_b {K : PySem.W.Frag} {C : Addr} : PySem.W.subIn K (.type "int") (.ref C) = some false ∧ PySem.W.subIn K (.type "NoneType") (.ref C) = some false ∧ PySem.W.subIn K (.type "str") (.ref C) = some false ∧ PySem.W.subIn K (.type "tuple") (.ref C) = some false ∧ PySem.W.subIn K (.type "list") (.ref C) = some false := ⟨by kernel_rfl, by kernel_rfl, by kernel_rfl, by kernel_rfl, by kernel_rfl⟩
def IsR (a : Ad) (H : Hp) (v : V) : Prop := ∃ p dr fs, v = .ref p ∧ H p = some (.ins a.c_Rules dr fs)
def sp_comparedX (K : PySem.W.Frag) (a : Ad) : Sp := fun vs H Q E => ∃ u v, vs = [u, v] ∧ ((NoR K a H u ∧ IsR a H v) ∨ (IsR a H u ∧ NoR K a H v)) ∧ ∀ H', Same H H' → E (.ref a.c_BadRules) none H'
theorem kit_bref {K : PySem.W.Frag} {C : Addr} {T : String} (hs : PySem.W.subIn K (.type T) (.ref C) = some false) (hd : PySem.W.hasDictIn K C = true) (ht : PySem.W.typeIn K (.ref C) = some (.type "type")) : PySem.W.kitOne K (.type T) (.ref C) = some false := by
  obtain ⟨cd, hc, _⟩ := PySem.W.any_some hd
  have e2 : ((PySem.W.clsIn K C).isSome && PySem.W.typeIn K (.ref C) == some (.type "type")) = true := by
    rw [hc, ht]
    rfl
  show (if (Value.type T == Value.ref C) = true then some true else if ((PySem.W.clsIn K C).isSome && PySem.W.typeIn K (.ref C) == some (.type "type")) = true then PySem.W.subIn K (.type T) (.ref C) else none) = some false
  rw [if_neg (fun z => by cases (beq_iff_eq.mp z)), if_pos e2, hs]
theorem ok_comparedX (T : Txt K mg a) : FnOk P w K mg base (L2.CX P w) 2 a.f_compared a.d_compared P_compared (sp_comparedX K a) := by
  refine T.F_compared.okX sc_compared (fun vs H Q E h => ?_) (fun cdv A outer s H vs Q E hr h => ?_)
  · obtain ⟨u, v, rfl, _⟩ := h
    rfl
  · obtain ⟨u, v, rfl, hv, k⟩ := h
    refine ⟨_,
(pss_cons (ps_if (PW.pt (pw_or (pt_not (pt_val (pe_callB (call_isi) (by rfl) T.b_isinstance (by decide +kernel) (pa_cons (pv 0) (pa_cons (pe_glob (v := .ref a.c_Rules) rfl T.c_Rules.g rfl) pa_nil))))) (pw_or1 (pt_not (pt_val (pe_callB (call_isi) (by rfl) T.b_isinstance (by decide +kernel) (pa_cons (pv 1) (pa_cons (pe_glob (v := .ref a.c_Rules) rfl T.c_Rules.g rfl) pa_nil)))))))) (pss_one (ps_raise rfl (takes_of rfl rfl rfl rfl) (pmk_own PySem.F.excBase_ValueError T.ex_BadRules T.eg_BadRules.g T.ei_BadRules (raises_own T.ec_BadRules T.eh_BadRules) rfl))) pss_nil)
    (pss_cons ps_never
    (pss_one ps_never)))
      , ?_⟩
    rw [show start N_compared [u, v] = [some u, some v, none] from rfl]
    simp only [cxK0]
    walk_at "rd"
    have isR : ∀ {v}, IsR a H v → TyX K H v (.ref a.c_Rules) := fun {v} ⟨p, dr, fs, e, h⟩ => by
      subst e
      exact .base (.ins h T.c_Rules.cl T.i_Rules.ha T.i_Rules.hn T.i_Rules.ht T.i_Rules.hm)
    rcases hv with ⟨⟨t, h1, h2⟩, hv⟩ | ⟨hu, ⟨t, h1, h2⟩⟩
    · exact ⟨_, _, .own _, h1, _, kit_bref h2 T.xh_Rules T.xt_Rules, ite2 (fun _ => k _ (Same.refl _)) (fun z => absurd rfl z)⟩
    · exact ⟨_, _, .own _, isR hu, _, T.k_RR, ite2 (fun z => by cases z) (fun _ => ⟨_, _, .own _, h1, _, kit_bref h2 T.xh_Rules T.xt_Rules, ite2 (fun _ => k _ (Same.refl _)) (fun z => absurd rfl z)⟩)⟩
theorem oex_NW (T : Txt K mg a) : OexC K a.c_NoWriting := ⟨T.xc_NoWriting, T.sa_NoWriting, T.ec_NoWriting, T.eh_NoWriting, T.ei_NoWriting⟩
def sp_NoWriting_init (a : Ad) : Sp := fun vs H Q _ => ∃ (p : Addr) (n : Int), vs = [.ref p, .int n] ∧ H p = some (exo p a.c_NoWriting none) ∧
  ∀ dx, H dx = none → dx ≠ p → Q .non (upd (upd H dx (exd dx [("at", .int n)])) p (exo p a.c_NoWriting (some dx)))
theorem ok_NoWriting_init (T : Txt K mg a) : FnOk P w K mg base CX0 1 a.f_NoWriting_init a.d_NoWriting_init P_NoWriting_init (sp_NoWriting_init a) := by
  refine T.F_NoWriting_init.ok sc_NoWriting_init (fun vs H Q E h => ?_) (fun cdv A outer s H vs Q E hr h => ?_)
  · obtain ⟨p, n, rfl, _⟩ := h
    rfl
  · obtain ⟨p, n, rfl, hp, k⟩ := h
    refine ⟨_,
(pss_cons (ps_expr (pe_upinit rfl T.eg_QuoteError.g T.qr_QuoteError T.qg_QuoteError T.qv_QuoteError (pa_cons (pv 0) (pa_cons pe_str pa_nil))))
    (pss_one (ps_ost (pv 0) (pv 1))))
      , ?_⟩
    rw [show start N_NoWriting_init [V.ref p, V.int n] = [some (.ref p), some (.int n)] from rfl]
    walk_at "rd"
    simp only [tVeI, tOst]
    walk_at "rd"
    exact ⟨_, oex_NW T, hp, _, oex_NW T, T.at_NoWriting, .inl ⟨hp, fun dx h1 h2 => k dx h1 h2⟩⟩
/-- the first word that can't be written is told -/
def sp_shortestX (a : Ad) : Sp := fun vs H Q E => ∃ (p dr : Addr) (r : RS) (l : Addr) (ws : List Tx) (n : Nat), vs = [.ref p, .ref l] ∧ H p = some (.ins a.c_Rules dr (RS.f r)) ∧ r.Ok ∧ H l = some (.lst (ws.map fun w => .str (S w))) ∧ ws.length ≤ 8 ∧ (∀ w ∈ ws, w.all sgn = true ∧ w.length ≤ 12) ∧
  n < ws.length ∧ (∀ m w, ws[m]? = some w → m ≤ n → cannotT r w = decide (m = n)) ∧ ∀ H' d, Same H H' → H' d = some (.xd [("at", .int (n : Nat))]) → E (.ref a.c_NoWriting) (some d) H'
theorem ok_shortestX (T : Txt K mg a) : FnOk P w K mg base (L2.CX P w) 6 a.f_shortest a.d_shortest P_shortest (sp_shortestX a) := by
  refine T.F_shortest.okX sc_shortest (fun vs H Q E h => ?_) (fun cdv A outer s H vs Q E hr h => ?_)
  · obtain ⟨p, dr, r, l, ws, n, rfl, _⟩ := h
    rfl
  · obtain ⟨p, dr, r, l, ws, n, rfl, hR, ok, hl, hn, hw, nl, hcn, k⟩ := h
    have G_are_signs := ok_are_signs (P := P) (w := w) (base := base) T
    have B_are_signs := bi_are_signs T
    have G_cannot := ok_cannot (P := P) (w := w) (base := base) T
    have B_cannot := bi_cannot T
    have G_one_written := ok_one_written (P := P) (w := w) (base := base) T
    have B_one_written := bi_one_written T
    have G_Shortest_init := ok_Shortest_init (P := P) (w := w) (base := base) T
    have B_Shortest_init := bi_Shortest_init T
    have G_NoWriting_init := ok_NoWriting_init (P := P) (w := w) (base := base) T
    have B_NoWriting_init := bi_NoWriting_init T
    refine ⟨_,
(pss_cons (ps_if (PW.pt (pw_or (pt_not (pt_val (pe_callB (call_isi) (by rfl) T.b_isinstance (by decide +kernel) (pa_cons (pv 1) (pa_cons (pe_bltn (v := .ty "list") (u := .type "list") rfl T.b_list (by decide +kernel) rfl) pa_nil))))) (pw_or1 (pt_cmpR op_gt (pe_callB call_len_seq (by rfl) T.b_len PySem.boot_len (pa_cons (pv 1) pa_nil)) (pe_glob (v := .int 8) rfl T.g_MOST_WORDS ⟨_, rfl⟩) (nomark _))))) (pss_one (ps_raise rfl (takes_of rfl rfl rfl rfl) (pmk_own PySem.F.excBase_ValueError T.ex_BadWords T.eg_BadWords.g T.ei_BadWords (raises_own T.ec_BadWords T.eh_BadWords) rfl))) pss_nil)
    (pss_cons (ps_if (pt_not (pt_val (pe_callB (cr_all rfl) (by rfl) T.b_all (by decide +kernel) (pa_cons (pe_lc (own := [("word", 2)]) (g := gName 2) (tt := tYes) rfl sc_shortest.nd (pi_list (pv 1)) (blkOk_by (own := [("word", 2)]) (N := N_shortest) (sc := defScope st_shortest) (by decide +kernel)) (fun _ _ _ _ _ => (pg_name (i := 2) sc_shortest.nd rfl (by first | exact Or.inl rfl | exact Or.inr rfl))) (fun _ _ _ _ _ => pts_nil) (fun _ _ _ _ _ => (pe_and (pe_call G_are_signs (hr.mono (by decide)) rfl T.f_are_signs.g T.f_are_signs.k B_are_signs .nil pass0 (pa_cons (pv 2) pa_nil)) (pe_one (pe_cmpR op_le (pe_callB call_len_str (by rfl) T.b_len PySem.boot_len (pa_cons (pv 2) pa_nil)) (pe_glob (v := .int 12) rfl T.g_LONGEST_WORD ⟨_, rfl⟩) (nomark _)))))) pa_nil)))) (pss_one (ps_raise rfl (takes_of rfl rfl rfl rfl) (pmk_own PySem.F.excBase_ValueError T.ex_BadWords T.eg_BadWords.g T.ei_BadWords (raises_own T.ec_BadWords T.eh_BadWords) rfl))) pss_nil)
    (pss_cons (ps_for (passes_of rfl) rfl (pi_enum (by rfl) T.b_enumerate (pa_cons (pv 1) pa_nil)) (pg_tup rfl (pgs_cons (pg_name (i := 3) sc_shortest.nd rfl (by first | exact Or.inl rfl | exact Or.inr rfl)) (pgs_cons (pg_name (i := 2) sc_shortest.nd rfl (by first | exact Or.inl rfl | exact Or.inr rfl)) pgs_nil)))
    (pss_one (ps_if (pt_val (pe_call G_cannot (hr.mono (by decide)) rfl T.f_cannot.g T.f_cannot.k B_cannot .nil pass0 (pa_cons (pv 0) (pa_cons (pv 2) pa_nil)))) (pss_one (ps_raise rfl (takes_of rfl rfl rfl rfl) (pmk_oex (oex_NW T) T.ui_NoWriting T.ti_NoWriting G_NoWriting_init (hr.mono (by decide)) B_NoWriting_init .nil pass0 rfl T.eg_NoWriting.g (pa_cons (pv 3) pa_nil)))) pss_nil)))
    (pss_cons (ps_setLc (i := 4) (own := [("word", 2)]) (g := gName 2) (tt := tYes) rfl sc_shortest.nd rfl rfl (sw_true rfl rfl rfl (by decide +kernel)) (pi_list (pv 1)) (blkOk_by (own := [("word", 2)]) (N := N_shortest) (sc := defScope st_shortest) (by decide +kernel)) (fun _ _ _ _ _ => (pg_name (i := 2) sc_shortest.nd rfl (by first | exact Or.inl rfl | exact Or.inr rfl))) (fun _ _ _ _ _ => pts_nil) (fun _ _ _ _ _ => (pe_call G_one_written (hr.mono (by decide)) rfl T.f_one_written.g T.f_one_written.k B_one_written .nil pass0 (pa_cons (pv 0) (pa_cons (pv 2) pa_nil)))))
    (pss_one (ps_ret (pe_make T.c_Shortest.mc G_Shortest_init (hr.mono (by decide)) rfl T.c_Shortest.g B_Shortest_init .nil pass0 (pa_cons (pe_join (pe_ix ix_str (pe_fld (pv 0) rfl) pe_int (fun _ _ => rfl)) (pe_lc (own := [("pair", 5)]) (g := gName 5) (tt := tYes) rfl sc_shortest.nd (pi_list (pv 4)) (blkOk_by (own := [("pair", 5)]) (N := N_shortest) (sc := defScope st_shortest) (by decide +kernel)) (fun _ _ _ _ _ => (pg_name (i := 5) sc_shortest.nd rfl (by first | exact Or.inl rfl | exact Or.inr rfl))) (fun _ _ _ _ _ => pts_nil) (fun _ _ _ _ _ => (pe_ix (ix_tupK (K := K) rfl) (pv 5) pe_int (fun _ _ => rfl))))) (pa_cons (pe_lc (own := [("pair", 5)]) (g := gName 5) (tt := tYes) rfl sc_shortest.nd (pi_list (pv 4)) (blkOk_by (own := [("pair", 5)]) (N := N_shortest) (sc := defScope st_shortest) (by decide +kernel)) (fun _ _ _ _ _ => (pg_name (i := 5) sc_shortest.nd rfl (by first | exact Or.inl rfl | exact Or.inr rfl))) (fun _ _ _ _ _ => pts_nil) (fun _ _ _ _ _ => (pe_ix (ix_tupK (K := K) rfl) (pv 5) pe_int (fun _ _ => rfl)))) pa_nil)))))))))
      , ?_⟩
    rw [show start N_shortest [V.ref p, V.ref l] = [some (.ref p), some (.ref l), none, none, none, none] from rfl]
    simp only [cxK0]
    have hlen : (ws.map fun w => V.str (S w)).length = ws.length := List.length_map _
    refine tseq_split (fun σ' H' => σ' = [some (.ref p), some (.ref l), none, none, none, none] ∧ H' = H) (fun N hN => ?_) ?_
    · walk_at "rd"
      refine ⟨_, _, .ty _, .base (.lst hl), _, kit_ty (b := "list") (r := true) (by decide +kernel), ?_⟩
      refine ite2 (fun c => by cases c) (fun _ => ?_)
      refine ⟨_, .inl (.inl (.inl hl)), ?_⟩
      refine ite2 (fun c => absurd c (by rw [hlen]; omega)) (fun _ => ?_)
      exact hN _ _ ⟨rfl, rfl⟩
    rintro σ' H0 ⟨rfl, rfl⟩
    refine tseq_split (fun σ' H' => (∃ v2, σ' = [some (.ref p), some (.ref l), v2, none, none, none]) ∧ Same H0 H') (fun N hN => ?_) ?_
    · walk_at "rd"
      refine tlc_map ws (fun _ => .bl true) (J := Itl K l) (H1 := H0) (G := fun H => SqL K H l (ws.map fun w => .str (S w))) (fun R hR => ?_) (hlen ▸ walk_list) (by omega) (fun H s => .inl (.inl (s _ _ hl))) ?_ ?_
      · walk_at "rd"
        exact ⟨⟨_, .inl (.inl hl)⟩, hR⟩
      · rintro R R' j u x H2 H2' hj s2 ⟨rfl, hx⟩ hk
        rw [List.getElem?_map, hj] at hx
        cases hx
        obtain ⟨g1, g2⟩ := hw u (List.mem_of_getElem? hj)
        walk_at "rdh"
        refine ⟨u, rfl, by omega, fun H4 s4 => ?_⟩
        have hk := hk H4 s4
        rw [g1]
        walk_at "rd"
        rw [decide_eq_true (show ((u.length : Nat) : Int) ≤ 12 by omega)]
        exact ⟨line_le (by omega), hk⟩
      · intro D H2 hD s2 e2
        walk_at "rd"
        refine ⟨ws.map fun _ => true, .inl (.inl (by rw [List.map_map]; exact e2)), ?_⟩
        refine ite2 (fun c => ?_) (fun _ => hN _ _ ⟨⟨_, rfl⟩, s2⟩)
        exfalso
        rw [List.all_map, Bool.eq_false_iff] at c
        exact c (List.all_eq_true.mpr fun _ _ => rfl)
    rintro σ' H1 ⟨⟨v2, rfl⟩, S1⟩
    refine tseq_split (fun σ' H' => False) (fun N hN => ?_) (fun _ _ h => h.elim)
    refine tfor_it (J := Ite K l) (H1 := H1) (n := ws.length) (G := fun H => SqL K H l (ws.map fun w => .str (S w))) (fun R hR => ?_) (hlen ▸ walk_enum) (fun i σ H' => (∃ v2 v3, σ = [some (.ref p), some (.ref l), v2, v3, none, none]) ∧ Same H0 H' ∧ i ≤ n) ⟨⟨_, _, rfl⟩, S1, Nat.zero_le _⟩ (fun _ _ _ _ h => .inl (.inl (h.2.1 _ _ hl))) ?_ ?_
    · walk_at "rd"
      exact ⟨⟨_, .inl (.inl (S1 _ _ hl))⟩, hR⟩
    · rintro i x σ H2 H2' hi ⟨⟨v2, v3, rfl⟩, S2, hin⟩ ⟨T0, x1, x2, rfl, hT0, rfl, hx1, hx2⟩
      dsimp only at hx2
      rw [List.getElem?_map] at hx2
      obtain ⟨u, hu, rfl⟩ := Option.map_eq_some_iff.mp hx2
      cases hx1
      obtain ⟨g1, g2⟩ := hw u (List.mem_of_getElem? hu)
      walk_at "rdh"
      refine ⟨_, .inl (.inl upd_same), rfl, _, _, rfl, _, _, rfl, rfl, p, dr, r, u, rfl, (S2.trans (same_new hT0)).trans (Same.refl _) _ _ hR, ok, by omega, fun H4 s4 => ⟨_, rfl, ?_⟩⟩
      have S4 := (S2.trans (same_new hT0)).trans s4
      rw [hcn i u hu hin]
      by_cases e : i = n
      · subst e
        rw [decide_eq_true rfl]
        refine ite2 (fun _ => ?_) (fun c => absurd rfl c)
        simp only [tMkO]
        walk_at "rd"
        intro b hb
        refine ⟨b, (i : Nat), rfl, upd_same, fun dx hdx ne => ⟨rfl, dx, upd_same, _, ?_, none_upd hdx, k _ dx (fun c o ec => ?_) upd_same⟩⟩
        · rw [upd_ne ne, upd_same]
        · have e4 := S4 _ _ ec
          have nb := ne_of_none e4 hb
          have nd := ne_of_none e4 (none_upd hdx)
          rw [upd_ne nd, del_ne nb, upd_ne nb, upd_ne nd, upd_ne nb]
          exact e4
      · rw [decide_eq_false e]
        exact ite2 (fun c => by cases c) (fun _ => ⟨⟨_, rfl⟩, S4, by omega⟩)
    · rintro σ H2 ⟨_, _, h⟩
      omega
/-! ### no words -/
/-- no list of few short words -/
def BadW (K : PySem.W.Frag) (H : Hp) (v : V) : Prop := (∃ t, TyX K H v t ∧ PySem.W.kitOne K t (.type "list") = some false) ∨ ∃ l xs, v = .ref l ∧ H l = some (.lst xs) ∧ (8 < xs.length ∨ (xs.length ≤ 8 ∧ ∃ zs : List (V × Bool), xs = zs.map (·.1) ∧ (∀ z ∈ zs, PartB K H z.1 12 z.2) ∧ (zs.map (·.2)).all id = false))
theorem BadW.same {K : PySem.W.Frag} {H H' : Hp} {v : V} (h : BadW K H v) (s : Same H H') : BadW K H' v :=
  h.imp (fun ⟨t, a, b⟩ => ⟨t, a.same s, b⟩) fun ⟨l, xs, e, h, q⟩ => ⟨l, xs, e, s _ _ h, q.imp id fun ⟨n, zs, a, b, c⟩ => ⟨n, zs, a, fun z hz => (b z hz).same s, c⟩⟩
def sp_shortestB (K : PySem.W.Frag) (a : Ad) : Sp := fun vs H Q E => ∃ u v, vs = [u, v] ∧ BadW K H v ∧ ∀ H', Same H H' → E (.ref a.c_BadWords) none H'
theorem ok_shortestB (T : Txt K mg a) : FnOk P w K mg base (L2.CX P w) 6 a.f_shortest a.d_shortest P_shortest (sp_shortestB K a) := by
  refine T.F_shortest.okX sc_shortest (fun vs H Q E h => ?_) (fun cdv A outer s H vs Q E hr h => ?_)
  · obtain ⟨u, v, rfl, _⟩ := h
    rfl
  · obtain ⟨u, v, rfl, hv, k⟩ := h
    have G_are_signs := ok_are_signs (P := P) (w := w) (base := base) T
    have B_are_signs := bi_are_signs T
    have G_cannot := ok_cannot (P := P) (w := w) (base := base) T
    have B_cannot := bi_cannot T
    have G_one_written := ok_one_written (P := P) (w := w) (base := base) T
    have B_one_written := bi_one_written T
    have G_Shortest_init := ok_Shortest_init (P := P) (w := w) (base := base) T
    have B_Shortest_init := bi_Shortest_init T
    have G_are_signs := ok_are2 (P := P) (w := w) (base := base) T
    have G_NoWriting_init := ok_NoWriting_init (P := P) (w := w) (base := base) T
    have B_NoWriting_init := bi_NoWriting_init T
    refine ⟨_,
(pss_cons (ps_if (PW.pt (pw_or (pt_not (pt_val (pe_callB (call_isi) (by rfl) T.b_isinstance (by decide +kernel) (pa_cons (pv 1) (pa_cons (pe_bltn (v := .ty "list") (u := .type "list") rfl T.b_list (by decide +kernel) rfl) pa_nil))))) (pw_or1 (pt_cmpR op_gt (pe_callB call_len_seq (by rfl) T.b_len PySem.boot_len (pa_cons (pv 1) pa_nil)) (pe_glob (v := .int 8) rfl T.g_MOST_WORDS ⟨_, rfl⟩) (nomark _))))) (pss_one (ps_raise rfl (takes_of rfl rfl rfl rfl) (pmk_own PySem.F.excBase_ValueError T.ex_BadWords T.eg_BadWords.g T.ei_BadWords (raises_own T.ec_BadWords T.eh_BadWords) rfl))) pss_nil)
    (pss_cons (ps_if (pt_not (pt_val (pe_callB (cr_all rfl) (by rfl) T.b_all (by decide +kernel) (pa_cons (pe_lc (own := [("word", 2)]) (g := gName 2) (tt := tYes) rfl sc_shortest.nd (pi_list (pv 1)) (blkOk_by (own := [("word", 2)]) (N := N_shortest) (sc := defScope st_shortest) (by decide +kernel)) (fun _ _ _ _ _ => (pg_name (i := 2) sc_shortest.nd rfl (by first | exact Or.inl rfl | exact Or.inr rfl))) (fun _ _ _ _ _ => pts_nil) (fun _ _ _ _ _ => (pe_and (pe_call G_are_signs (hr.mono (by decide)) rfl T.f_are_signs.g T.f_are_signs.k B_are_signs .nil pass0 (pa_cons (pv 2) pa_nil)) (pe_one (pe_cmpR op_le (pe_callB call_len_str (by rfl) T.b_len PySem.boot_len (pa_cons (pv 2) pa_nil)) (pe_glob (v := .int 12) rfl T.g_LONGEST_WORD ⟨_, rfl⟩) (nomark _)))))) pa_nil)))) (pss_one (ps_raise rfl (takes_of rfl rfl rfl rfl) (pmk_own PySem.F.excBase_ValueError T.ex_BadWords T.eg_BadWords.g T.ei_BadWords (raises_own T.ec_BadWords T.eh_BadWords) rfl))) pss_nil)
    (pss_cons (ps_for (passes_of rfl) rfl (pi_enum (by rfl) T.b_enumerate (pa_cons (pv 1) pa_nil)) (pg_tup rfl (pgs_cons (pg_name (i := 3) sc_shortest.nd rfl (by first | exact Or.inl rfl | exact Or.inr rfl)) (pgs_cons (pg_name (i := 2) sc_shortest.nd rfl (by first | exact Or.inl rfl | exact Or.inr rfl)) pgs_nil)))
    (pss_one (ps_if (pt_val (pe_call G_cannot (hr.mono (by decide)) rfl T.f_cannot.g T.f_cannot.k B_cannot .nil pass0 (pa_cons (pv 0) (pa_cons (pv 2) pa_nil)))) (pss_one (ps_raise rfl (takes_of rfl rfl rfl rfl) (pmk_oex (oex_NW T) T.ui_NoWriting T.ti_NoWriting G_NoWriting_init (hr.mono (by decide)) B_NoWriting_init .nil pass0 rfl T.eg_NoWriting.g (pa_cons (pv 3) pa_nil)))) pss_nil)))
    (pss_cons (ps_setLc (i := 4) (own := [("word", 2)]) (g := gName 2) (tt := tYes) rfl sc_shortest.nd rfl rfl (sw_true rfl rfl rfl (by decide +kernel)) (pi_list (pv 1)) (blkOk_by (own := [("word", 2)]) (N := N_shortest) (sc := defScope st_shortest) (by decide +kernel)) (fun _ _ _ _ _ => (pg_name (i := 2) sc_shortest.nd rfl (by first | exact Or.inl rfl | exact Or.inr rfl))) (fun _ _ _ _ _ => pts_nil) (fun _ _ _ _ _ => (pe_call G_one_written (hr.mono (by decide)) rfl T.f_one_written.g T.f_one_written.k B_one_written .nil pass0 (pa_cons (pv 0) (pa_cons (pv 2) pa_nil)))))
    (pss_one (ps_ret (pe_make T.c_Shortest.mc G_Shortest_init (hr.mono (by decide)) rfl T.c_Shortest.g B_Shortest_init .nil pass0 (pa_cons (pe_join (pe_ix ix_str (pe_fld (pv 0) rfl) pe_int (fun _ _ => rfl)) (pe_lc (own := [("pair", 5)]) (g := gName 5) (tt := tYes) rfl sc_shortest.nd (pi_list (pv 4)) (blkOk_by (own := [("pair", 5)]) (N := N_shortest) (sc := defScope st_shortest) (by decide +kernel)) (fun _ _ _ _ _ => (pg_name (i := 5) sc_shortest.nd rfl (by first | exact Or.inl rfl | exact Or.inr rfl))) (fun _ _ _ _ _ => pts_nil) (fun _ _ _ _ _ => (pe_ix (ix_tupK (K := K) rfl) (pv 5) pe_int (fun _ _ => rfl))))) (pa_cons (pe_lc (own := [("pair", 5)]) (g := gName 5) (tt := tYes) rfl sc_shortest.nd (pi_list (pv 4)) (blkOk_by (own := [("pair", 5)]) (N := N_shortest) (sc := defScope st_shortest) (by decide +kernel)) (fun _ _ _ _ _ => (pg_name (i := 5) sc_shortest.nd rfl (by first | exact Or.inl rfl | exact Or.inr rfl))) (fun _ _ _ _ _ => pts_nil) (fun _ _ _ _ _ => (pe_ix (ix_tupK (K := K) rfl) (pv 5) pe_int (fun _ _ => rfl)))) pa_nil)))))))))
      , ?_⟩
    rw [show start N_shortest [u, v] = [some u, some v, none, none, none, none] from rfl]
    simp only [cxK0]
    rcases hv with ⟨t, h1, h2⟩ | ⟨l, xs, rfl, hl, hx⟩
    · walk_at "rd"
      exact ⟨_, _, .ty _, h1, _, h2, ite2 (fun _ => k _ (Same.refl _)) (fun z => absurd rfl z)⟩
    have isl : PySem.W.kitOne K (.type "list") (.type "list") = some true := kit_ty (b := "list") (r := true) (by decide +kernel)
    rcases hx with hx | ⟨hx, zs, rfl, hz, ha⟩
    · walk_at "rd"
      exact ⟨_, _, .ty _, .base (.lst hl), _, isl, ite2 (fun z => by cases z) (fun _ => ⟨_, .inl (.inl (.inl hl)), ite2 (fun _ => k _ (Same.refl _)) (fun z => absurd (by omega) z)⟩)⟩
    refine tseq_split (fun σ' H' => σ' = [some u, some (.ref l), none, none, none, none] ∧ H' = H) (fun N hN => ?_) ?_
    · walk_at "rd"
      exact ⟨_, _, .ty _, .base (.lst hl), _, isl, ite2 (fun z => by cases z) (fun _ => ⟨_, .inl (.inl (.inl hl)), ite2 (fun c => absurd c (by omega)) (fun _ => hN _ _ ⟨rfl, rfl⟩)⟩)⟩
    rintro σ' H0 ⟨rfl, rfl⟩
    walk_at "rd"
    have hlen : zs.length ≤ 8 := by rw [← List.length_map (f := (·.1))]; exact hx
    refine tlc_map zs (fun z => .bl z.2) (J := Itl K l) (H1 := H0) (G := fun H => SqL K H l (zs.map (·.1))) (fun R hR => ?_) (by rw [← List.length_map (f := (·.1)) (as := zs)]; exact walk_list) (by omega) (fun H s => .inl (.inl (s _ _ hl))) ?_ ?_
    · walk_at "rd"
      exact ⟨⟨_, .inl (.inl hl)⟩, hR⟩
    · rintro R R' j ⟨u2, b2⟩ x H2 H2' hj s2 ⟨rfl, hx2⟩ hk
      rw [List.getElem?_map, hj] at hx2
      cases hx2
      have g := (hz (u2, b2) (List.mem_of_getElem? hj)).same s2
      walk_at "rdh"
      rcases g with ⟨g, rfl⟩ | ⟨t, rfl, g1, g2, rfl⟩
      · refine are_bad g fun H4 s4 => ?_
        walk_at "rdh"
      · refine .inl ⟨t, rfl, g1, fun H4 s4 => ?_⟩
        rw [g2]
        walk_at "rdh"
        exact Nat.le_trans g1 (by decide)
    · intro D H2 hD s2 e2
      walk_at "rd"
      refine ⟨zs.map (·.2), .inl (.inl (by rw [List.map_map]; exact e2)), ?_⟩
      rw [ha]
      exact ite2 (fun _ => k _ s2) (fun z => absurd rfl z)
end
end Qw

set_option Elab.async false
set_option linter.all false
set_option maxRecDepth 100000
set_option maxHeartbeats 4000000
namespace Qw
open PySem L2 LamX NdefX L2H PySem.Spec PyProof.Rows
local macro_rules | `(tactic| walk_at "rd") => `(tactic| simp only [iEnum, iRng3, tRevL, rSlS, rSlL, gSub, rSetL, wipe, List.map_cons, List.map_nil, rAll, rAny, rIsi, tM1, tM0, iZipLT, iZip, iRng2, tLenSetS, rListStr, rMulS, rRep, rCntB, tRevS, rNeD, rEqD, tSeq, tNext, tAsg, tRet, tRetN, tDrop, tIfS, sFld, sFldAug, tVar, tC, tOp, tUn, tTest, tB, tAnd, tOr, tNot, tAndV, tOrV, tNotV, tIf, tTup, tLst, tCons, tNil, tCB, tCall, tMeth, tMake, tFld, rI, rI0, rU, rEq, rNe, rCat, gName, gTup, gCons, gNil, tPar, tPar3, tBM, tBM0, rAppend, rExtend, rPopAt, rIxL, rIxT, rIxS, tSl, rSlS, rSlL, tPart, tNoPart, iStr, iTup, iList, iRng1, tAug, ipI, L2.rAdd, L2.rSub, L2.rAddS, tChain, rIsB, rNotB, scal_ss, scal_ii, scal_bb, scal_nn, scal_in, scal_ni, tYes,
  cx_K, cx_N, List.getElem?_cons_zero, List.getElem?_cons_succ, List.set_cons_zero, List.set_cons_succ, List.nil_append, List.cons_append, List.append_nil, List.length_cons, List.length_nil, Nat.zero_add,
  Option.some.injEq, V.ref.injEq, V.int.injEq, V.str.injEq, V.bl.injEq, HO.ins.injEq, HO.lst.injEq, HO.tup.injEq, List.cons.injEq, exists_eq_left, exists_eq_left', exists_eq_right, exists_eq_right', and_true, true_and, exists_and_left, exists_and_right, and_assoc, decide_eq_true_eq, Bool.not_eq_true', decide_eq_false_iff_not, reduceCtorEq, exists_const, forall_const, if_true, if_false, false_and, and_false, ite_true, ite_false, Bool.true_eq_false, Bool.false_eq_true, Nat.reduceLeDiff, Nat.reduceAdd, small_line, small_lt, upd_ne, ne_eq, not_false_eq_true, Nat.zero_le, Prod.mk.injEq, upd_same, upd_upd, S_tl, S_len, S_app, S_one, S_inj,
  lk_breaks, lk_hard, lk_soft, lk_bend, lk_note, lk_rules, lk_state, lk_bent, lk_word, lk_begun, lk_opened, lk_place, pt_state, pt_bent, pt_word, pt_wordS, pt_wordN, pt_begun, pt_opened, pt_place, pt_place1, len_mf, litv_empty, litv_note, litv_nl, mf_inj, rf_inj, lkn_begin, lkn_ended, lkn_plain, lkn_quoted, lkn_step, lkn_fault, lkn_key, lkn_told, lkn_quotes, lkn_special, pt_open1, not_true_eq_false, not_false_eq_true])
local macro_rules | `(tactic| walk_at "rdh") => `(tactic| simp only [iEnum, iRng3, tRevL, rSlS, rSlL, gSub, rSetL, wipe, List.map_cons, List.map_nil, rAll, rAny, rIsi, tM1, tM0, iZipLT, iZip, iRng2, tLenSetS, rListStr, rMulS, rRep, rCntB, tRevS, rNeD, rEqD, tSeq, tNext, tAsg, tRet, tRetN, tDrop, tIfS, sFld, sFldAug, tVar, tC, tOp, tUn, tTest, tB, tAnd, tOr, tNot, tAndV, tOrV, tNotV, tIf, tTup, tLst, tCons, tNil, tCB, tCall, tMeth, tMake, tFld, rI, rI0, rU, rEq, rNe, rCat, gName, gTup, gCons, gNil, tPar, tPar3, tBM, tBM0, rAppend, rExtend, rPopAt, rIxL, rIxT, rIxS, tSl, rSlS, rSlL, tPart, tNoPart, iStr, iTup, iList, iRng1, tAug, ipI, L2.rAdd, L2.rSub, L2.rAddS, tChain, rIsB, rNotB, scal_ss, scal_ii, scal_bb, scal_nn, scal_in, scal_ni, tYes,
  cx_K, cx_N, List.getElem?_cons_zero, List.getElem?_cons_succ, List.set_cons_zero, List.set_cons_succ, List.nil_append, List.cons_append, List.append_nil, List.length_cons, List.length_nil, Nat.zero_add,
  Option.some.injEq, V.ref.injEq, V.int.injEq, V.str.injEq, V.bl.injEq, HO.ins.injEq, HO.lst.injEq, HO.tup.injEq, List.cons.injEq, exists_eq_left, exists_eq_left', exists_eq_right, exists_eq_right', and_true, true_and, exists_and_left, exists_and_right, and_assoc, decide_eq_true_eq, Bool.not_eq_true', decide_eq_false_iff_not, reduceCtorEq, exists_const, forall_const, if_true, if_false, false_and, and_false, ite_true, ite_false, Bool.true_eq_false, Bool.false_eq_true, Nat.reduceLeDiff, Nat.reduceAdd, small_line, small_lt, upd_ne, ne_eq, not_false_eq_true, Nat.zero_le, Prod.mk.injEq, upd_same, upd_upd, S_tl, S_len, S_app, S_one, S_inj,
  lk_breaks, lk_hard, lk_soft, lk_bend, lk_note, lk_rules, lk_state, lk_bent, lk_word, lk_begun, lk_opened, lk_place, pt_state, pt_bent, pt_word, pt_wordS, pt_wordN, pt_begun, pt_opened, pt_place, pt_place1, len_mf, litv_empty, litv_note, litv_nl, mf_inj, rf_inj, lkn_begin, lkn_ended, lkn_plain, lkn_quoted, lkn_step, lkn_fault, lkn_key, lkn_told, lkn_quotes, lkn_special, pt_open1, not_true_eq_false, not_false_eq_true, *])
local macro_rules | `(tactic| walk_at "pl") => `(tactic| (first | decide | (refine Nat.lt_of_le_of_lt (length_putF _ _ _) ?_; repeat (first | decide | refine pl2 ?_))))
local macro_rules | `(tactic| walk_at "al") => `(tactic| (intro p hp; generalize hH : upd _ p _ = H1; obtain ⟨S, e⟩ := gen_new hH hp; clear hH))
/-! ### the caught error, handed to a helper -/
theorem call_isP {X : Cx} {a : Addr} {cls : Value} {d : Option Addr} {oe : Obj} (hp : (a, oe) ∈ X.pn) (zc : Zc cls d oe) (fl : ∃ vs, oe.data = .fields vs) : CallR X (.builtin "isinstance") (rIsX X.K cls d a) := by
  intro pins s σ H xs us Q I r h
  obtain ⟨D, c, cv, b, rfl, C, rfl, hcv, e, hd, q⟩ := h
  obtain ⟨u1, us1, rfl, r1, rr⟩ : ∃ u1 us1, us = u1 :: us1 ∧ RelV (.ref a) u1 ∧ Vals [c] us1 := by
    cases r with
    | cons x y => exact ⟨_, _, rfl, x, y⟩
  obtain ⟨u2, rfl, r2⟩ := rr.one
  cases r1
  cases hcv _ r2
  obtain ⟨at_, _⟩ := I.pin (a, oe) (List.mem_append_left _ hp)
  obtain ⟨fv, hv⟩ := fl
  have done : ∀ od : Option Obj, PySem.W.InstAt s.heap a oe D od → wpAny (model X.prog X.w) X.A (call (.builtin "isinstance") [.ref a, cv]) (EP X pins σ Q) X.xe s := fun od J =>
    PySem.W.kia_one (PySem.W.kitx_exc C.some C.ga C.gg C.be C.cl C.gn C.tk C.ob) I.kIn J e (fun z => nomatch z) fun tk => ⟨.bl b, H, I.kept (t' := tk) fun _ _ z => z, rfl, q⟩
  have nc : PySem.W.notCls oe = true := by unfold PySem.W.notCls; rw [hv]
  rcases hd with rfl | ⟨dd, fs, rfl, hx⟩
  · refine done Option.none ⟨at_, zc.1, nc, ?_⟩
    rw [zc.2]
    trivial
  · obtain ⟨mA, hns, _⟩ := (show ObjOk X.prog X.w H s.heap dd (.xd fs) from I.hok dd _ hx)
    obtain ⟨od, ho, _⟩ := lookIn_ns hns
    refine done (Option.some od) ⟨at_, zc.1, nc, ?_⟩
    rw [zc.2]
    exact ho
/-- what a helper promises that is called with the error that is handled -/
structure FnP (P : Program) (w : World) (K : PySem.W.Frag) (mg : Str → Option Value) (base : Heap) (CX : CXT) (k : Nat) (f : Addr) (fd : FuncData) (ps : List Str) (sp : Addr → Value → Option Addr → Sp) : Prop where
  len : ∀ b cls d vs H Q E, sp b cls d vs H Q E → vs.length = ps.length
  run : ∀ (A : Around) (outer : List Env) (s : Shared) (H : Hp) (args : Args) (us : List Value) (vs : List V) (Q : VK) (E : XK) (p : Addr × Obj) (cls : Value) (d : Option Addr), RoomH k A → PinOk outer H s p → Zc cls d p.2 → (∃ vs, p.2.data = .fields vs) → Env0 P w K mg base A outer s H → BindsTo s fd args (ps.zip us) → Vals vs us → sp p.1 cls d vs H Q E →
    codeAny (model P w) A (.call (.ref f) args) (CR CX outer P w H s Q E) s
section
variable {CX : CXT} {P : Program} {w : World} {K : PySem.W.Frag} {mg : Str → Option Value} {base : Heap} {k : Nat}
theorem fnP_of {x qual : Str} {st : Stmt} {f : Addr} {fd : FuncData} {N ps : List Str} {sp : Addr → Value → Option Addr → Sp} (F : L2.Fun K x qual st f fd) (S : FnScope N ps (defScope st)) (len : ∀ b cls d vs H Q E, sp b cls d vs H Q E → vs.length = ps.length)
    (go : ∀ (cdv : Value) (A : Around) (outer : List Env) (s : Shared) (H : Hp) (vs : List V) (Q : VK) (E : XK) (p : Addr × Obj) (cls : Value) (d : Option Addr), Zc cls d p.2 → (∃ vs, p.2.data = .fields vs) → RoomH k (A.deeper (envOfC qual (defScope st) s.heap.objs.size f cdv)) → sp p.1 cls d vs H Q E →
      ∃ t, PSs (cxH CX P w K mg base N qual (defScope st) f cdv A outer s H E p) (defBody st) t ∧ t { nx := fun _ H' => Q .non H', rt := Q } (L2.start N vs) H) : FnP P w K mg base CX (k + 1) f fd ps sp := by
  obtain ⟨oc, od, kV, doc, pm, an, cdv, ct, osl, rfl, lk, hcd⟩ := F.ex
  refine ⟨len, fun A outer s H args us vs Q E p cls d hr hpin hz hf e0 hb r q => ?_⟩
  have KX : K.In s.heap := e0.mod.kin.keeps fun b o e => (e0.bs b o e).1
  have lim : s.heap.NoLimit := e0.mod.nolimit.keeps fun b o e => (e0.bs b o e).1
  have kinds : ∀ y ∈ ps.zip us, (defScope st).names.lookup y.1 = some .local ∨ ((defScope st).names.lookup y.1 = some .cell ∧ ((cellsFrom (s.heap.objs.size + 1) (defScope st).names []).lookup y.1).isSome = true) := fun ⟨n, v⟩ hy =>
    (S.par n (List.of_mem_zip hy).1).imp id fun z => ⟨z, PySem.W.cellsFrom_some _ _ _ (.inl z)⟩
  refine codeAny_call_function hr.depth (KX _ _ lk) rfl S.co S.gen rfl (PySem.W.codeRec_of KX hcd) (hb _ _ _ _ ?_)
  refine wpAny_newFunctionEnv_cells S.kind kinds fun env he s1 x => ?_
  cases he
  refine ⟨lim.keeps x.toInCall.keep, codeAny_func ?_⟩
  obtain ⟨t, ht, hq⟩ := go cdv A outer s H vs Q E p cls d hz hf (hr.deeper _) q
  have J := inv_startH (CX := CX) (P := P) (w := w) (K := K) (mg := mg) (base := base) (N := N) (cd := cdv) (E := E) S hpin e0 (len _ _ _ _ _ _ _ q) r x
  refine wpAny_mono (ht.run [] s1 (L2.start N vs) H _ J hq) (fun fl s' hs => ?_) fun _ _ hs => hs
  cases fl with
  | ret u =>
    obtain ⟨v, σ', H', I, rv, h⟩ := hs
    exact ⟨v, H', I.os, I.bare, I.base, I.hok, rv, h⟩
  | next =>
    obtain ⟨σ', H', I, h⟩ := hs
    exact ⟨V.non, H', I.os, I.bare, I.base, I.hok, rfl, h⟩
  | brk =>
    obtain ⟨_, _, _, h⟩ := hs
    exact False.elim h
  | cont =>
    obtain ⟨_, _, _, h⟩ := hs
    exact False.elim h
end
section
variable {X : Cx} {CX : CXT} {k : Nat} {f : Addr} {fd : FuncData} {ps : List Str} {sp : Addr → Value → Option Addr → Sp} {cls : Value} {d : Option Addr} {E : L2.St → XK} {x : Str} {q pos : Pos} {e : Expr} {es : List Expr} {t : TA} {b : Addr} {oe : Obj}
theorem pe_callP (F : FnP X.prog X.w X.K X.mg X.base CX k f fd ps sp) (hr : RoomH k X.A) (hp : (b, oe) ∈ X.pn) (hz : Zc cls d oe) (hf : ∃ vs, oe.data = .fields vs) (hg : Gl X x) (hm : X.mg x = some (.ref f)) (hk : PySem.W.keepIn X.K (.ref f) = true) (hb : Binds X.K fd ps []) (hx : ∀ σ, PassesAt CX X σ (E σ))
    (ha : PA X (e :: es) t) (hdb : (x == ("__debug__" : Str)) = false := by decide) (he : starEach (e :: es) X.env = (false, eval e X.env) :: starEach es X.env := by rfl) (hpl : (backTo pos (starEach es X.env)).any (·.1) = false := by rfl) :
    PE X (.Call (.Name x q) (e :: es) [] pos) (tCallS (sp b cls d) E t) := by
  refine ⟨fun pins s σ H Q I h => wpAny_Call_Name_kw (ld_glob I hg hm ?_ hdb)⟩
  refine PySem.W.callWith_K (h₀ := X.base) I.ok.mod.kin hk ?_ he hpl
  refine thn (ha.run pos pins s σ H _ I h) fun us s1 ⟨vs, H1, J, r, z⟩ => ⟨J.kIn, ?_⟩
  have hl : us.length = ps.length := by rw [← r.length]; exact F.len _ _ _ _ _ _ _ z
  have bd := hb s1 us J.kIn (by rw [List.append_nil]; exact hl)
  rw [List.append_nil] at bd
  have P1 := J.pin (b, oe) (List.mem_append_left _ hp)
  have hpin : PinOk X.stack H1 s1 (b, oe) := ⟨P1.1, P1.2.1, fun hm => (List.mem_cons.mp (J.stkSub b hm)).elim P1.2.2.1 P1.2.2.2.1, P1.2.2.2.2⟩
  refine wpAny_call (codeAny_mono (F.run X.A X.stack s1 H1 ⟨us, []⟩ us vs Q (E σ) (b, oe) cls d hr hpin hz hf J.env0 bd r z) fun y s' hq => ?_)
  match y, hq with
  | .error e', hq => exact hx σ pins H1 s1 e' s' J hq
  | .ok (.ret u), hq => exact J.after hq
end
/-- as tCallLamL, the frame's words by themselves -/
def tCallLamW (P : Program) (w : World) (K : PySem.W.Frag) (mg : Str → Option Value) (base : Heap) (CX : CXT) (k : Nat) (i : Nat) (E : L2.St → XK) (t : TA) : TE := fun σ H Q => ∃ f L ps fr ws sp, σ[i]? = some (some (.ref f)) ∧ LOk P w K mg base CX k L ps fr ws sp ∧ H f = some (LamO f L) ∧
  t σ H fun vs H1 => H1 f = some (LamO f L) ∧ H1 L.c = some (CodeO L.c L.qual) ∧ ∃ cs, CellsL L.cl fr ws cs H1 ∧ cs.lookup f = none ∧ cs.lookup L.c = none ∧ sp vs (dropH cs H1) (fun v H2 => (∀ b o, cs.lookup b = some o → H2 b = none) → Q v (lendH cs H2)) (fun cls d H2 => (∀ b o, cs.lookup b = some o → H2 b = none) → E σ cls d (lendH cs H2))
theorem pe_callLamW {X : Cx} {P : Program} {w : World} {K : PySem.W.Frag} {mg : Str → Option Value} {base : Heap} {k i : Nat} {x : Str} {E : L2.St → XK} {t : TA} {e : Expr} {es : List Expr} {p pos : Pos} (h1 : X.prog = P) (h2 : X.w = w) (h3 : X.K = K) (h4 : X.mg = mg) (h5 : X.base = base)
    (hr : Room k X.A) (hx : ∀ σ, PassesAt (L2.CX P w) X σ (E σ)) (hN : X.N[i]? = some x) (hv : Vis X.env.scope x) (ha : PA X (e :: es) t) (hd : (x == ("__debug__" : Str)) = false := by decide) (hcd : (x == ("__classdict__" : Str)) = false := by decide)
    (he : starEach (e :: es) X.env = (false, eval e X.env) :: starEach es X.env := by rfl) (hpl : (backTo pos (starEach es X.env)).any (·.1) = false := by rfl) : PE X (.Call (.Name x p) (e :: es) [] pos) (tCallLamW P w K mg base (L2.CX P w) k i E t) := by
  subst h1 h2 h3 h4 h5
  exact pe_callLamL (CX := L2.CX X.prog X.w) (fun n ok0 q c => cx_drop n ok0 q c) hr hx hN hv ha hd hcd he hpl
/-! ### the five classes -/
def cE (a : Ad) : Nat → Addr
  | 0 => a.c_BadRules
  | 1 => a.c_BadText
  | 2 => a.c_BadWords
  | 3 => a.c_NoWriting
  | _ => a.c_Ended
section
variable {P : Program} {w : World} {K : PySem.W.Frag} {mg : Str → Option Value} {base : Heap} {a : Ad}
theorem errE (T : Txt K mg a) (i : Nat) : ErrC K (cE a i) := by
  match i with
  | 0 => exact err_BR T
  | 1 => exact err_BT T
  | 2 => exact err_BW T
  | 3 => exact err_NW T
  | n + 4 => exact err_En T
theorem clauseE (T : Txt K mg a) (i : Nat) : PySem.W.exmOne K (.ref (cE a i)) (.ref a.c_QuoteError) = some true := by
  match i with
  | 0 => exact (err_QE T).clause T.es_BadRules_QuoteError
  | 1 => exact (err_QE T).clause T.es_BadText_QuoteError
  | 2 => exact (err_QE T).clause T.es_BadWords_QuoteError
  | 3 => exact (err_QE T).clause T.es_NoWriting_QuoteError
  | n + 4 => exact (err_QE T).clause T.es_Ended_QuoteError
theorem valE (T : Txt K mg a) (i : Nat) : PySem.W.kitOne K (.ref (cE a i)) (.type "ValueError") = some true := by
  have go : ∀ D, PySem.W.subIn K (.ref D) (.type "ValueError") = some true → PySem.W.kitOne K (.ref D) (.type "ValueError") = some true := fun D h => by
    show (if (Value.ref D == Value.type "ValueError") = true then some true else if PySem.W.kitMeta "ValueError" = true then PySem.W.subIn K (.ref D) (.type "ValueError") else none) = some true
    rw [if_neg (fun z => by cases (beq_iff_eq.mp z)), if_pos (by decide +kernel), h]
  match i with
  | 0 => exact go _ T.sv_BadRules
  | 1 => exact go _ T.sv_BadText
  | 2 => exact go _ T.sv_BadWords
  | 3 => exact go _ T.sv_NoWriting
  | n + 4 => exact go _ T.sv_Ended
theorem kitE (T : Txt K mg a) {i j : Nat} (hi : i < 5) (hj : j < 5) : PySem.W.kitOne K (.ref (cE a i)) (.ref (cE a j)) = some (decide (j = i)) := by
  match i, hi, j, hj with
  | 0, _, 0, _ => exact T.k_e00
  | 0, _, 1, _ => exact T.k_e01
  | 0, _, 2, _ => exact T.k_e02
  | 0, _, 3, _ => exact T.k_e03
  | 0, _, 4, _ => exact T.k_e04
  | 1, _, 0, _ => exact T.k_e10
  | 1, _, 1, _ => exact T.k_e11
  | 1, _, 2, _ => exact T.k_e12
  | 1, _, 3, _ => exact T.k_e13
  | 1, _, 4, _ => exact T.k_e14
  | 2, _, 0, _ => exact T.k_e20
  | 2, _, 1, _ => exact T.k_e21
  | 2, _, 2, _ => exact T.k_e22
  | 2, _, 3, _ => exact T.k_e23
  | 2, _, 4, _ => exact T.k_e24
  | 3, _, 0, _ => exact T.k_e30
  | 3, _, 1, _ => exact T.k_e31
  | 3, _, 2, _ => exact T.k_e32
  | 3, _, 3, _ => exact T.k_e33
  | 3, _, 4, _ => exact T.k_e34
  | 4, _, 0, _ => exact T.k_e40
  | 4, _, 1, _ => exact T.k_e41
  | 4, _, 2, _ => exact T.k_e42
  | 4, _, 3, _ => exact T.k_e43
  | 4, _, 4, _ => exact T.k_e44
  | n + 5, h, _, _ => exact absurd h (by omega)
  | _, _, n + 5, h => exact absurd h (by omega)
def kinds (i : Nat) : List V := [.bl (decide (0 = i)), .bl (decide (1 = i)), .bl (decide (2 = i)), .bl (decide (3 = i)), .bl (decide (4 = i)), .bl true]
def sp_kinds (a : Ad) : Addr → Value → Option Addr → Sp := fun b cls d vs H Q _ => ∃ (i : Nat), vs = [.ref b] ∧ cls = .ref (cE a i) ∧ i < 5 ∧ (d = none ∨ ∃ dd fs, d = some dd ∧ H dd = some (.xd fs)) ∧ ∀ l H', Same H H' → H' l = some (.lst (kinds i)) → Q (.ref l) H'
theorem ok_kinds (T : Txt K mg a) : FnP P w K mg base CX0 2 a.f__law_kinds a.d__law_kinds P__law_kinds (sp_kinds a) := by
  refine fnP_of T.F__law_kinds sc__law_kinds (fun b cls d vs H Q E h => ?_) (fun cdv A outer s H vs Q E p cls d hz hf hr h => ?_)
  · obtain ⟨i, rfl, _⟩ := h
    rfl
  · obtain ⟨i, rfl, rfl, hi, hd, k⟩ := h
    have hp : (p.1, p.2) ∈ (cxH CX0 P w K mg base N__law_kinds "_law_kinds" (defScope st__law_kinds) a.f__law_kinds cdv A outer s H E p).pn := List.mem_singleton.mpr rfl
    refine ⟨_,
(pss_cons (ps_set (i := 1) sc__law_kinds.nd rfl (by first | exact Or.inl rfl | exact Or.inr rfl) (pe_lst (pa_cons (pe_callB (call_isP hp hz hf) (by rfl) T.b_isinstance (by decide +kernel) (pa_cons (pv 0) (pa_cons (pe_glob (v := .ref a.c_BadRules) rfl T.eg_BadRules.g rfl) pa_nil))) (pa_cons (pe_callB (call_isP hp hz hf) (by rfl) T.b_isinstance (by decide +kernel) (pa_cons (pv 0) (pa_cons (pe_glob (v := .ref a.c_BadText) rfl T.eg_BadText.g rfl) pa_nil))) (pa_cons (pe_callB (call_isP hp hz hf) (by rfl) T.b_isinstance (by decide +kernel) (pa_cons (pv 0) (pa_cons (pe_glob (v := .ref a.c_BadWords) rfl T.eg_BadWords.g rfl) pa_nil))) pa_nil)))))
    (pss_cons (ps_set (i := 1) sc__law_kinds.nd rfl (by first | exact Or.inl rfl | exact Or.inr rfl) (pe_op op_cat (pv 1) (pe_lst (pa_cons (pe_callB (call_isP hp hz hf) (by rfl) T.b_isinstance (by decide +kernel) (pa_cons (pv 0) (pa_cons (pe_glob (v := .ref a.c_NoWriting) rfl T.eg_NoWriting.g rfl) pa_nil))) (pa_cons (pe_callB (call_isP hp hz hf) (by rfl) T.b_isinstance (by decide +kernel) (pa_cons (pv 0) (pa_cons (pe_glob (v := .ref a.c_Ended) rfl T.eg_Ended.g rfl) pa_nil))) pa_nil)))))
    (pss_one (ps_ret (pe_op op_cat (pv 1) (pe_lst (pa_cons (pe_callB (call_isP hp hz hf) (by rfl) T.b_isinstance (by decide +kernel) (pa_cons (pv 0) (pa_cons (pe_bltn (v := .ty "ValueError") (u := .type "ValueError") rfl T.b_ValueError (by decide +kernel) rfl) pa_nil))) pa_nil)))))))
      , ?_⟩
    rw [show L2.start N__law_kinds [V.ref p.1] = [some (.ref p.1), none] from rfl]
    walk_at "rd"
    have eK : (cxH CX0 P w K mg base N__law_kinds (Str.ofString "_law_kinds") (defScope st__law_kinds) a.f__law_kinds cdv A outer s H E p).K = K := rfl
    rw [eK]
    have hdS : ∀ {H'}, Same H H' → (d = none ∨ ∃ dd fs, d = some dd ∧ H' dd = some (.xd fs)) := fun s' => hd.imp id fun ⟨dd, fs, e, h⟩ => ⟨dd, fs, e, s' _ _ h⟩
    have one : ∀ {j : Nat} {H' : Hp} {R : VK}, j < 5 → Same H H' → R (.bl (decide (j = i))) H' → rIsX K (.ref (cE a i)) d p.1 [.ref p.1, .ref (cE a j)] H' R := fun {j H' R} hj s' r => ⟨cE a i, .ref (cE a j), .ref (cE a j), _, rfl, errE T i, rfl, fun u h => h, kitE T hi hj, hdS s', r⟩
    refine one (j := 0) (by decide) (Same.refl _) (one (j := 1) (by decide) (Same.refl _) (one (j := 2) (by decide) (Same.refl _) fun l1 h1 => ?_))
    have s1 := same_new (o := HO.lst [.bl (decide (0 = i)), .bl (decide (1 = i)), .bl (decide (2 = i))]) h1
    have e1 : upd H l1 (HO.lst [.bl (decide (0 = i)), .bl (decide (1 = i)), .bl (decide (2 = i))]) l1 = some _ := upd_same
    generalize upd H l1 (HO.lst [.bl (decide (0 = i)), .bl (decide (1 = i)), .bl (decide (2 = i))]) = H1 at *
    refine one (j := 3) (by decide) s1 (one (j := 4) (by decide) s1 fun l2 h2 => ⟨_, (same_new h2) _ _ e1, by show 3 + 2 ≤ sizeLine; decide, fun l3 h3 => ?_⟩)
    have s2 := (same_new (o := HO.lst [.bl (decide (3 = i)), .bl (decide (4 = i))]) h2)
    generalize upd H1 l2 (HO.lst [.bl (decide (3 = i)), .bl (decide (4 = i))]) = H2 at *
    have s3 := same_new (o := HO.lst ([.bl (decide (0 = i)), .bl (decide (1 = i)), .bl (decide (2 = i))] ++ [.bl (decide (3 = i)), .bl (decide (4 = i))])) h3
    have e3 : upd H2 l3 (HO.lst ([.bl (decide (0 = i)), .bl (decide (1 = i)), .bl (decide (2 = i))] ++ [.bl (decide (3 = i)), .bl (decide (4 = i))])) l3 = some _ := upd_same
    generalize upd H2 l3 (HO.lst ([.bl (decide (0 = i)), .bl (decide (1 = i)), .bl (decide (2 = i))] ++ [.bl (decide (3 = i)), .bl (decide (4 = i))])) = H3 at *
    have s13 := (s1.trans s2).trans s3
    refine ⟨cE a i, .ty "ValueError", .type "ValueError", true, rfl, errE T i, rfl, fun u h => h, valE T i, hdS s13, fun l4 h4 => ⟨_, (same_new h4) _ _ e3, by show 5 + 1 ≤ sizeLine; decide, fun l5 h5 => ?_⟩⟩
    exact k l5 _ (s13.trans ((same_new h4).trans (same_new h5))) upd_same
/-- a lambda that refuses a thing by the class i alone, whatever else was made -/
def Refd (P : Program) (w : World) (K : PySem.W.Frag) (mg : Str → Option Value) (base : Heap) (a : Ad) (f : Addr) (v : V) (i : Nat) (H : Hp) : Prop := ∀ H', Same H H' → ∃ (L : LF) (ps fr : List Str) (ws : List (Option V)) (sp : Sp) (cs : List (Addr × Obj)), LOk P w K mg base (L2.CX P w) 8 L ps fr ws sp ∧ H' f = some (LamO f L) ∧ H' L.c = some (CodeO L.c L.qual) ∧
  CellsL L.cl fr ws cs H' ∧ cs.lookup f = none ∧ cs.lookup L.c = none ∧ ∀ (Q : VK) (E : XK), (∀ d H2, (d = none ∨ ∃ dd fs, d = some dd ∧ H2 dd = some (.xd fs)) → Same (dropH cs H') H2 → E (.ref (cE a i)) d H2) → sp [v] (dropH cs H') Q E
theorem Refd.same {f : Addr} {v : V} {i : Nat} {H H' : Hp} (h : Refd P w K mg base a f v i H) (s : Same H H') : Refd P w K mg base a f v i H' := fun H2 s2 => h H2 (s.trans s2)
theorem same_lend {cs : List (Addr × Obj)} {H1 H2 : Hp} (L : ∀ b o, cs.lookup b = some o → H1 b = some (ObjO b o)) (s : Same (dropH cs H1) H2) : Same H1 (lendH cs H2) := fun b u e => by
  cases q : cs.lookup b with
  | none => rw [lend_out q]; exact s _ _ (by rw [drop_out q]; exact e)
  | some o => rw [lend_in q, ← L b o q]; exact e
theorem roomM {k : Nat} {A : Around} {h : Option Value} (r : Room k A) : RoomH k (A.mark h) := ⟨r.dp, r.un⟩
def kD (i : Nat) : PyData := .list [.bool (decide (0 = i)), .bool (decide (1 = i)), .bool (decide (2 = i)), .bool (decide (3 = i)), .bool (decide (4 = i)), .bool true]
theorem kD_all : (List.range 5).all (fun i => SeqAt.shaped (kD i) && PyData.eqv (kD i) (kD i)) = true := by decide +kernel
theorem kD_ok {i : Nat} (h : i < 5) : SeqAt.shaped (kD i) = true ∧ PyData.eqv (kD i) (kD i) = true := by
  simpa using List.all_eq_true.mp kD_all i (List.mem_range.mpr h)
def sp_refused (P : Program) (w : World) (K : PySem.W.Frag) (mg : Str → Option Value) (base : Heap) (a : Ad) : Sp := fun vs H Q _ => ∃ (f : Addr) (v : V) (i : Nat), vs = [.ref f, v, .int i] ∧ i < 5 ∧ Refd P w K mg base a f v i H ∧ ∀ H', Same H H' → Q (.bl true) H'
theorem ok_refused (T : Txt K mg a) : FnOk P w K mg base CX0 9 a.f__law_refused a.d__law_refused P__law_refused (sp_refused P w K mg base a) := by
  refine T.F__law_refused.ok sc__law_refused (fun vs H Q E h => ?_) (fun cdv A outer s H vs Q E hr h => ?_)
  · obtain ⟨f, v, i, rfl, _⟩ := h
    rfl
  · obtain ⟨f, v, i, rfl, hi, hR, k⟩ := h
    have G__law_kinds := ok_kinds (P := P) (w := w) (base := base) T
    have B__law_kinds := bi__law_kinds T
    refine ⟨_,
(pss_cons (ps_set (i := 3) sc__law_refused.nd rfl (by first | exact Or.inl rfl | exact Or.inr rfl) (pe_lst pa_nil))
    (pss_cons (ps_try_as (i := 4) (Wout := fun _ _ _ _ => False) rfl rfl sc__law_refused.nd rfl rfl ⟨rfl, by decide, Or.inl T.eg_QuoteError.g⟩ L2.takes0 (fun W pn xe tk _ => pss_one (ps_expr (by exact (pe_callLamW (k := 8) (i := 0) rfl rfl rfl rfl rfl (hr.mono (by decide)) (fun σ => passAt tk σ) rfl (by first | exact Or.inl rfl | exact Or.inr rfl) (by exact (pa_cons (pv 1) pa_nil)))))) (fun b oe cls d pn hz hf => pss_one (ps_set (i := 3) sc__law_refused.nd rfl (by first | exact Or.inl rfl | exact Or.inr rfl) (by exact (pe_callP (CX := CX0) (E := fun _ => E0) (oe := oe) G__law_kinds (roomM (hr.mono (by decide))) List.mem_cons_self hz hf rfl T.f__law_kinds.g T.f__law_kinds.k B__law_kinds (fun _ _ _ _ _ _ _ h => h.elim) (pa_cons (pv 4) pa_nil))))))
    (pss_one (ps_ret (pe_cmpR (op_eqD hr.units) (pv 3) (pe_op op_cat (pe_lc (own := [("_law_at", 5)]) (g := gName 5) (tt := tYes) rfl sc__law_refused.nd (pi_range1 rfl T.b_range (pa_cons pe_int pa_nil)) (blkOk_by (own := [("_law_at", 5)]) (N := N__law_refused) (sc := defScope st__law_refused) (by decide +kernel)) (fun _ _ _ _ _ => (pg_name (i := 5) sc__law_refused.nd rfl (by first | exact Or.inl rfl | exact Or.inr rfl))) (fun _ _ _ _ _ => pts_nil) (fun _ _ _ _ _ => (pe_cmpR op_eq (pv 5) (pv 2) (nomark _)))) (pe_lst (pa_cons pe_bl pa_nil))) (nomark _))))))
      , ?_⟩
    rw [show start N__law_refused [V.ref f, v, V.int i] = [some (.ref f), some v, some (.int i), none, none, none] from rfl]
    walk_at "rd"
    intro p0 hp0
    have s0 := same_new (o := HO.lst []) hp0
    have e0 : upd H p0 (HO.lst []) p0 = some _ := upd_same
    generalize upd H p0 (HO.lst []) = H0 at *
    simp only [tCallLamW]
    obtain ⟨L, ps, fr, ws, sp, cs, lo, hf, hc, cL, n1, n2, hsp⟩ := hR H0 s0
    walk_at "rd"
    refine ⟨L, ps, fr, ws, sp, lo, hf, hf, hc, cs, cL, n1, n2, hsp _ _ fun d H2 hd s2 nn => ?_⟩
    have s3 := same_lend cL.lent s2
    have hd3 : d = none ∨ ∃ dd fs, d = some dd ∧ lendH cs H2 dd = some (.xd fs) := hd.imp id fun ⟨dd, fs, e, h⟩ => ⟨dd, fs, e, lend_of nn h⟩
    generalize lendH cs H2 = H3 at *
    refine ⟨true, clauseE T i, fun _ b hb => ?_, fun q => nomatch q⟩
    walk_at "rd"
    simp only [tCallS]
    walk_at "rd"
    refine ⟨i, rfl, rfl, hi, hd3, fun l H4 s4 e4 => ?_⟩
    refine tlc_map (List.range 5) (fun j => .bl (decide (j = i))) (J := Itr 0 5) (H1 := H4) (G := fun _ => True) (Y := YFn fun i => .int (0 + i)) (fun R hR => ?_) (by rw [List.length_range]; exact walk_range) (by rw [List.length_range]; omega) (fun _ _ => trivial) ?_ ?_
    · walk_at "rd"
      exact ⟨by decide, by decide, hR⟩
    · rintro R R' j u x G G' hj s5 hY hk
      obtain ⟨rfl, rfl⟩ := hY
      rw [List.getElem?_range (show j < 5 from (List.length_range (n := 5)) ▸ (List.getElem?_eq_some_iff.mp hj).1)] at hj
      cases hj
      walk_at "rd"
      rw [show decide ((0 + (j : Int)) = (i : Int)) = decide (j = i) from decide_eq_decide.mpr (by omega)]
      exact hk _ (Same.refl _)
    · intro D G hD s5 e5
      walk_at "rd"
      intro p1 hp1
      refine ⟨_, (same_new hp1) _ _ e5, by rw [List.length_map, List.length_range]; decide, fun p2 hp2 => ?_⟩
      have s6 := (s5.trans (same_new (o := HO.lst [V.bl true]) hp1)).trans (same_new (o := HO.lst ((List.range 5).map (fun j => V.bl (decide (j = i))) ++ [V.bl true])) hp2)
      have dk : ∀ {F : Hp} {b : Addr}, F b = some (.lst (kinds i)) → Dp K F (.ref b) (kD i) := fun e => .lst (.inl (.inl e)) (.cons (.bl _) (.cons (.bl _) (.cons (.bl _) (.cons (.bl _) (.cons (.bl _) (.cons (.bl _) .nil))))))
      refine ⟨kD i, dk (s6 _ _ e4), kD i, dk upd_same, (kD_ok hi).1, (kD_ok hi).1, ?_⟩
      rw [(kD_ok hi).2]
      exact k _ ((((s0.trans s3).trans s4).trans s6))
def sp_all (P : Program) (w : World) (K : PySem.W.Frag) (mg : Str → Option Value) (base : Heap) (a : Ad) : Sp := fun vs H Q _ => ∃ (la lt : Addr) (fs : List Addr) (ths : List V) (i : Nat), vs = [.ref la, .ref lt, .int i] ∧ H la = some (.lst (fs.map V.ref)) ∧ H lt = some (.lst ths) ∧ fs.length ≤ 100 ∧ ths.length ≤ 100 ∧ i < 5 ∧
  (∀ f ∈ fs, ∀ v ∈ ths, Refd P w K mg base a f v i H) ∧ ∀ H', Same H H' → Q (.bl true) H'
theorem ok_all (T : Txt K mg a) : FnOk P w K mg base CX0 10 a.f__law_all a.d__law_all P__law_all (sp_all P w K mg base a) := by
  refine T.F__law_all.ok sc__law_all (fun vs H Q E h => ?_) (fun cdv A outer s H vs Q E hr h => ?_)
  · obtain ⟨la, lt, fs, ths, i, rfl, _⟩ := h
    rfl
  · obtain ⟨la, lt, fs, ths, i, rfl, hla, hlt, lf, ll, hi, hR, k⟩ := h
    have G__law_refused := ok_refused (P := P) (w := w) (base := base) T
    have B__law_refused := bi__law_refused T
    refine ⟨_,
(pss_cons (ps_for PassesOwn.never rfl (pi_list (pv 0)) (pg_name (i := 3) sc__law_all.nd rfl (by first | exact Or.inl rfl | exact Or.inr rfl))
    (pss_one (ps_if (pt_not (pt_val (pe_callB (cr_all rfl) (by rfl) T.b_all (by decide +kernel) (pa_cons (pe_lc (own := [("_law_thing", 4)]) (g := gName 4) (tt := tYes) rfl sc__law_all.nd (pi_list (pv 1)) (blkOk_by (own := [("_law_thing", 4)]) (N := N__law_all) (sc := defScope st__law_all) (by decide +kernel)) (fun _ _ _ _ _ => (pg_name (i := 4) sc__law_all.nd rfl (by first | exact Or.inl rfl | exact Or.inr rfl))) (fun _ _ _ _ _ => pts_nil) (fun _ _ _ _ _ => (pe_call G__law_refused (hr.mono (by decide)) rfl T.f__law_refused.g T.f__law_refused.k B__law_refused .nil pass0 (pa_cons (pv 3) (pa_cons (pv 4) (pa_cons (pv 2) pa_nil)))))) pa_nil)))) (pss_one (ps_ret pe_bl)) pss_nil)))
    (pss_one (ps_ret pe_bl)))
      , ?_⟩
    rw [show start N__law_all [V.ref la, V.ref lt, V.int i] = [some (.ref la), some (.ref lt), some (.int i), none, none] from rfl]
    refine tseq_split (fun σ' H' => Same H H') (fun N hN => ?_) (fun σ' H' s => by walk_at "rd"; exact k _ s)
    refine tfor_it (J := Itl K la) (H1 := H) (n := (fs.map V.ref).length) (G := fun H => SqL K H la (fs.map V.ref)) (fun R hR => ?_) walk_list (fun j σ G => Same H G ∧ ∃ v, σ = [some (.ref la), some (.ref lt), some (.int i), v, none]) ⟨Same.refl _, _, rfl⟩ (fun _ _ _ _ h => .inl (.inl (h.1 _ _ hla))) ?_ (fun σ G h => hN _ _ h.1)
    · walk_at "rd"
      exact ⟨⟨_, .inl (.inl hla)⟩, hR⟩
    rintro j x σ G G' hj ⟨sG, v3, rfl⟩ ⟨rfl, hx⟩
    rw [List.getElem?_map] at hx
    obtain ⟨f, hf, rfl⟩ := Option.map_eq_some_iff.mp hx
    walk_at "rd"
    refine tlc_map ths (fun _ => .bl true) (J := Itl K lt) (H1 := G') (G := fun H => SqL K H lt ths) (fun R hR => ?_) walk_list (by omega) (fun H s => .inl (.inl (s _ _ (sG _ _ hlt)))) ?_ ?_
    · walk_at "rd"
      exact ⟨⟨_, .inl (.inl (sG _ _ hlt))⟩, hR⟩
    · rintro R R' m u x F F' hm sF ⟨rfl, hx⟩ hk
      rw [hm] at hx
      cases hx
      walk_at "rd"
      exact ⟨f, u, i, rfl, hi, (hR f (List.mem_of_getElem? hf) u (List.mem_of_getElem? hm)).same (sG.trans sF), fun H4 s4 => hk _ s4⟩
    · intro D F hD sF eF
      walk_at "rd"
      refine ⟨ths.map fun _ => true, .inl (.inl (by rw [List.map_map]; exact eF)), ?_⟩
      refine ite2 (fun c => ?_) (fun _ => ⟨sG.trans sF, ?_⟩)
      · exfalso
        rw [List.all_map, Bool.eq_false_iff] at c
        exact c (List.all_eq_true.mpr fun _ _ => rfl)
      · exact ⟨_, rfl⟩
end
end Qw

set_option Elab.async false
set_option linter.all false
set_option maxRecDepth 100000
set_option maxHeartbeats 4000000
namespace Qw
open PySem L2 LamX NdefX
local macro_rules | `(tactic| walk_at "rd") => `(tactic| simp only [iEnum, iRng3, tRevL, rSlS, rSlL, gSub, rSetL, wipe, List.map_cons, List.map_nil, rAll, rAny, rIsi, tM1, tM0, iZipLT, iZip, iRng2, tLenSetS, rListStr, rMulS, rRep, rCntB, tRevS, rNeD, rEqD, tSeq, tNext, tAsg, tRet, tRetN, tDrop, tIfS, sFld, sFldAug, tVar, tC, tOp, tUn, tTest, tB, tAnd, tOr, tNot, tAndV, tOrV, tNotV, tIf, tTup, tLst, tCons, tNil, tCB, tCall, tMeth, tMake, tFld, rI, rI0, rU, rEq, rNe, rCat, gName, gTup, gCons, gNil, tPar, tPar3, tBM, tBM0, rAppend, rExtend, rPopAt, rIxL, rIxT, rIxS, tSl, rSlS, rSlL, tPart, tNoPart, iStr, iTup, iList, iRng1, tAug, ipI, L2.rAdd, L2.rSub, L2.rAddS, tChain, rIsB, rNotB, scal_ss, scal_ii, scal_bb, scal_nn, scal_in, scal_ni, tYes,
  cx_K, cx_N, List.getElem?_cons_zero, List.getElem?_cons_succ, List.set_cons_zero, List.set_cons_succ, List.nil_append, List.cons_append, List.append_nil, List.length_cons, List.length_nil, Nat.zero_add,
  Option.some.injEq, V.ref.injEq, V.int.injEq, V.str.injEq, V.bl.injEq, HO.ins.injEq, HO.lst.injEq, HO.tup.injEq, List.cons.injEq, exists_eq_left, exists_eq_left', exists_eq_right, exists_eq_right', and_true, true_and, exists_and_left, exists_and_right, and_assoc, decide_eq_true_eq, Bool.not_eq_true', decide_eq_false_iff_not, reduceCtorEq, exists_const, forall_const, if_true, if_false, false_and, and_false, ite_true, ite_false, Bool.true_eq_false, Bool.false_eq_true, Nat.reduceLeDiff, Nat.reduceAdd, small_line, small_lt, upd_ne, ne_eq, not_false_eq_true, Nat.zero_le, Prod.mk.injEq, upd_same, upd_upd, S_tl, S_len, S_app, S_one, S_inj,
  lk_breaks, lk_hard, lk_soft, lk_bend, lk_note, lk_rules, lk_state, lk_bent, lk_word, lk_begun, lk_opened, lk_place, pt_state, pt_bent, pt_word, pt_wordS, pt_wordN, pt_begun, pt_opened, pt_place, pt_place1, len_mf, litv_empty, litv_note, litv_nl, mf_inj, rf_inj, lkn_begin, lkn_ended, lkn_plain, lkn_quoted, lkn_step, lkn_fault, lkn_key, lkn_told, lkn_quotes, lkn_special, pt_open1, not_true_eq_false, not_false_eq_true])
local macro_rules | `(tactic| walk_at "rdh") => `(tactic| simp only [iEnum, iRng3, tRevL, rSlS, rSlL, gSub, rSetL, wipe, List.map_cons, List.map_nil, rAll, rAny, rIsi, tM1, tM0, iZipLT, iZip, iRng2, tLenSetS, rListStr, rMulS, rRep, rCntB, tRevS, rNeD, rEqD, tSeq, tNext, tAsg, tRet, tRetN, tDrop, tIfS, sFld, sFldAug, tVar, tC, tOp, tUn, tTest, tB, tAnd, tOr, tNot, tAndV, tOrV, tNotV, tIf, tTup, tLst, tCons, tNil, tCB, tCall, tMeth, tMake, tFld, rI, rI0, rU, rEq, rNe, rCat, gName, gTup, gCons, gNil, tPar, tPar3, tBM, tBM0, rAppend, rExtend, rPopAt, rIxL, rIxT, rIxS, tSl, rSlS, rSlL, tPart, tNoPart, iStr, iTup, iList, iRng1, tAug, ipI, L2.rAdd, L2.rSub, L2.rAddS, tChain, rIsB, rNotB, scal_ss, scal_ii, scal_bb, scal_nn, scal_in, scal_ni, tYes,
  cx_K, cx_N, List.getElem?_cons_zero, List.getElem?_cons_succ, List.set_cons_zero, List.set_cons_succ, List.nil_append, List.cons_append, List.append_nil, List.length_cons, List.length_nil, Nat.zero_add,
  Option.some.injEq, V.ref.injEq, V.int.injEq, V.str.injEq, V.bl.injEq, HO.ins.injEq, HO.lst.injEq, HO.tup.injEq, List.cons.injEq, exists_eq_left, exists_eq_left', exists_eq_right, exists_eq_right', and_true, true_and, exists_and_left, exists_and_right, and_assoc, decide_eq_true_eq, Bool.not_eq_true', decide_eq_false_iff_not, reduceCtorEq, exists_const, forall_const, if_true, if_false, false_and, and_false, ite_true, ite_false, Bool.true_eq_false, Bool.false_eq_true, Nat.reduceLeDiff, Nat.reduceAdd, small_line, small_lt, upd_ne, ne_eq, not_false_eq_true, Nat.zero_le, Prod.mk.injEq, upd_same, upd_upd, S_tl, S_len, S_app, S_one, S_inj,
  lk_breaks, lk_hard, lk_soft, lk_bend, lk_note, lk_rules, lk_state, lk_bent, lk_word, lk_begun, lk_opened, lk_place, pt_state, pt_bent, pt_word, pt_wordS, pt_wordN, pt_begun, pt_opened, pt_place, pt_place1, len_mf, litv_empty, litv_note, litv_nl, mf_inj, rf_inj, lkn_begin, lkn_ended, lkn_plain, lkn_quoted, lkn_step, lkn_fault, lkn_key, lkn_told, lkn_quotes, lkn_special, pt_open1, not_true_eq_false, not_false_eq_true, *])
local macro_rules | `(tactic| walk_at "pl") => `(tactic| (first | decide | (refine Nat.lt_of_le_of_lt (length_putF _ _ _) ?_; repeat (first | decide | refine pl2 ?_))))
local macro_rules | `(tactic| walk_at "al") => `(tactic| (intro p hp; generalize hH : upd _ p _ = H1; obtain ⟨S, e⟩ := gen_new hH hp; clear hH))
/-! ### no rules: the law's lambdas -/
def lamsE : Nat → Expr → List Expr
  | 0, _ => []
  | n + 1, e => match e with
    | .Lambda _ _ _ _ => [e]
    | .List es _ => es.flatMap (lamsE n)
    | .Tuple es _ _ => es.flatMap (lamsE n)
    | .Call _ es _ _ => es.flatMap (lamsE n)
    | .BoolOp _ es _ => es.flatMap (lamsE n)
    | .UnaryOp _ x _ => lamsE n x
    | .BinOp l _ r _ => lamsE n l ++ lamsE n r
    | _ => []
def lamsS : Nat → Stmt → List Expr
  | 0, _ => []
  | n + 1, s => match s with
    | .Assign _ e _ => lamsE n e
    | .If t b o _ => lamsE n t ++ b.flatMap (lamsS n) ++ o.flatMap (lamsS n)
    | .For _ _ b _ _ => b.flatMap (lamsS n)
    | .Return (some e) _ => lamsE n e
    | _ => []
def lamA : Expr → Arguments
  | .Lambda p _ _ _ => p
  | _ => ⟨[], [], none, [], [], none, []⟩
def lamB : Expr → Expr
  | .Lambda _ b _ _ => b
  | e => e
def lamS : Expr → Scope
  | .Lambda _ _ s _ => s
  | _ => { kind := .function, names := [], isGenerator := false, isCoroutine := false, more := [] }
theorem ne_tab {G : Hp} {P b : Addr} {q : Str} {o : HO} (t : TabS G P q) (e : G b = some o) (n : ∀ ps, o ≠ .tbl ps) : b ≠ P := fun z => by
  obtain ⟨ps, h, _⟩ := t
  rw [z, h] at e
  exact n ps (Option.some.inj e).symm
abbrev lamsR : List Expr := (defBody st__law_rules_right).flatMap (lamsS 12)
abbrev lamR (i : Nat) : Expr := lamsR.getD i (.Constant .none 0 ⟨0, 0, 0, 0⟩)
def qR : Str := "_law_rules_right.<locals>.<lambda>"
def LR (i : Nat) (cl : List (Str × Addr)) (c' : Addr) : LF := ⟨qR, lamA (lamR i), lamB (lamR i), lamS (lamR i), cl, c'⟩
theorem eHa : Str.ofString "'" = S [39] := by decide +kernel
theorem eSo : Str.ofString "\"" = S [34] := by decide +kernel
theorem eBe : Str.ofString "\\" = S [92] := by decide +kernel
theorem eNo : Str.ofString "#" = S [35] := by decide +kernel
theorem eSp : Str.ofString " " = S [32] := by decide +kernel
/-- five things that are no rules -/
def NoR5 (K : PySem.W.Frag) (H : Hp) (t : V × V × V × V × V) : Prop := ∃ (b0 b1 b2 b3 b4 : Bool), PartB K H t.1 4 b0 ∧ PartB K H t.2.1 2 b1 ∧ PartB K H t.2.2.1 2 b2 ∧ PartB K H t.2.2.2.1 1 b3 ∧ PartB K H t.2.2.2.2 1 b4 ∧
  ([b0, b1, b2, b3, b4].all id = false ∨ ([b0, b1, b2, b3, b4].all id = true ∧ ∃ r : RS, t.1 = .str (S r.breaks) ∧ t.2.1 = .str (S r.hard) ∧ t.2.2.1 = .str (S r.soft) ∧ t.2.2.2.1 = .str (S r.bend) ∧ t.2.2.2.2 = .str (S r.note) ∧ r.every.length ≤ 10 ∧ (r.breaks = [] ∨ (r.breaks ≠ [] ∧ (uniq r.every).length < r.every.length))))
theorem NoR5.same {K : PySem.W.Frag} {H H' : Hp} {t : V × V × V × V × V} (h : NoR5 K H t) (s : Same H H') : NoR5 K H' t := by
  obtain ⟨b0, b1, b2, b3, b4, q0, q1, q2, q3, q4, z⟩ := h
  exact ⟨b0, b1, b2, b3, b4, q0.same s, q1.same s, q2.same s, q3.same s, q4.same s, z⟩
/-- the texts that a lambda hands on with its thing -/
def argsR : Nat → V → V × V × V × V × V
  | 0, v => (v, .str (S [39]), .str (S [34]), .str (S [92]), .str (S [35]))
  | 1, v => (.str (S [32]), v, .str (S [34]), .str (S [92]), .str (S [35]))
  | 2, v => (.str (S [32]), .str (S [39]), v, .str (S [92]), .str (S [35]))
  | 3, v => (.str (S [32]), .str (S [39]), .str (S []), v, .str (S [35]))
  | _, v => (.str (S [32]), .str (S [39]), .str (S []), .str (S []), v)
section
variable {P : Program} {w : World} {K : PySem.W.Frag} {mg : Str → Option Value} {base : Heap} {a : Ad}
theorem rinX {t : V × V × V × V × V} {H H1 : Hp} {x dx : Addr} {Q : VK} {E : XK} (n : NoR5 K H t) (e : H1 x = some (.ins a.c_Rules dx [])) (s : Same H H1) (k : ∀ H', Same H H' → E (.ref a.c_BadRules) none H') : sp_Rules_initX K a [.ref x, t.1, t.2.1, t.2.2.1, t.2.2.2.1, t.2.2.2.2] H1 Q E := by
  obtain ⟨b0, b1, b2, b3, b4, q0, q1, q2, q3, q4, z⟩ := n.same s
  exact ⟨x, dx, _, _, _, _, _, b0, b1, b2, b3, b4, rfl, e, q0, q1, q2, q3, q4, z, fun H' s' => k H' (s.trans s')⟩
def sp_lamR (K : PySem.W.Frag) (a : Ad) (i : Nat) : Sp := fun vs H Q E => ∃ v, vs = [v] ∧ NoR5 K H (argsR i v) ∧ ∀ H', Same H H' → E (.ref a.c_BadRules) none H'
theorem bi_Rules_d1 (T : Txt K mg a) : ∃ ds, Vals [.str ("'" : Str), .str ("\"" : Str), .str ("\\" : Str), .str ("#" : Str)] ds ∧ Binds K a.d_Rules_init P_Rules_init ds := T.F_Rules_init.binds1 (ps := P_Rules_init) 2 1 (by decide) rfl fun T kV doc pm an cdv ct us its h1 h2 => match us, h1, its, h2 with | [_, _], _, [_, _, _, _, _], _ => ⟨_, rfl, rfl⟩
theorem bi_Rules_d2 (T : Txt K mg a) : ∃ ds, Vals [.str ("\"" : Str), .str ("\\" : Str), .str ("#" : Str)] ds ∧ Binds K a.d_Rules_init P_Rules_init ds := T.F_Rules_init.binds1 (ps := P_Rules_init) 3 2 (by decide) rfl fun T kV doc pm an cdv ct us its h1 h2 => match us, h1, its, h2 with | [_, _, _], _, [_, _, _, _, _], _ => ⟨_, rfl, rfl⟩
theorem bi_Rules_d3 (T : Txt K mg a) : ∃ ds, Vals [.str ("\\" : Str), .str ("#" : Str)] ds ∧ Binds K a.d_Rules_init P_Rules_init ds := T.F_Rules_init.binds1 (ps := P_Rules_init) 4 3 (by decide) rfl fun T kV doc pm an cdv ct us its h1 h2 => match us, h1, its, h2 with | [_, _, _, _], _, [_, _, _, _, _], _ => ⟨_, rfl, rfl⟩
theorem bi_Rules_d4 (T : Txt K mg a) : ∃ ds, Vals [.str ("#" : Str)] ds ∧ Binds K a.d_Rules_init P_Rules_init ds := T.F_Rules_init.binds1 (ps := P_Rules_init) 5 4 (by decide) rfl fun T kV doc pm an cdv ct us its h1 h2 => match us, h1, its, h2 with | [_, _, _, _, _], _, [_, _, _, _, _], _ => ⟨_, rfl, rfl⟩
theorem lokR0 (T : Txt K mg a) (c' : Addr) : LOk P w K mg base (L2.CX P w) 8 (LR 0 [] c') ["_law_a"] [] [] (sp_lamR K a 0) := by
  have G := ok_Rules_initX (P := P) (w := w) (base := base) T
  obtain ⟨Ds, D, B⟩ := bi_Rules_d1 T
  refine lok_of (N := ["_law_a"]) (show NScope _ _ _ (lamS (lamR 0)) from nscope_by (by decide +kernel)) (fun pm ctv us hl => match us, hl with | [_], _ => rfl) (fun vs H Q E h => ?_) (fun f A outer s H vs Q E hr h => ?_)
  · obtain ⟨v, rfl, _⟩ := h
    rfl
  · obtain ⟨v, rfl, nr, k⟩ := h
    refine ⟨_, (pe_make T.c_Rules.mc G (hr.mono (by decide)) rfl T.c_Rules.g B D (passes_call (takes_of rfl rfl rfl rfl) fun _ _ _ _ z => z) (pa_cons (pv 0) pa_nil)), ?_⟩
    rw [show startF ["_law_a"] [v] [] = [some v] from rfl]
    walk_at "rd"
    intro x dx hx hdx ne
    have sx : Same H (upd (upd H dx (HO.own x)) x (HO.ins a.c_Rules dx [])) := (same_new hdx).trans (same_new (by rw [upd_ne (Ne.symm ne)]; exact hx))
    simp only [eHa, eSo, eBe, eNo, eSp]
    exact rinX nr upd_same sx k
theorem lokR1 (T : Txt K mg a) (c' : Addr) : LOk P w K mg base (L2.CX P w) 8 (LR 1 [] c') ["_law_b"] [] [] (sp_lamR K a 1) := by
  have G := ok_Rules_initX (P := P) (w := w) (base := base) T
  obtain ⟨Ds, D, B⟩ := bi_Rules_d2 T
  refine lok_of (N := ["_law_b"]) (show NScope _ _ _ (lamS (lamR 1)) from nscope_by (by decide +kernel)) (fun pm ctv us hl => match us, hl with | [_], _ => rfl) (fun vs H Q E h => ?_) (fun f A outer s H vs Q E hr h => ?_)
  · obtain ⟨v, rfl, _⟩ := h
    rfl
  · obtain ⟨v, rfl, nr, k⟩ := h
    refine ⟨_, (pe_make T.c_Rules.mc G (hr.mono (by decide)) rfl T.c_Rules.g B D (passes_call (takes_of rfl rfl rfl rfl) fun _ _ _ _ z => z) (pa_cons pe_str (pa_cons (pv 0) pa_nil))), ?_⟩
    rw [show startF ["_law_b"] [v] [] = [some v] from rfl]
    walk_at "rd"
    intro x dx hx hdx ne
    have sx : Same H (upd (upd H dx (HO.own x)) x (HO.ins a.c_Rules dx [])) := (same_new hdx).trans (same_new (by rw [upd_ne (Ne.symm ne)]; exact hx))
    simp only [eHa, eSo, eBe, eNo, eSp]
    exact rinX nr upd_same sx k
theorem lokR2 (T : Txt K mg a) (c' : Addr) : LOk P w K mg base (L2.CX P w) 8 (LR 2 [] c') ["_law_c"] [] [] (sp_lamR K a 2) := by
  have G := ok_Rules_initX (P := P) (w := w) (base := base) T
  obtain ⟨Ds, D, B⟩ := bi_Rules_d3 T
  refine lok_of (N := ["_law_c"]) (show NScope _ _ _ (lamS (lamR 2)) from nscope_by (by decide +kernel)) (fun pm ctv us hl => match us, hl with | [_], _ => rfl) (fun vs H Q E h => ?_) (fun f A outer s H vs Q E hr h => ?_)
  · obtain ⟨v, rfl, _⟩ := h
    rfl
  · obtain ⟨v, rfl, nr, k⟩ := h
    refine ⟨_, (pe_make T.c_Rules.mc G (hr.mono (by decide)) rfl T.c_Rules.g B D (passes_call (takes_of rfl rfl rfl rfl) fun _ _ _ _ z => z) (pa_cons pe_str (pa_cons pe_str (pa_cons (pv 0) pa_nil)))), ?_⟩
    rw [show startF ["_law_c"] [v] [] = [some v] from rfl]
    walk_at "rd"
    intro x dx hx hdx ne
    have sx : Same H (upd (upd H dx (HO.own x)) x (HO.ins a.c_Rules dx [])) := (same_new hdx).trans (same_new (by rw [upd_ne (Ne.symm ne)]; exact hx))
    simp only [eHa, eSo, eBe, eNo, eSp]
    exact rinX nr upd_same sx k
theorem lokR3 (T : Txt K mg a) (c' : Addr) : LOk P w K mg base (L2.CX P w) 8 (LR 3 [] c') ["_law_a"] [] [] (sp_lamR K a 3) := by
  have G := ok_Rules_initX (P := P) (w := w) (base := base) T
  obtain ⟨Ds, D, B⟩ := bi_Rules_d4 T
  refine lok_of (N := ["_law_a"]) (show NScope _ _ _ (lamS (lamR 3)) from nscope_by (by decide +kernel)) (fun pm ctv us hl => match us, hl with | [_], _ => rfl) (fun vs H Q E h => ?_) (fun f A outer s H vs Q E hr h => ?_)
  · obtain ⟨v, rfl, _⟩ := h
    rfl
  · obtain ⟨v, rfl, nr, k⟩ := h
    refine ⟨_, (pe_make T.c_Rules.mc G (hr.mono (by decide)) rfl T.c_Rules.g B D (passes_call (takes_of rfl rfl rfl rfl) fun _ _ _ _ z => z) (pa_cons pe_str (pa_cons pe_str (pa_cons pe_str (pa_cons (pv 0) pa_nil))))), ?_⟩
    rw [show startF ["_law_a"] [v] [] = [some v] from rfl]
    walk_at "rd"
    intro x dx hx hdx ne
    have sx : Same H (upd (upd H dx (HO.own x)) x (HO.ins a.c_Rules dx [])) := (same_new hdx).trans (same_new (by rw [upd_ne (Ne.symm ne)]; exact hx))
    simp only [eHa, eSo, eBe, eNo, eSp]
    exact rinX nr upd_same sx k
theorem lokR4 (T : Txt K mg a) (c' : Addr) : LOk P w K mg base (L2.CX P w) 8 (LR 4 [] c') ["_law_b"] [] [] (sp_lamR K a 4) := by
  have G := ok_Rules_initX (P := P) (w := w) (base := base) T
  have B := bi_Rules_init T
  refine lok_of (N := ["_law_b"]) (show NScope _ _ _ (lamS (lamR 4)) from nscope_by (by decide +kernel)) (fun pm ctv us hl => match us, hl with | [_], _ => rfl) (fun vs H Q E h => ?_) (fun f A outer s H vs Q E hr h => ?_)
  · obtain ⟨v, rfl, _⟩ := h
    rfl
  · obtain ⟨v, rfl, nr, k⟩ := h
    refine ⟨_, (pe_make T.c_Rules.mc G (hr.mono (by decide)) rfl T.c_Rules.g B .nil (passes_call (takes_of rfl rfl rfl rfl) fun _ _ _ _ z => z) (pa_cons pe_str (pa_cons pe_str (pa_cons pe_str (pa_cons pe_str (pa_cons (pv 0) pa_nil)))))), ?_⟩
    rw [show startF ["_law_b"] [v] [] = [some v] from rfl]
    walk_at "rd"
    intro x dx hx hdx ne
    have sx : Same H (upd (upd H dx (HO.own x)) x (HO.ins a.c_Rules dx [])) := (same_new hdx).trans (same_new (by rw [upd_ne (Ne.symm ne)]; exact hx))
    simp only [eHa, eSo, eBe, eNo, eSp]
    exact rinX nr upd_same sx k
def sp_lam5 (K : PySem.W.Frag) (a : Ad) : Sp := fun vs H Q E => ∃ tp x0 x1 x2 x3 x4, vs = [.ref tp] ∧ H tp = some (.tup [x0, x1, x2, x3, x4]) ∧ NoR5 K H (x0, x1, x2, x3, x4) ∧ ∀ H', Same H H' → E (.ref a.c_BadRules) none H'
theorem lokR5 (T : Txt K mg a) (c' : Addr) : LOk P w K mg base (L2.CX P w) 8 (LR 5 [] c') ["_law_five"] [] [] (sp_lam5 K a) := by
  have G := ok_Rules_initX (P := P) (w := w) (base := base) T
  have B := bi_Rules_init T
  refine lok_of (N := ["_law_five"]) (show NScope _ _ _ (lamS (lamR 5)) from nscope_by (by decide +kernel)) (fun pm ctv us hl => match us, hl with | [_], _ => rfl) (fun vs H Q E h => ?_) (fun f A outer s H vs Q E hr h => ?_)
  · obtain ⟨v, _, _, _, _, _, rfl, _⟩ := h
    rfl
  · obtain ⟨tp, x0, x1, x2, x3, x4, rfl, ht, nr, k⟩ := h
    refine ⟨_, (pe_make T.c_Rules.mc G (hr.mono (by decide)) rfl T.c_Rules.g B .nil (passes_call (takes_of rfl rfl rfl rfl) fun _ _ _ _ z => z) (pa_cons (pe_ix ix_tup (pv 0) pe_int (fun _ _ => rfl)) (pa_cons (pe_ix ix_tup (pv 0) pe_int (fun _ _ => rfl)) (pa_cons (pe_ix ix_tup (pv 0) pe_int (fun _ _ => rfl)) (pa_cons (pe_ix ix_tup (pv 0) pe_int (fun _ _ => rfl)) (pa_cons (pe_ix ix_tup (pv 0) pe_int (fun _ _ => rfl)) pa_nil)))))), ?_⟩
    rw [show startF ["_law_five"] [V.ref tp] [] = [some (.ref tp)] from rfl]
    walk_at "rd"
    refine ⟨_, .inl (.inl ht), _, atI_nat (j := 0) rfl, _, .inl (.inl ht), _, atI_nat (j := 1) rfl, _, .inl (.inl ht), _, atI_nat (j := 2) rfl, _, .inl (.inl ht), _, atI_nat (j := 3) rfl, _, .inl (.inl ht), _, atI_nat (j := 4) rfl, ?_⟩
    intro x dx hx hdx ne
    have sx : Same H (upd (upd H dx (HO.own x)) x (HO.ins a.c_Rules dx [])) := (same_new hdx).trans (same_new (by rw [upd_ne (Ne.symm ne)]; exact hx))
    exact rinX nr upd_same sx k
/-- two rules compared, one of them none -/
def sp_lam67 (K : PySem.W.Frag) (a : Ad) (rp : Addr) : Sp := fun vs H Q E => ∃ v, vs = [v] ∧ IsR a H (.ref rp) ∧ NoR K a H v ∧ ∀ H', Same H H' → E (.ref a.c_BadRules) none H'
theorem lokR6 (T : Txt K mg a) (cl : List (Str × Addr)) (c' rp : Addr) : LOk P w K mg base (L2.CX P w) 8 (LR 6 cl c') ["_law_a"] ["_law_rules"] [some (.ref rp)] (sp_lam67 K a rp) := by
  have G := ok_comparedX (P := P) (w := w) (base := base) T
  have B := bi_compared T
  refine lok_of (N := ["_law_a", "_law_rules"]) (show NScope _ _ _ (lamS (lamR 6)) from nscope_by (by decide +kernel)) (fun pm ctv us hl => match us, hl with | [_], _ => rfl) (fun vs H Q E h => ?_) (fun f A outer s H vs Q E hr h => ?_)
  · obtain ⟨v, rfl, _⟩ := h
    rfl
  · obtain ⟨v, rfl, h1, h2, k⟩ := h
    refine ⟨_, (pe_call G (hr.mono (by decide)) rfl T.f_compared.g T.f_compared.k B .nil (passes_call (takes_of rfl rfl rfl rfl) fun _ _ _ _ z => z) (pa_cons (pv 1) (pa_cons (pv 0) pa_nil))), ?_⟩
    rw [show startF ["_law_a", "_law_rules"] [v] [some (.ref rp)] = [some v, some (.ref rp)] from rfl]
    walk_at "rd"
    exact ⟨_, _, rfl, .inr ⟨h1, h2⟩, k⟩
theorem lokR7 (T : Txt K mg a) (cl : List (Str × Addr)) (c' rp : Addr) : LOk P w K mg base (L2.CX P w) 8 (LR 7 cl c') ["_law_b"] ["_law_rules"] [some (.ref rp)] (sp_lam67 K a rp) := by
  have G := ok_comparedX (P := P) (w := w) (base := base) T
  have B := bi_compared T
  refine lok_of (N := ["_law_b", "_law_rules"]) (show NScope _ _ _ (lamS (lamR 7)) from nscope_by (by decide +kernel)) (fun pm ctv us hl => match us, hl with | [_], _ => rfl) (fun vs H Q E h => ?_) (fun f A outer s H vs Q E hr h => ?_)
  · obtain ⟨v, rfl, _⟩ := h
    rfl
  · obtain ⟨v, rfl, h1, h2, k⟩ := h
    refine ⟨_, (pe_call G (hr.mono (by decide)) rfl T.f_compared.g T.f_compared.k B .nil (passes_call (takes_of rfl rfl rfl rfl) fun _ _ _ _ z => z) (pa_cons (pv 0) (pa_cons (pv 1) pa_nil))), ?_⟩
    rw [show startF ["_law_b", "_law_rules"] [v] [some (.ref rp)] = [some v, some (.ref rp)] from rfl]
    walk_at "rd"
    exact ⟨_, _, rfl, .inl ⟨h2, h1⟩, k⟩
/-! ### the lambdas refuse -/
def LamAt (H : Hp) (L : Addr → LF) (f c : Addr) : Prop := H f = some (LamO f (L c)) ∧ H c = some (CodeO c (L c).qual)
theorem LamAt.same {H H' : Hp} {L : Addr → LF} {f c : Addr} (h : LamAt H L f c) (s : Same H H') : LamAt H' L f c := ⟨s _ _ h.1, s _ _ h.2⟩
theorem cells0 {H : Hp} : CellsL [] [] [] [] H := ⟨fun _ _ z => (nomatch z), rfl, fun _ _ z => (nomatch z), fun _ _ _ z => (nomatch z), fun _ _ z => (by simp at z)⟩
/-- a lambda that captures nothing -/
theorem refd0 {L : Addr → LF} {f c : Addr} {v : V} {i : Nat} {H : Hp} {pn : Str} {sp : Sp} (hcl : (L c).cl = []) (lo : LOk P w K mg base (L2.CX P w) 8 (L c) [pn] [] [] sp) (l : LamAt H L f c) (hc : (L c).c = c)
    (h : ∀ H', Same H H' → ∀ (Q : VK) (E : XK), (∀ d H2, (d = none ∨ ∃ dd fs, d = some dd ∧ H2 dd = some (.xd fs)) → Same H' H2 → E (.ref (cE a i)) d H2) → sp [v] H' Q E) : Refd P w K mg base a f v i H := fun H' s =>
  ⟨L c, _, _, _, sp, [], lo, s _ _ l.1, by rw [hc]; exact s _ _ l.2, by rw [hcl]; exact cells0, rfl, rfl, fun Q E k => h H' s Q E k⟩
theorem lokRi (T : Txt K mg a) {i : Nat} (hi : i < 5) (c : Addr) : ∃ pn, LOk P w K mg base (L2.CX P w) 8 (LR i [] c) [pn] [] [] (sp_lamR K a i) := by
  match i, hi with
  | 0, _ => exact ⟨_, lokR0 T c⟩
  | 1, _ => exact ⟨_, lokR1 T c⟩
  | 2, _ => exact ⟨_, lokR2 T c⟩
  | 3, _ => exact ⟨_, lokR3 T c⟩
  | 4, _ => exact ⟨_, lokR4 T c⟩
theorem refdR (T : Txt K mg a) {i : Nat} {f c : Addr} {v : V} {H : Hp} (hi : i < 5) (l : LamAt H (LR i []) f c) (n : NoR5 K H (argsR i v)) : Refd P w K mg base a f v 0 H := by
  obtain ⟨pn, lo⟩ := lokRi (P := P) (w := w) (base := base) T hi c
  exact refd0 (L := LR i []) rfl lo l rfl (fun H' s Q E k => ⟨v, rfl, n.same s, fun H2 s2 => k none H2 (.inl rfl) s2⟩)
/-! ### things that are no rules, decided -/
def okP (m : Int) (t : Tx) : Bool := t.all sgn && decide ((t.length : Int) ≤ m)
theorem partB_txt {H : Hp} {t : Tx} {m : Int} (h : t.length ≤ 50000) : PartB K H (.str (S t)) m (okP m t) := by
  cases e : t.all sgn with
  | false => exact .inl ⟨.inr ⟨t, rfl, h, e⟩, by rw [okP, e]; rfl⟩
  | true => exact .inr ⟨t, rfl, h, e, by rw [okP, e]; rfl⟩
def noRb (t : Tx × Tx × Tx × Tx × Tx) : Bool := decide (t.1.length ≤ 500) && decide (t.2.1.length ≤ 500) && decide (t.2.2.1.length ≤ 500) && decide (t.2.2.2.1.length ≤ 500) && decide (t.2.2.2.2.length ≤ 500) &&
  (!([okP 4 t.1, okP 2 t.2.1, okP 2 t.2.2.1, okP 1 t.2.2.2.1, okP 1 t.2.2.2.2].all id) || (decide ((RS.every ⟨t.1, t.2.1, t.2.2.1, t.2.2.2.1, t.2.2.2.2⟩).length ≤ 10) && (decide (t.1 = []) || decide ((uniq (RS.every ⟨t.1, t.2.1, t.2.2.1, t.2.2.2.1, t.2.2.2.2⟩)).length < (RS.every ⟨t.1, t.2.1, t.2.2.1, t.2.2.2.1, t.2.2.2.2⟩).length))))
theorem noR5_txt {H : Hp} {t : Tx × Tx × Tx × Tx × Tx} (h : noRb t = true) : NoR5 K H (.str (S t.1), .str (S t.2.1), .str (S t.2.2.1), .str (S t.2.2.2.1), .str (S t.2.2.2.2)) := by
  simp only [noRb, Bool.and_eq_true, decide_eq_true_eq] at h
  obtain ⟨⟨⟨⟨⟨l0, l1⟩, l2⟩, l3⟩, l4⟩, h⟩ := h
  refine ⟨_, _, _, _, _, partB_txt (by omega), partB_txt (by omega), partB_txt (by omega), partB_txt (by omega), partB_txt (by omega), ?_⟩
  cases e : ([okP 4 t.1, okP 2 t.2.1, okP 2 t.2.2.1, okP 1 t.2.2.2.1, okP 1 t.2.2.2.2].all id) with
  | false => exact .inl rfl
  | true =>
    rw [e] at h
    simp only [Bool.not_true, Bool.false_or, Bool.and_eq_true, Bool.or_eq_true, decide_eq_true_eq] at h
    refine .inr ⟨rfl, ⟨t.1, t.2.1, t.2.2.1, t.2.2.2.1, t.2.2.2.2⟩, rfl, rfl, rfl, rfl, rfl, h.1, ?_⟩
    by_cases z : t.1 = []
    · exact .inl z
    · exact .inr ⟨z, h.2.resolve_left z⟩
def argsT : Nat → Tx → Tx × Tx × Tx × Tx × Tx
  | 0, v => (v, [39], [34], [92], [35])
  | 1, v => ([32], v, [34], [92], [35])
  | 2, v => ([32], [39], v, [92], [35])
  | 3, v => ([32], [39], [], v, [35])
  | _, v => ([32], [39], [], [], v)
theorem noR5_args {H : Hp} {i : Nat} {t : Tx} (hi : i < 5) (h : noRb (argsT i t) = true) : NoR5 K H (argsR i (.str (S t))) := by
  match i, hi, h with
  | 0, _, h => exact noR5_txt (t := (t, [39], [34], [92], [35])) h
  | 1, _, h => exact noR5_txt (t := ([32], t, [34], [92], [35])) h
  | 2, _, h => exact noR5_txt (t := ([32], [39], t, [92], [35])) h
  | 3, _, h => exact noR5_txt (t := ([32], [39], [], t, [35])) h
  | 4, _, h => exact noR5_txt (t := ([32], [39], [], [], t)) h
theorem noR5_bad {H : Hp} {i : Nat} {v : V} (hi : i < 5) (b : BadT K H v) : NoR5 K H (argsR i v) := by
  have t : ∀ {u : Tx} {m : Int}, u.length ≤ 1 → PartB K H (.str (S u)) m (okP m u) := fun h => partB_txt (by omega)
  match i, hi with
  | 0, _ => exact ⟨false, _, _, _, _, .inl ⟨b, rfl⟩, t (by decide), t (by decide), t (by decide), t (by decide), .inl (by simp)⟩
  | 1, _ => exact ⟨_, false, _, _, _, t (by decide), .inl ⟨b, rfl⟩, t (by decide), t (by decide), t (by decide), .inl (by simp)⟩
  | 2, _ => exact ⟨_, _, false, _, _, t (by decide), t (by decide), .inl ⟨b, rfl⟩, t (by decide), t (by decide), .inl (by simp)⟩
  | 3, _ => exact ⟨_, _, _, false, _, t (by decide), t (by decide), t (by decide), .inl ⟨b, rfl⟩, t (by decide), .inl (by simp)⟩
  | 4, _ => exact ⟨_, _, _, _, false, t (by decide), t (by decide), t (by decide), t (by decide), .inl ⟨b, rfl⟩, .inl (by simp)⟩
/-- no text, or one of some -/
def Th (K : PySem.W.Frag) (TS : List Tx) (H : Hp) (v : V) : Prop := BadT K H v ∨ ∃ t ∈ TS, v = .str (S t)
theorem noR5_th {H : Hp} {i : Nat} {v : V} {TS : List Tx} (hi : i < 5) (h : Th K TS H v) (d : TS.all (fun t => noRb (argsT i t)) = true) : NoR5 K H (argsR i v) := by
  rcases h with b | ⟨t, ht, rfl⟩
  · exact noR5_bad hi b
  · exact noR5_args hi (List.all_eq_true.mp d t ht)
theorem bad_ty {H : Hp} {v : V} {b : String} (t : TyX K H v (.type b)) (h : PySem.W.kitOne K (.type b) (.type "str") = some false) : BadT K H v := .inl ⟨_, t, h⟩
end
end Qw

set_option Elab.async false
set_option linter.all false
set_option maxRecDepth 100000
set_option maxHeartbeats 4000000
namespace Qw
open PySem L2 LamX NdefX PySem.Spec PyProof.Rows
local macro_rules | `(tactic| walk_at "rd") => `(tactic| simp only [iEnum, iRng3, tRevL, rSlS, rSlL, gSub, rSetL, wipe, List.map_cons, List.map_nil, rAll, rAny, rIsi, tM1, tM0, iZipLT, iZip, iRng2, tLenSetS, rListStr, rMulS, rRep, rCntB, tRevS, rNeD, rEqD, tSeq, tNext, tAsg, tRet, tRetN, tDrop, tIfS, sFld, sFldAug, tVar, tC, tOp, tUn, tTest, tB, tAnd, tOr, tNot, tAndV, tOrV, tNotV, tIf, tTup, tLst, tCons, tNil, tCB, tCall, tMeth, tMake, tFld, rI, rI0, rU, rEq, rNe, rCat, gName, gTup, gCons, gNil, tPar, tPar3, tBM, tBM0, rAppend, rExtend, rPopAt, rIxL, rIxT, rIxS, tSl, rSlS, rSlL, tPart, tNoPart, iStr, iTup, iList, iRng1, tAug, ipI, L2.rAdd, L2.rSub, L2.rAddS, tChain, rIsB, rNotB, scal_ss, scal_ii, scal_bb, scal_nn, scal_in, scal_ni, tYes,
  cx_K, cx_N, List.getElem?_cons_zero, List.getElem?_cons_succ, List.set_cons_zero, List.set_cons_succ, List.nil_append, List.cons_append, List.append_nil, List.length_cons, List.length_nil, Nat.zero_add,
  Option.some.injEq, V.ref.injEq, V.int.injEq, V.str.injEq, V.bl.injEq, HO.ins.injEq, HO.lst.injEq, HO.tup.injEq, List.cons.injEq, exists_eq_left, exists_eq_left', exists_eq_right, exists_eq_right', and_true, true_and, exists_and_left, exists_and_right, and_assoc, decide_eq_true_eq, Bool.not_eq_true', decide_eq_false_iff_not, reduceCtorEq, exists_const, forall_const, if_true, if_false, false_and, and_false, ite_true, ite_false, Bool.true_eq_false, Bool.false_eq_true, Nat.reduceLeDiff, Nat.reduceAdd, small_line, small_lt, upd_ne, ne_eq, not_false_eq_true, Nat.zero_le, Prod.mk.injEq, upd_same, upd_upd, S_tl, S_len, S_app, S_one, S_inj,
  lk_breaks, lk_hard, lk_soft, lk_bend, lk_note, lk_rules, lk_state, lk_bent, lk_word, lk_begun, lk_opened, lk_place, pt_state, pt_bent, pt_word, pt_wordS, pt_wordN, pt_begun, pt_opened, pt_place, pt_place1, len_mf, litv_empty, litv_note, litv_nl, mf_inj, rf_inj, lkn_begin, lkn_ended, lkn_plain, lkn_quoted, lkn_step, lkn_fault, lkn_key, lkn_told, lkn_quotes, lkn_special, pt_open1, not_true_eq_false, not_false_eq_true])
local macro_rules | `(tactic| walk_at "rdh") => `(tactic| simp only [iEnum, iRng3, tRevL, rSlS, rSlL, gSub, rSetL, wipe, List.map_cons, List.map_nil, rAll, rAny, rIsi, tM1, tM0, iZipLT, iZip, iRng2, tLenSetS, rListStr, rMulS, rRep, rCntB, tRevS, rNeD, rEqD, tSeq, tNext, tAsg, tRet, tRetN, tDrop, tIfS, sFld, sFldAug, tVar, tC, tOp, tUn, tTest, tB, tAnd, tOr, tNot, tAndV, tOrV, tNotV, tIf, tTup, tLst, tCons, tNil, tCB, tCall, tMeth, tMake, tFld, rI, rI0, rU, rEq, rNe, rCat, gName, gTup, gCons, gNil, tPar, tPar3, tBM, tBM0, rAppend, rExtend, rPopAt, rIxL, rIxT, rIxS, tSl, rSlS, rSlL, tPart, tNoPart, iStr, iTup, iList, iRng1, tAug, ipI, L2.rAdd, L2.rSub, L2.rAddS, tChain, rIsB, rNotB, scal_ss, scal_ii, scal_bb, scal_nn, scal_in, scal_ni, tYes,
  cx_K, cx_N, List.getElem?_cons_zero, List.getElem?_cons_succ, List.set_cons_zero, List.set_cons_succ, List.nil_append, List.cons_append, List.append_nil, List.length_cons, List.length_nil, Nat.zero_add,
  Option.some.injEq, V.ref.injEq, V.int.injEq, V.str.injEq, V.bl.injEq, HO.ins.injEq, HO.lst.injEq, HO.tup.injEq, List.cons.injEq, exists_eq_left, exists_eq_left', exists_eq_right, exists_eq_right', and_true, true_and, exists_and_left, exists_and_right, and_assoc, decide_eq_true_eq, Bool.not_eq_true', decide_eq_false_iff_not, reduceCtorEq, exists_const, forall_const, if_true, if_false, false_and, and_false, ite_true, ite_false, Bool.true_eq_false, Bool.false_eq_true, Nat.reduceLeDiff, Nat.reduceAdd, small_line, small_lt, upd_ne, ne_eq, not_false_eq_true, Nat.zero_le, Prod.mk.injEq, upd_same, upd_upd, S_tl, S_len, S_app, S_one, S_inj,
  lk_breaks, lk_hard, lk_soft, lk_bend, lk_note, lk_rules, lk_state, lk_bent, lk_word, lk_begun, lk_opened, lk_place, pt_state, pt_bent, pt_word, pt_wordS, pt_wordN, pt_begun, pt_opened, pt_place, pt_place1, len_mf, litv_empty, litv_note, litv_nl, mf_inj, rf_inj, lkn_begin, lkn_ended, lkn_plain, lkn_quoted, lkn_step, lkn_fault, lkn_key, lkn_told, lkn_quotes, lkn_special, pt_open1, not_true_eq_false, not_false_eq_true, *])
local macro_rules | `(tactic| walk_at "pl") => `(tactic| (first | decide | (refine Nat.lt_of_le_of_lt (length_putF _ _ _) ?_; repeat (first | decide | refine pl2 ?_))))
local macro_rules | `(tactic| walk_at "al") => `(tactic| (intro p hp; generalize hH : upd _ p _ = H1; obtain ⟨S, e⟩ := gen_new hH hp; clear hH))
section
open PySem.Spec PyProof.Rows
variable {P : Program} {w : World} {K : PySem.W.Frag} {mg : Str → Option Value} {base : Heap}
theorem fnG_ofC {k : Nat} {c : Addr} {x qual : Str} {st : Stmt} {f : Addr} {fd : FuncData} {N ps : List Str} {sp : Sp} (F : CodeAt K x qual st f fd c) (S : FnScope N ps (defScope st))
    (ln : ∀ vs H Q E, sp vs H Q E → vs.length = ps.length)
    (hb : ∀ (A : Around) (out : List Env) (s : Shared) (H : Hp) (vs : List V) (Q : VK) (E : XK),
      Free (A.deeper (envOfC qual (defScope st) s.heap.objs.size f (.ref c))) → Room k (A.deeper (envOfC qual (defScope st) s.heap.objs.size f (.ref c))) → sp vs H Q E →
      ∃ t, PSs (cxOf CX0 P w K mg base N qual (defScope st) f (.ref c) A out s H E).nox (defBody st) t ∧ t { nx := fun _ H' => Q .non H', rt := Q } (start N vs) H) :
    FnG P w K mg base (k + 1) f fd ps sp := by
  obtain ⟨oc, od, kV, doc, pm, an, ct, osl, rfl, lk, hc⟩ := F
  refine ⟨ln, fun A out s H as us vs Q E hf hr e0 b r q => ?_⟩
  have KX : K.In s.heap := e0.mod.kin.keeps fun _ _ e => (e0.bs _ _ e).1
  have lim : s.heap.NoLimit := e0.mod.nolimit.keeps fun _ _ e => (e0.bs _ _ e).1
  have kinds : ∀ y ∈ ps.zip us, (defScope st).names.lookup y.1 = some .local ∨
      ((defScope st).names.lookup y.1 = some .cell ∧ ((cellsFrom (s.heap.objs.size + 1) (defScope st).names []).lookup y.1).isSome = true) := by
    rintro ⟨n, v⟩ hy
    exact (S.par n (List.of_mem_zip hy).1).imp id fun z => ⟨z, PySem.W.cellsFrom_some _ _ _ (.inl z)⟩
  refine codeAny_call_function hr.depth (KX _ _ lk) rfl S.co
    S.gen rfl (PySem.W.codeRec_of KX hc) (b _ _ _ _ ?_)
  refine wpAny_newFunctionEnv_cells S.kind kinds fun env he s1 x => ?_
  cases he
  refine ⟨lim.keeps x.toInCall.keep, codeAny_func ?_⟩
  obtain ⟨t, ht, hq⟩ := hb A out s H vs Q E (hf.deeper _) (hr.deeper _) q
  have J := inv_start (CX := CX0) (P := P) (w := w) (K := K) (mg := mg) (base := base) (N := N) (cd := .ref c) (E := E) S hr.hd e0 (ln _ _ _ _ q) r x
  refine wpAny_mono (ht.nox.run [] s1 (start N vs) H _ J hq) (fun fl s' hs => ?_) fun _ _ hs => hs
  cases fl with
  | brk => exact hs.elim fun _ z => z.elim fun _ z => z.2.elim
  | cont => exact hs.elim fun _ z => z.elim fun _ z => z.2.elim
  | ret u =>
    obtain ⟨v, σ', H', I, rv, h⟩ := hs
    exact ⟨v, H', I.os, I.bare, I.base, I.hok, rv, h⟩
  | next =>
    obtain ⟨σ', H', I, h⟩ := hs
    exact ⟨V.non, H', I.os, I.bare, I.base, I.hok, rfl, h⟩
end
theorem _root_.L2.FnOk.toG {P : Program} {w : World} {K : PySem.W.Frag} {mg : Str → Option Value} {base : Heap} {k : Nat} {f : Addr} {fd : FuncData} {ps : List Str} {sp : Sp} (F : FnOk P w K mg base CX0 k f fd ps sp) : FnG P w K mg base k f fd ps sp :=
  ⟨F.len, fun A o s H as us vs Q E _ hr e b r q => F.run A o s H as us vs Q E hr e b r q⟩
theorem lent_same {X : Cx} {ys : List (Str × Nat)} {σ : L2.St} {cs : List (Addr × Obj)} {H H2 : Hp} (L : LentF X ys σ cs H) (s : Same (lendH cs H) H2) : (∀ b o, cs.lookup b = some o → H2 b = some (ObjO b o)) ∧ Same H (dropH cs H2) :=
  ⟨fun b o e => s _ _ (lend_in e), fun b u e => by
    cases q : cs.lookup b with
    | none => rw [drop_out q]; exact s _ _ (by rw [lend_out q]; exact e)
    | some o => rw [L.1 b o q] at e; cases e⟩
theorem lent_up {X : Cx} {ys : List (Str × Nat)} {σ : L2.St} {cs : List (Addr × Obj)} {H : Hp} {b : Addr} {u : HO} (L : LentF X ys σ cs H) (e : H b = some u) : lendH cs H b = some u ∧ cs.lookup b = none := by
  have q : cs.lookup b = none := by
    cases q : cs.lookup b with
    | none => rfl
    | some o => rw [L.1 b o q] at e; cases e
  exact ⟨(lend_out q).trans e, q⟩
section
variable {P : Program} {w : World} {K : PySem.W.Frag} {mg : Str → Option Value} {base : Heap} {a : Ad}
theorem lent_cells {X : Cx} {ys : List (Str × Nat)} {names : List (Str × NameKind)} {x : Str} {i : Nat} {σ : L2.St} {cs : List (Addr × Obj)} {H : Hp} {v : V} (hc : cloFrom X.env.cells names [] = [(x, (X.env.cells.lookup x).getD 0)]) (L : LentF X ys σ cs H) (hy : (x, i) ∈ ys) (hσ : σ[i]? = some (some v)) :
    CellsL (cloFrom X.env.cells names []) [x] [some v] cs (lendH cs H) := by
  rw [hc]
  obtain ⟨c, o, u, e1, e2, e3, e4⟩ := L.2 (x, i) hy
  dsimp only at e1 e4
  rw [e1]
  obtain ⟨u', r, rfl⟩ := e4 v hσ
  have lk : ∀ y c', List.lookup y [(x, (some c).getD 0)] = some c' → y = x ∧ c' = c := fun y c' e => by
    rw [List.lookup_cons] at e
    split at e
    · rename_i h
      exact ⟨by simpa using h, by cases e; rfl⟩
    · cases e
  have self : List.lookup x [(x, (some c).getD 0)] = some c := by rw [List.lookup_cons]; simp
  refine ⟨fun b o e => lend_in e, rfl, fun y c' e => ?_, fun y z c' a b => (lk _ _ a).1.trans (lk _ _ b).1.symm, fun j y e => ?_⟩
  · obtain ⟨rfl, rfl⟩ := lk _ _ e
    exact ⟨o, _, e2, e3⟩
  · match j, e with
    | 0, e => cases e; exact ⟨c, o, self, e2, fun v' hv => by cases hv; exact ⟨u', r, e3⟩⟩
    | j + 1, e => simp at e
/-- a lambda that captures one lent cell -/
theorem refdC {P : Program} {w : World} {K : PySem.W.Frag} {mg : Str → Option Value} {base : Heap} {a : Ad} {X : Cx} {ys : List (Str × Nat)} {names : List (Str × NameKind)} {x pn : Str} {m : Nat} {σ : L2.St} {cs : List (Addr × Obj)} {L : Addr → LF} {f c : Addr} {v u : V} {i : Nat} {F : Hp} {sp : Sp}
    (hc : cloFrom X.env.cells names [] = [(x, (X.env.cells.lookup x).getD 0)]) (LF : LentF X ys σ cs F) (hy : (x, m) ∈ ys) (hσ : σ[m]? = some (some u)) (hcl : (L c).cl = cloFrom X.env.cells names []) (hcc : (L c).c = c) (lo : LOk P w K mg base (L2.CX P w) 8 (L c) [pn] [x] [some u] sp) (l : LamAt F L f c)
    (h : ∀ H', Same F H' → ∀ (Q : VK) (E : XK), (∀ d H2, (d = none ∨ ∃ dd fs, d = some dd ∧ H2 dd = some (.xd fs)) → Same H' H2 → E (.ref (cE a i)) d H2) → sp [v] H' Q E) : Refd P w K mg base a f v i (lendH cs F) := fun H' s => by
  have cL := lent_cells hc LF hy hσ
  have q1 := lent_up LF l.1
  have q2 := lent_up LF l.2
  refine ⟨L c, _, _, _, sp, cs, lo, s _ _ q1.1, by rw [hcc]; exact s _ _ q2.1, by rw [hcl]; exact ⟨fun b o e => s _ _ (cL.lent b o e), cL.len, cL.all, cL.inj, cL.has⟩, q1.2, by rw [hcc]; exact q2.2, fun Q E k => h _ (lent_same LF s).2 Q E k⟩
theorem NoR.same {K : PySem.W.Frag} {a : Ad} {H H' : Hp} {v : V} (h : NoR K a H v) (s : Same H H') : NoR K a H' v := h.imp fun _ z => ⟨z.1.same s, z.2⟩
theorem IsR.same {a : Ad} {H H' : Hp} {v : V} (h : IsR a H v) (s : Same H H') : IsR a H' v := by
  obtain ⟨p, dr, fs, e, h⟩ := h
  exact ⟨p, dr, fs, e, s _ _ h⟩
theorem clo6 (cells : List (Str × Addr)) : cloFrom cells (lamS (lamR 6)).names [] = [(("_law_rules" : Str), (cells.lookup ("_law_rules" : Str)).getD 0)] := by kernel_rfl
theorem clo7 (cells : List (Str × Addr)) : cloFrom cells (lamS (lamR 7)).names [] = [(("_law_rules" : Str), (cells.lookup ("_law_rules" : Str)).getD 0)] := by kernel_rfl
theorem cutS_mid {t : Tx} {b e : Nat} (h : b ≤ e) (h2 : e ≤ t.length) : cutS (S t) (some (b : Int)) (some (e : Int)) = S ((t.take e).drop b) := by
  unfold cutS
  rw [S_len, HT.sIx_nat, HT.sIx_nat, Nat.min_eq_left h2, Nat.min_eq_left (Nat.le_trans h h2)]
  refine congrArg S ?_
  show (t.drop b).take (e - b) = (t.take e).drop b
  rw [List.drop_take]
def lsR : Tx := [97, 98, 99, 100, 101, 102, 103, 104, 105, 106]
def sgT (i j : Nat) : Tx := lsR.take j ++ [lsR.getD i 0] ++ lsR.drop (j + 1)
def fiveT (i j : Nat) : Tx × Tx × Tx × Tx × Tx := ((sgT i j).take 4, ((sgT i j).take 6).drop 4, ((sgT i j).take 8).drop 6, [(sgT i j).getD 8 0], [(sgT i j).getD 9 0])
theorem ij_all : (List.range 10).all (fun i => (List.range i).all fun j => decide ((sgT i j).length = 10) && noRb (fiveT i j)) = true := by decide +kernel
theorem ij {i j : Nat} (hi : i < 10) (hj : j < i) : (sgT i j).length = 10 ∧ noRb (fiveT i j) = true := by
  simpa using List.all_eq_true.mp (List.all_eq_true.mp ij_all i (List.mem_range.mpr hi)) j (List.mem_range.mpr hj)
theorem at_getD {l : Tx} {i : Nat} (h : i < l.length) : atI l (i : Int) = some (l.getD i 0) := by
  exact atI_nat (by rw [List.getD_eq_getElem?_getD, List.getElem?_eq_getElem h]; rfl)
/-- all but tables stays -/
def usualR : RS := ⟨[32], [39], [34], [92], [35]⟩
theorem usualR_ok : usualR.Ok := ⟨by decide, by decide, by decide, by decide, by decide, by decide, by decide, by decide⟩
def NTab (H H' : Hp) : Prop := ∀ b o, H b = some o → (∀ ps, o ≠ .tbl ps) → H' b = some o
theorem NTab.trans {H H1 H2 : Hp} (s : NTab H H1) (t : NTab H1 H2) : NTab H H2 := fun b o e n => t b o (s b o e n) n
theorem _root_.L2.Same.nt {H H' : Hp} (s : Same H H') : NTab H H' := fun b o e _ => s b o e
theorem nt_of {H H' : Hp} {p : Addr} {q : Str} (T : TabS H p q) (k : Kp p H H') : NTab H H' := fun b o e n => k _ _ e (ne_tab T e n)
theorem tyx_nt {H H' : Hp} {v : V} {t : Value} (h : TyX K H v t) (s : NTab H H') : TyX K H' v t := by
  cases h with
  | base b =>
    refine .base ?_
    cases b with
    | non => exact .non
    | bl x => exact .bl x
    | int i => exact .int i
    | str x => exact .str x
    | flt x => exact .flt x
    | lst e => exact .lst (s _ _ e fun _ z => by cases z)
    | frz e => exact .frz (s _ _ e fun _ z => by cases z)
    | tup e => exact .tup (s _ _ e fun _ z => by cases z)
    | dK e => exact .dK (s _ _ e fun _ z => by cases z)
    | dT e => exact .dT (s _ _ e fun _ z => by cases z)
    | ins e a b c d f => exact .ins (s _ _ e fun _ z => by cases z) a b c d f
  | byt b => exact .byt b
  | set e => exact .set (s _ _ e fun _ z => by cases z)
  | kList e c => exact .kList e c
  | kTuple e c => exact .kTuple e c
  | kDict e c => exact .kDict e c
  | fTuple e => exact .fTuple (s _ _ e fun _ z => by cases z)
  | fDict e => exact .fDict (s _ _ e fun _ z => by cases z)
theorem bad_nt {H H' : Hp} {v : V} (h : BadT K H v) (s : NTab H H') : BadT K H' v := h.imp (fun ⟨t, a, b⟩ => ⟨t, tyx_nt a s, b⟩) id
theorem th_nt {TS : List Tx} {H H' : Hp} {v : V} (h : Th K TS H v) (s : NTab H H') : Th K TS H' v := h.imp (fun b => bad_nt b s) id
theorem lam_nt {H H' : Hp} {L : Addr → LF} {f c : Addr} (h : LamAt H L f c) (s : NTab H H') : LamAt H' L f c := ⟨s _ _ h.1 fun _ z => (by unfold LamO at z; cases z), s _ _ h.2 fun _ z => (by unfold CodeO at z; cases z)⟩
theorem th_ty {TS : List Tx} {H : Hp} {v : V} {b : String} (t : TyX K H v (.type b)) (h : PySem.W.kitOne K (.type b) (.type "str") = some false) : Th K TS H v := .inl (bad_ty t h)
def TS0 : List Tx := [[9], [97, 9], [32, 9]]
def TS1 (n : Nat) : List Tx := TS0 ++ [[97, 97], [97, 98, 99, 100, 101], List.replicate (5 + n % 9) 120]
theorem ts1_all : (List.range 9).all (fun m => (List.range 5).all fun i => (TS0 ++ [[97, 97], [97, 98, 99, 100, 101], List.replicate (5 + m) 120]).all fun t => noRb (argsT i t)) = true := by decide +kernel
theorem ts1 {n i : Nat} (h : i < 5) : (TS1 n).all (fun t => noRb (argsT i t)) = true :=
  List.all_eq_true.mp (List.all_eq_true.mp ts1_all (n % 9) (List.mem_range.mpr (Nat.mod_lt _ (by decide)))) i (List.mem_range.mpr h)
def ysR : List (Str × Nat) := [("_law_rules", 8)]
def sp_rules_right (a : Ad) : Sp := fun vs H Q _ => ∃ n : Nat, vs = [.int n] ∧ TabS H a.p__law_rules_right qR ∧ ∀ H', Kp a.p__law_rules_right H H' → TabS H' a.p__law_rules_right qR → Q (.bl true) H'
theorem ok_rules_right (T : Txt K mg a) (TB : TabB base mg a.k__law_rules_right a.p__law_rules_right) : FnG P w K mg base 11 a.f__law_rules_right a.d__law_rules_right P__law_rules_right (sp_rules_right a) := by
  refine fnG_ofC T.K__law_rules_right sc__law_rules_right (fun vs H Q E h => ?_) (fun A outer s H vs Q E hfr hr h => ?_)
  · obtain ⟨n, rfl, _⟩ := h
    rfl
  · obtain ⟨n, rfl, hT, q⟩ := h
    have G__law_all := ok_all (P := P) (w := w) (base := base) T
    have B__law_all := bi__law_all T
    have G__law_refused := ok_refused (P := P) (w := w) (base := base) T
    have B__law_refused := bi__law_refused T
    have G_Rules_init := ok_Rules_init (P := P) (w := w) (base := base) T
    obtain ⟨Ds_Rules_init0, D_Rules_init0, B_Rules_init0⟩ := bi_Rules_init0 T
    have hyR : ∀ y ∈ ysR, (cxOf CX0 P w K mg base N__law_rules_right "_law_rules_right" (defScope st__law_rules_right) a.f__law_rules_right (.ref a.k__law_rules_right) A outer s H E).nox.N[y.2]? = some y.1 ∧ (cxOf CX0 P w K mg base N__law_rules_right "_law_rules_right" (defScope st__law_rules_right) a.f__law_rules_right (.ref a.k__law_rules_right) A outer s H E).nox.env.scope.names.lookup y.1 = some .cell ∧ (cxOf CX0 P w K mg base N__law_rules_right "_law_rules_right" (defScope st__law_rules_right) a.f__law_rules_right (.ref a.k__law_rules_right) A outer s H E).nox.fn y.1 = true := fun y hy => by
      rw [List.mem_singleton.mp hy]
      exact ⟨rfl, by kernel_rfl, rfl⟩
    refine ⟨_,
(pss_cons (ps_set (i := 1) sc__law_rules_right.nd rfl (by first | exact Or.inl rfl | exact Or.inr rfl) (pe_lst (pa_cons pe_int (pa_cons pe_bl (pa_cons (pe_lst (pa_cons pe_str pa_nil)) (pa_cons (pe_tup (pa_cons pe_str pa_nil)) (pa_cons pe_dnewK (pa_cons pe_str (pa_cons pe_str (pa_cons pe_str pa_nil))))))))))
    (pss_cons (ps_set (i := 2) sc__law_rules_right.nd rfl (by first | exact Or.inl rfl | exact Or.inr rfl) (pe_lst (pa_cons (pe_lamP (q := qR) TB rfl (by kernel_rfl) rfl (fun y hy e => absurd e ((by decide +kernel : ∀ y ∈ (lamS (lamR 0)).names, y.2 ≠ .free) y hy))) (pa_cons (pe_lamP (q := qR) TB rfl (by kernel_rfl) rfl (fun y hy e => absurd e ((by decide +kernel : ∀ y ∈ (lamS (lamR 1)).names, y.2 ≠ .free) y hy))) (pa_cons (pe_lamP (q := qR) TB rfl (by kernel_rfl) rfl (fun y hy e => absurd e ((by decide +kernel : ∀ y ∈ (lamS (lamR 2)).names, y.2 ≠ .free) y hy))) pa_nil)))))
    (pss_cons (ps_set (i := 2) sc__law_rules_right.nd rfl (by first | exact Or.inl rfl | exact Or.inr rfl) (pe_op op_cat (pv 2) (pe_lst (pa_cons (pe_lamP (q := qR) TB rfl (by kernel_rfl) rfl (fun y hy e => absurd e ((by decide +kernel : ∀ y ∈ (lamS (lamR 3)).names, y.2 ≠ .free) y hy))) pa_nil))))
    (pss_cons (ps_set (i := 2) sc__law_rules_right.nd rfl (by first | exact Or.inl rfl | exact Or.inr rfl) (pe_op op_cat (pv 2) (pe_lst (pa_cons (pe_lamP (q := qR) TB rfl (by kernel_rfl) rfl (fun y hy e => absurd e ((by decide +kernel : ∀ y ∈ (lamS (lamR 4)).names, y.2 ≠ .free) y hy))) pa_nil))))
    (pss_cons (ps_if (pt_not (pt_val (pe_call G__law_all (hr.mono (by decide)) rfl T.f__law_all.g T.f__law_all.k B__law_all .nil pass0 (pa_cons (pv 2) (pa_cons (pe_op op_cat (pv 1) (pe_lst (pa_cons pe_non (pa_cons pe_str (pa_cons pe_str (pa_cons (pe_op op_mul_str pe_str (pe_op op_add pe_int (pe_op op_mod (pv 0) pe_int))) pa_nil)))))) (pa_cons pe_int pa_nil)))))) (pss_one (ps_ret pe_bl)) pss_nil)
    (pss_cons (ps_if (pt_not (pt_val (pe_call G__law_all (hr.mono (by decide)) rfl T.f__law_all.g T.f__law_all.k B__law_all .nil pass0 (pa_cons (pe_slice sl_list (pv 2) po_none (po_some pe_int)) (pa_cons (pe_lst (pa_cons pe_str (pa_cons pe_str (pa_cons pe_str pa_nil)))) (pa_cons pe_int pa_nil)))))) (pss_one (ps_ret pe_bl)) pss_nil)
    (pss_cons (ps_if (PW.pt (pw_or (pt_not (pt_val (pe_call G__law_all (hr.mono (by decide)) rfl T.f__law_all.g T.f__law_all.k B__law_all .nil pass0 (pa_cons (pe_slice sl_list (pv 2) (po_some pe_int) (po_some pe_int)) (pa_cons (pe_lst (pa_cons pe_str (pa_cons pe_str (pa_cons pe_str pa_nil)))) (pa_cons pe_int pa_nil)))))) (pw_or1 (pt_not (pt_val (pe_call G__law_all (hr.mono (by decide)) rfl T.f__law_all.g T.f__law_all.k B__law_all .nil pass0 (pa_cons (pe_slice sl_list (pv 2) (po_some pe_int) po_none) (pa_cons (pe_lst (pa_cons pe_str (pa_cons pe_str (pa_cons pe_str pa_nil)))) (pa_cons pe_int pa_nil))))))))) (pss_one (ps_ret pe_bl)) pss_nil)
    (pss_cons (ps_set (i := 3) sc__law_rules_right.nd rfl (by first | exact Or.inl rfl | exact Or.inr rfl) pe_str)
    (pss_cons (ps_for PassesOwn.never rfl (pi_range1 rfl T.b_range (pa_cons pe_int pa_nil)) (pg_name (i := 4) sc__law_rules_right.nd rfl (by first | exact Or.inl rfl | exact Or.inr rfl))
    (pss_one (ps_for PassesOwn.never rfl (pi_range1 rfl T.b_range (pa_cons (pv 4) pa_nil)) (pg_name (i := 5) sc__law_rules_right.nd rfl (by first | exact Or.inl rfl | exact Or.inr rfl))
    (pss_cons (ps_set (i := 6) sc__law_rules_right.nd rfl (by first | exact Or.inl rfl | exact Or.inr rfl) (pe_op op_add_str (pe_op op_add_str (pe_slice sl_str (pv 3) po_none (po_some (pv 5))) (pe_ix ix_str (pv 3) (pv 4) (fun _ _ => rfl))) (pe_slice sl_str (pv 3) (po_some (pe_op op_add (pv 5) pe_int)) po_none)))
    (pss_cons (ps_set (i := 7) sc__law_rules_right.nd rfl (by first | exact Or.inl rfl | exact Or.inr rfl) (pe_tup (pa_cons (pe_slice sl_str (pv 6) po_none (po_some pe_int)) (pa_cons (pe_slice sl_str (pv 6) (po_some pe_int) (po_some pe_int)) (pa_cons (pe_slice sl_str (pv 6) (po_some pe_int) (po_some pe_int)) (pa_cons (pe_ix ix_str (pv 6) pe_int (fun _ _ => rfl)) (pa_cons (pe_ix ix_str (pv 6) pe_int (fun _ _ => rfl)) pa_nil)))))))
    (pss_one (ps_if (pt_not (pt_val (pe_call G__law_refused (hr.mono (by decide)) rfl T.f__law_refused.g T.f__law_refused.k B__law_refused .nil pass0 (pa_cons (pe_lamP (q := qR) TB rfl (by kernel_rfl) rfl (fun y hy e => absurd e ((by decide +kernel : ∀ y ∈ (lamS (lamR 5)).names, y.2 ≠ .free) y hy))) (pa_cons (pv 7) (pa_cons pe_int pa_nil)))))) (pss_one (ps_ret pe_bl)) pss_nil)))))))
    (pss_cons (ps_set (i := 8) sc__law_rules_right.nd rfl (by first | exact Or.inl rfl | exact Or.inr rfl) (pe_make0 T.c_Rules.mc G_Rules_init (hr.mono (by decide)) rfl T.c_Rules.g B_Rules_init0 D_Rules_init0 pass0))
    (pss_cons (ps_set (i := 2) sc__law_rules_right.nd rfl (by first | exact Or.inl rfl | exact Or.inr rfl) (pe_lst (pa_cons (pe_lamP (q := qR) TB rfl (by kernel_rfl) rfl (show ∀ y ∈ (lamS (lamR 6)).names, y.2 = .free → (defScope st__law_rules_right).names.lookup y.1 = some .cell ∨ (defScope st__law_rules_right).names.lookup y.1 = some .free from by decide +kernel)) (pa_cons (pe_lamP (q := qR) TB rfl (by kernel_rfl) rfl (show ∀ y ∈ (lamS (lamR 7)).names, y.2 = .free → (defScope st__law_rules_right).names.lookup y.1 = some .cell ∨ (defScope st__law_rules_right).names.lookup y.1 = some .free from by decide +kernel)) pa_nil))))
    (pss_one (ps_ret (pe_callLend (ys := ysR) (FnOk.toG G__law_all) hfr (hr.mono (by decide)) rfl T.f__law_all.g T.f__law_all.k B__law_all hyR (pa_cons (pv 2) (pa_cons (pe_lst (pa_cons pe_non (pa_cons pe_int (pa_cons pe_str (pa_cons (pe_tup (pa_cons pe_str (pa_cons pe_str pa_nil))) (pa_cons (pe_lst (pa_cons (pv 8) pa_nil)) pa_nil)))))) (pa_cons pe_int pa_nil)))))))))))))))))
      , ?_⟩
    rw [show start N__law_rules_right [V.int n] = [some (.int n), none, none, none, none, none, none, none, none, none, none, none, none] from rfl]
    have kI : PySem.W.kitOne K (.type "int") (.type "str") = some false := kit_ty (by decide +kernel)
    have kB : PySem.W.kitOne K (.type "bool") (.type "str") = some false := kit_ty (by decide +kernel)
    have kL : PySem.W.kitOne K (.type "list") (.type "str") = some false := kit_ty (by decide +kernel)
    have kT : PySem.W.kitOne K (.type "tuple") (.type "str") = some false := kit_ty (by decide +kernel)
    have kD : PySem.W.kitOne K (.type "dict") (.type "str") = some false := kit_ty (by decide +kernel)
    have kN : PySem.W.kitOne K (.type "NoneType") (.type "str") = some false := kit_ty (by decide +kernel)
    refine tseq_split (fun σ' G => ∃ sl xs, σ' = [some (.int n), some (.ref sl), none, none, none, none, none, none, none, none, none, none, none] ∧ Same H G ∧ G sl = some (.lst xs) ∧ xs.length = 8 ∧ ∀ v ∈ xs, Th K TS0 G v) (fun N hN => ?_) ?_
    · walk_at "rd"
      intro l1 h1
      walk_at "al"
      rename_i t1 h2 F2 k2 e2
      simp only [tDNewK]
      intro d1 h3 sl h4
      have s0 := same_new (o := HO.lst [V.str (Str.ofString " ")]) h1
      have s3 := same_new (o := HO.dK []) h3
      have u1 : Str.ofString "\t" = S [9] := by decide +kernel
      have u2 : Str.ofString "a\t" = S [97, 9] := by decide +kernel
      have u3 : Str.ofString " \t" = S [32, 9] := by decide +kernel
      rw [u1, u2, u3]
      have s4 := same_new (o := HO.lst [V.int 5, V.bl true, V.ref l1, V.ref t1, V.ref d1, V.str (S [9]), V.str (S [97, 9]), V.str (S [32, 9])]) h4
      have s34 := s3.trans s4
      have s24 := k2.trans s34
      have e1 := s24 _ _ (upd_same (H := H) (a := l1) (o := HO.lst [V.str (Str.ofString " ")]))
      refine hN _ _ ⟨sl, _, rfl, s0.trans s24, upd_same, rfl, fun v hv => ?_⟩
      simp only [List.mem_cons, List.not_mem_nil, or_false] at hv
      rcases hv with rfl | rfl | rfl | rfl | rfl | rfl | rfl | rfl
      · exact th_ty (.base (.int _)) kI
      · exact th_ty (.base (.bl _)) kB
      · exact th_ty (.base (.lst e1)) kL
      · exact th_ty (.base (.tup (s34 _ _ e2))) kT
      · exact th_ty (.base (.dK (s4 _ _ upd_same))) kD
      · exact .inr ⟨_, .head _, rfl⟩
      · exact .inr ⟨_, .tail _ (.head _), rfl⟩
      · exact .inr ⟨_, .tail _ (.tail _ (.head _)), rfl⟩
    rintro σ1 G1 ⟨sl, xs, rfl, s1', esl, xl, hth⟩
    have T1 := hT.ext s1'
    refine tseq_split (fun σ' G => ∃ la f0 f1 f2 c0 c1 c2, σ' = [some (.int n), some (.ref sl), some (.ref la), none, none, none, none, none, none, none, none, none, none] ∧ Kp a.p__law_rules_right G1 G ∧ TabS G a.p__law_rules_right qR ∧ G la = some (.lst [.ref f0, .ref f1, .ref f2]) ∧ LamAt G (LR 0 []) f0 c0 ∧ LamAt G (LR 1 []) f1 c1 ∧ LamAt G (LR 2 []) f2 c2) (fun N hN => ?_) ?_
    · walk_at "rd"
      simp only [tLamP]
      refine ⟨T1, fun f0 c0 F0 k0 n0 t0 z0 e0 m0 => ⟨t0, fun f1 c1 F1 k1 n1 t1 z1 e1 m1 => ⟨t1, fun f2 c2 F2 k2 n2 t2 z2 e2 m2 => fun la hla => ?_⟩⟩⟩
      have sl := same_new (o := HO.lst [V.ref f0, V.ref f1, V.ref f2]) hla
      have l0 : LamAt F0 (LR 0 []) f0 c0 := ⟨e0, m0⟩
      have l1 : LamAt F1 (LR 1 []) f1 c1 := ⟨e1, m1⟩
      have l2 : LamAt F2 (LR 2 []) f2 c2 := ⟨e2, m2⟩
      have w1 := nt_of t0 k1
      have w2 := nt_of t1 k2
      exact hN _ _ ⟨la, f0, f1, f2, c0, c1, c2, rfl, ((k0.trans k1).trans k2).trans (sl.kp _), t2.ext sl, upd_same, (lam_nt (lam_nt l0 w1) w2).same sl, (lam_nt l1 w2).same sl, l2.same sl⟩
    rintro σ2 G2 ⟨la, f0, f1, f2, c0, c1, c2, rfl, k2, T2, ela, l0, l1, l2⟩
    refine tseq_split (fun σ' G => ∃ la f3 c3, σ' = [some (.int n), some (.ref sl), some (.ref la), none, none, none, none, none, none, none, none, none, none] ∧ Kp a.p__law_rules_right G2 G ∧ TabS G a.p__law_rules_right qR ∧ G la = some (.lst [.ref f0, .ref f1, .ref f2, .ref f3]) ∧ LamAt G (LR 3 []) f3 c3) (fun N hN => ?_) ?_
    · walk_at "rd"
      simp only [tLamP]
      refine ⟨T2, fun f3 c3 F0 k0 n0 t0 z0 e0 m0 => ?_⟩
      have l3 : LamAt F0 (LR 3 []) f3 c3 := ⟨e0, m0⟩
      have ea := (nt_of T2 k0) _ _ ela fun _ z => by cases z
      intro p1 h1
      have s1 := same_new (o := HO.lst [V.ref f3]) h1
      refine ⟨_, s1 _ _ ea, (show 3 + 1 ≤ sizeLine by decide), fun p2 h2 => ?_⟩
      have s2 := same_new (o := HO.lst ([V.ref f0, V.ref f1, V.ref f2] ++ [V.ref f3])) h2
      have s12 := s1.trans s2
      exact hN _ _ ⟨p2, f3, c3, rfl, k0.trans (s12.kp _), t0.ext s12, upd_same, l3.same s12⟩
    rintro σ3 G3 ⟨lb, f3, c3, rfl, k3, T3, elb, l3⟩
    refine tseq_split (fun σ' G => ∃ la f4 c4, σ' = [some (.int n), some (.ref sl), some (.ref la), none, none, none, none, none, none, none, none, none, none] ∧ Kp a.p__law_rules_right G3 G ∧ TabS G a.p__law_rules_right qR ∧ G la = some (.lst [.ref f0, .ref f1, .ref f2, .ref f3, .ref f4]) ∧ LamAt G (LR 4 []) f4 c4) (fun N hN => ?_) ?_
    · walk_at "rd"
      simp only [tLamP]
      refine ⟨T3, fun f4 c4 F0 k0 n0 t0 z0 e0 m0 => ?_⟩
      have l4 : LamAt F0 (LR 4 []) f4 c4 := ⟨e0, m0⟩
      have ea := (nt_of T3 k0) _ _ elb fun _ z => by cases z
      intro p1 h1
      have s1 := same_new (o := HO.lst [V.ref f4]) h1
      refine ⟨_, s1 _ _ ea, (show 4 + 1 ≤ sizeLine by decide), fun p2 h2 => ?_⟩
      have s2 := same_new (o := HO.lst ([V.ref f0, V.ref f1, V.ref f2, V.ref f3] ++ [V.ref f4])) h2
      have s12 := s1.trans s2
      exact hN _ _ ⟨p2, f4, c4, rfl, k0.trans (s12.kp _), t0.ext s12, upd_same, l4.same s12⟩
    rintro σ4 G4 ⟨lc, f4, c4, rfl, k4, T4, elc, l4⟩
    have w23 := nt_of T2 k3
    have w34 := nt_of T3 k4
    have w24 := w23.trans w34
    have w14 := (nt_of T1 k2).trans w24
    have L0 := lam_nt l0 w24
    have L1 := lam_nt l1 w24
    have L2 := lam_nt l2 w24
    have L3 := lam_nt l3 w34
    have esl4 := w14 _ _ esl fun _ z => by cases z
    have pick : ∀ {F : Hp} {f : Addr}, Same G4 F → f ∈ [f0, f1, f2, f3, f4] → ∃ i c, i < 5 ∧ LamAt F (LR i []) f c := fun {F f} s hf => by
      simp only [List.mem_cons, List.not_mem_nil, or_false] at hf
      rcases hf with rfl | rfl | rfl | rfl | rfl
      · exact ⟨0, c0, by decide, L0.same s⟩
      · exact ⟨1, c1, by decide, L1.same s⟩
      · exact ⟨2, c2, by decide, L2.same s⟩
      · exact ⟨3, c3, by decide, L3.same s⟩
      · exact ⟨4, c4, by decide, l4.same s⟩
    have ea1 : Str.ofString "aa" = S [97, 97] := by decide +kernel
    have ea2 : Str.ofString "abcde" = S [97, 98, 99, 100, 101] := by decide +kernel
    have ea3 : Str.ofString "x" = S [120] := by decide +kernel
    refine tseq_split (fun σ' G => σ' = [some (.int n), some (.ref sl), some (.ref lc), none, none, none, none, none, none, none, none, none, none] ∧ Same G4 G) (fun N hN => ?_) ?_
    · walk_at "rd"
      rw [ea1, ea2, ea3]
      refine ⟨by decide, _, rfl, 5 + n % 9, by omega, by omega, by decide, fun p1 h1 => ?_⟩
      rw [show (List.replicate (5 + n % 9) [120]).flatten = List.replicate (5 + n % 9) 120 by simp]
      have s1 := same_new (o := HO.lst [V.non, V.str (S [97, 97]), V.str (S [97, 98, 99, 100, 101]), V.str (S (List.replicate (5 + n % 9) 120))]) h1
      refine ⟨xs, s1 _ _ esl4, by rw [xl]; decide, fun p2 h2 => ?_⟩
      have s2 := same_new (o := HO.lst (xs ++ [V.non, V.str (S [97, 97]), V.str (S [97, 98, 99, 100, 101]), V.str (S (List.replicate (5 + n % 9) 120))])) h2
      have s12 := s1.trans s2
      refine ⟨lc, p2, [f0, f1, f2, f3, f4], _, 0, rfl, s12 _ _ elc, upd_same, by simp, by rw [List.length_append, xl]; simp, by decide, fun f hf v hv => ?_, fun H' s' => ?_⟩
      · obtain ⟨i, c, hi, l⟩ := pick s12 hf
        refine refdR T hi l (noR5_th (TS := TS1 n) hi ?_ (ts1 hi))
        rcases List.mem_append.mp hv with hv | hv
        · exact (th_nt (hth v hv) (w14.trans s12.nt)).imp id fun ⟨t, ht, e⟩ => ⟨t, List.mem_append_left _ ht, e⟩
        · simp only [List.mem_cons, List.not_mem_nil, or_false] at hv
          rcases hv with rfl | rfl | rfl | rfl
          · exact th_ty (.base .non) kN
          · exact .inr ⟨_, List.mem_append_right _ (.head _), rfl⟩
          · exact .inr ⟨_, List.mem_append_right _ (.tail _ (.head _)), rfl⟩
          · exact .inr ⟨_, List.mem_append_right _ (.tail _ (.tail _ (.head _))), rfl⟩
      · exact ⟨true, rfl, ite2 (fun z => by cases z) (fun _ => hN _ _ ⟨rfl, s12.trans s'⟩)⟩
    rintro σ5 G5 ⟨rfl, s5⟩
    have txt : ∀ {F : Hp} {i : Nat} {f : Addr} {c : Addr} {v : V} {TS : List Tx}, i < 5 → LamAt F (LR i []) f c → (∃ t ∈ TS, v = .str (S t)) → TS.all (fun t => noRb (argsT i t)) = true → Refd P w K mg base a f v 0 F := fun hi l h d => refdR T hi l (noR5_th hi (.inr h) d)
    refine tseq_split (fun σ' G => σ' = [some (.int n), some (.ref sl), some (.ref lc), none, none, none, none, none, none, none, none, none, none] ∧ Same G5 G) (fun N hN => ?_) ?_
    · walk_at "rd"
      have u1 : Str.ofString "a'" = S [97, 39] := by decide +kernel
      have u2 : Str.ofString "#b" = S [35, 98] := by decide +kernel
      rw [u1, u2]
      refine ⟨_, .inl (.inl (s5 _ _ elc)), fun p1 h1 p2 h2 => ?_⟩
      rw [show (some (1 : Int)) = some ((1 : Nat) : Int) from rfl, cut_to] at h2 ⊢
      have s1 := same_new (o := HO.lst (List.take 1 [V.ref f0, V.ref f1, V.ref f2, V.ref f3, V.ref f4])) h1
      have e1 : upd G5 p1 (HO.lst (List.take 1 [V.ref f0, V.ref f1, V.ref f2, V.ref f3, V.ref f4])) p1 = some (HO.lst ([f0].map V.ref)) := upd_same
      have s2 := same_new (o := HO.lst [V.str (S []), V.str (S [97, 39]), V.str (S [35, 98])]) h2
      have s12 := s1.trans s2
      refine ⟨p1, p2, [f0], _, 0, rfl, s2 _ _ e1, upd_same, by simp, by simp, by decide, fun f hf v hv => ?_, fun H' s' => ?_⟩
      · rw [List.mem_singleton.mp hf]
        refine txt (i := 0) (TS := [[], [97, 39], [35, 98]]) (by decide) (L0.same (s5.trans s12)) ?_ (by decide +kernel)
        simp only [List.mem_cons, List.not_mem_nil, or_false] at hv
        rcases hv with rfl | rfl | rfl
        · exact ⟨_, .head _, rfl⟩
        · exact ⟨_, .tail _ (.head _), rfl⟩
        · exact ⟨_, .tail _ (.tail _ (.head _)), rfl⟩
      · exact ⟨true, rfl, ite2 (fun z => by cases z) (fun _ => hN _ _ ⟨rfl, s12.trans s'⟩)⟩
    rintro σ6 G6 ⟨rfl, s6⟩
    have s56 := s5.trans s6
    refine tseq_split (fun σ' G => σ' = [some (.int n), some (.ref sl), some (.ref lc), none, none, none, none, none, none, none, none, none, none] ∧ Same G6 G) (fun N hN => ?_) ?_
    · walk_at "rd"
      have u1 : Str.ofString "abc" = S [97, 98, 99] := by decide +kernel
      have u2 : Str.ofString "a " = S [97, 32] := by decide +kernel
      have u3 : Str.ofString "ab" = S [97, 98] := by decide +kernel
      rw [u1, u2, u3, eSp, eHa]
      refine ⟨_, .inl (.inl (s56 _ _ elc)), fun p1 h1 p2 h2 => ?_⟩
      rw [show cutV [V.ref f0, V.ref f1, V.ref f2, V.ref f3, V.ref f4] (some 1) (some 3) = [V.ref f1, V.ref f2] from rfl] at h2 ⊢
      have s1 := same_new (o := HO.lst [V.ref f1, V.ref f2]) h1
      have e1 : upd G6 p1 (HO.lst [V.ref f1, V.ref f2]) p1 = some (HO.lst ([f1, f2].map V.ref)) := upd_same
      have s2 := same_new (o := HO.lst [V.str (S [97, 98, 99]), V.str (S [32]), V.str (S [97, 32])]) h2
      have s12 := s1.trans s2
      have s46 := s56.trans s12
      refine ⟨p1, p2, [f1, f2], _, 0, rfl, s2 _ _ e1, upd_same, by simp, by simp, by decide, fun f hf v hv => ?_, fun H' s' => ?_⟩
      · have hv : ∃ t ∈ ([[97, 98, 99], [32], [97, 32]] : List Tx), v = .str (S t) := by
          simp only [List.mem_cons, List.not_mem_nil, or_false] at hv
          rcases hv with rfl | rfl | rfl
          · exact ⟨_, .head _, rfl⟩
          · exact ⟨_, .tail _ (.head _), rfl⟩
          · exact ⟨_, .tail _ (.tail _ (.head _)), rfl⟩
        simp only [List.mem_cons, List.not_mem_nil, or_false] at hf
        rcases hf with rfl | rfl
        · exact txt (i := 1) (by decide) (L1.same s46) hv (by decide +kernel)
        · exact txt (i := 2) (by decide) (L2.same s46) hv (by decide +kernel)
      refine ⟨true, rfl, ite2 (fun z => by cases z) (fun _ => ?_)⟩
      have sH := s46.trans s'
      refine ⟨_, .inl (.inl (sH _ _ elc)), fun p3 h3 p4 h4 => ?_⟩
      rw [show (some (3 : Int)) = some ((3 : Nat) : Int) from rfl, cut_from] at h4 ⊢
      have s3 := same_new (o := HO.lst (List.drop 3 [V.ref f0, V.ref f1, V.ref f2, V.ref f3, V.ref f4])) h3
      have e3 : upd H' p3 (HO.lst (List.drop 3 [V.ref f0, V.ref f1, V.ref f2, V.ref f3, V.ref f4])) p3 = some (HO.lst ([f3, f4].map V.ref)) := upd_same
      have s4 := same_new (o := HO.lst [V.str (S [97, 98]), V.str (S [32]), V.str (S [39])]) h4
      have s34 := s3.trans s4
      have s47 := sH.trans s34
      refine ⟨p3, p4, [f3, f4], _, 0, rfl, s4 _ _ e3, upd_same, by simp, by simp, by decide, fun f hf v hv => ?_, fun H'' s'' => ?_⟩
      · have hv : ∃ t ∈ ([[97, 98], [32], [39]] : List Tx), v = .str (S t) := by
          simp only [List.mem_cons, List.not_mem_nil, or_false] at hv
          rcases hv with rfl | rfl | rfl
          · exact ⟨_, .head _, rfl⟩
          · exact ⟨_, .tail _ (.head _), rfl⟩
          · exact ⟨_, .tail _ (.tail _ (.head _)), rfl⟩
        simp only [List.mem_cons, List.not_mem_nil, or_false] at hf
        rcases hf with rfl | rfl
        · exact txt (i := 3) (by decide) (L3.same s47) hv (by decide +kernel)
        · exact txt (i := 4) (by decide) (l4.same s47) hv (by decide +kernel)
      exact ⟨true, rfl, ite2 (fun z => by cases z) (fun _ => hN _ _ ⟨rfl, ((s12.trans s').trans s34).trans s''⟩)⟩
    rintro σ7 G7 ⟨rfl, s7⟩
    have T7 := T4.ext (s56.trans s7)
    refine tseq_split (fun σ' G => σ' = [some (.int n), some (.ref sl), some (.ref lc), some (.str (Str.ofString "abcdefghij")), none, none, none, none, none, none, none, none, none] ∧ G = G7) (fun N hN => ?_) ?_
    · walk_at "rd"
      exact hN _ _ ⟨rfl, rfl⟩
    rintro σ8 G8 ⟨rfl, rfl⟩
    refine tseq_split (fun σ' G => (∃ v4 v5 v6 v7, σ' = [some (.int n), some (.ref sl), some (.ref lc), some (.str (Str.ofString "abcdefghij")), v4, v5, v6, v7, none, none, none, none, none]) ∧ Kp a.p__law_rules_right G8 G ∧ TabS G a.p__law_rules_right qR) (fun N hN => ?_) ?_
    · refine tfor_it (J := Itr 0 10) (H1 := G8) (fun R hR => ?_) walk_range (fun i σ G => (∃ v4 v5 v6 v7, σ = [some (.int n), some (.ref sl), some (.ref lc), some (.str (Str.ofString "abcdefghij")), v4, v5, v6, v7, none, none, none, none, none]) ∧ Kp a.p__law_rules_right G8 G ∧ TabS G a.p__law_rules_right qR) ⟨⟨_, _, _, _, rfl⟩, fun _ _ e _ => e, T7⟩ (fun _ _ _ _ _ => trivial) ?_ (fun σ G h => hN _ _ h)
      · walk_at "rd"
        exact ⟨by decide, by decide, hR⟩
      rintro i x σ F F' hi ⟨⟨v4, v5, v6, v7, rfl⟩, kF, TF⟩ ⟨rfl, rfl⟩
      walk_at "rd"
      refine tfor_it (J := Itr 0 i) (H1 := F') (fun R hR => ?_) walk_range (fun j σ G => (∃ v5 v6 v7, σ = [some (.int n), some (.ref sl), some (.ref lc), some (.str (Str.ofString "abcdefghij")), some (.int (0 + (i : Int))), v5, v6, v7, none, none, none, none, none]) ∧ Kp a.p__law_rules_right G8 G ∧ TabS G a.p__law_rules_right qR) ⟨⟨_, _, _, rfl⟩, kF, TF⟩ (fun _ _ _ _ _ => trivial) ?_ (fun σ G h => ?_)
      · walk_at "rd"
        rw [show (0 + (i : Int)).toNat = i by omega]
        exact ⟨by omega, by omega, hR⟩
      · rintro j x σ M M' hj ⟨⟨w5, w6, w7, rfl⟩, kM, TM⟩ ⟨rfl, rfl⟩
        walk_at "rd"
        obtain ⟨sl10, hno⟩ := ij hi hj
        have eLs : Str.ofString "abcdefghij" = S lsR := by decide +kernel
        have ln : ∀ {t : Tx}, t.length ≤ 20 → (S t).length ≤ sizeLine := fun h => by rw [S_len]; exact Nat.le_trans h (by decide)
        have tk : (lsR.take j).length ≤ 10 := by rw [List.length_take]; exact Nat.min_le_right _ _
        have dr : (lsR.drop (j + 1)).length ≤ 10 := by rw [List.length_drop]; exact Nat.sub_le _ _
        rw [eLs, Int.zero_add, Int.zero_add, show ((j : Int) + 1) = ((j + 1 : Nat) : Int) by omega, cutS_to, cutS_from]
        have eS : S (lsR.take j) ++ S [lsR.getD i 0] ++ S (lsR.drop (j + 1)) = S (sgT i j) := by rw [S_app, S_app]; rfl
        refine ⟨ln (by decide), ln (by decide), lsR.getD i 0, at_getD hi, ?_, ln (by decide), ?_, ?_⟩
        · rw [S_len]; exact Nat.le_trans (show (lsR.take j).length + 1 ≤ 20 by omega) (by decide)
        · rw [S_app, S_len, S_len, List.length_append]; exact Nat.le_trans (show (lsR.take j).length + 1 + (lsR.drop (j + 1)).length ≤ 40 by omega) (by decide)
        rw [eS]
        have l10 : (S (sgT i j)).length ≤ sizeLine := ln (by omega)
        rw [show (some (4 : Int)) = some ((4 : Nat) : Int) from rfl, show (some (6 : Int)) = some ((6 : Nat) : Int) from rfl, show (some (8 : Int)) = some ((8 : Nat) : Int) from rfl, cutS_to, cutS_mid (by decide) (by omega), cutS_mid (by decide) (by omega)]
        refine ⟨l10, l10, l10, l10, (sgT i j).getD 8 0, at_getD (l := sgT i j) (i := 8) (by omega), l10, (sgT i j).getD 9 0, at_getD (l := sgT i j) (i := 9) (by omega), fun tp htp => ?_⟩
        have s1 := same_new (o := HO.tup [V.str (S ((sgT i j).take 4)), V.str (S (((sgT i j).take 6).drop 4)), V.str (S (((sgT i j).take 8).drop 6)), V.str (S [(sgT i j).getD 8 0]), V.str (S [(sgT i j).getD 9 0])]) htp
        have e1 : upd M' tp (HO.tup [V.str (S ((sgT i j).take 4)), V.str (S (((sgT i j).take 6).drop 4)), V.str (S (((sgT i j).take 8).drop 6)), V.str (S [(sgT i j).getD 8 0]), V.str (S [(sgT i j).getD 9 0])]) tp = some _ := upd_same
        generalize upd M' tp (HO.tup [V.str (S ((sgT i j).take 4)), V.str (S (((sgT i j).take 6).drop 4)), V.str (S (((sgT i j).take 8).drop 6)), V.str (S [(sgT i j).getD 8 0]), V.str (S [(sgT i j).getD 9 0])]) = M1 at *
        simp only [tLamP]
        refine ⟨TM.ext s1, fun f5 c5 M2 k2' n2' t2' z2' e2' m2' => ?_⟩
        have l5 : LamAt M2 (LR 5 []) f5 c5 := ⟨e2', m2'⟩
        have et := (nt_of (TM.ext s1) k2') _ _ e1 fun _ z => by cases z
        refine ⟨f5, .ref tp, 0, rfl, by decide, refd0 (L := LR 5 []) rfl (lokR5 T c5) l5 rfl (fun H' s' Q' E' kk => ⟨tp, _, _, _, _, _, rfl, s' _ _ et, noR5_txt hno, fun H2 s2 => kk none H2 (.inl rfl) s2⟩), fun H' s' => ⟨true, rfl, ite2 (fun z => by cases z) (fun _ => ?_)⟩⟩
        exact ⟨⟨_, rfl⟩, ((kM.trans (s1.kp _)).trans k2').trans (s'.kp _), t2'.ext s'⟩
      · obtain ⟨⟨w5, w6, w7, rfl⟩, kk, tt⟩ := h
        exact ⟨⟨_, _, _, _, rfl⟩, kk, tt⟩
    rintro σ9 G9 ⟨⟨v4, v5, v6, v7, rfl⟩, k9, T9⟩
    refine tseq_split (fun σ' G => ∃ rp dr, σ' = [some (.int n), some (.ref sl), some (.ref lc), some (.str (Str.ofString "abcdefghij")), v4, v5, v6, v7, some (.ref rp), none, none, none, none] ∧ Same G9 G ∧ G rp = some (.ins a.c_Rules dr (RS.f usualR))) (fun N hN => ?_) ?_
    · walk_at "rd"
      intro x dx hx hdx ne
      have sx : Same G9 (upd (upd G9 dx (HO.own x)) x (HO.ins a.c_Rules dx [])) := (same_new hdx).trans (same_new (by rw [upd_ne (Ne.symm ne)]; exact hx))
      exact ⟨x, dx, usualR, by kernel_rfl, usualR_ok, upd_same, fun F1 f1 k1 => ⟨rfl, hN _ _ ⟨x, dx, rfl, fun b o e => k1 _ _ (sx _ _ e) (ne_of_none e hx), f1⟩⟩⟩
    rintro σ10 G10 ⟨rp, dr, rfl, s10, erp⟩
    have T10 := T9.ext s10
    refine tseq_split (fun σ' G => ∃ la f c f' c', σ' = [some (.int n), some (.ref sl), some (.ref la), some (.str (Str.ofString "abcdefghij")), v4, v5, v6, v7, some (.ref rp), none, none, none, none] ∧ Kp a.p__law_rules_right G10 G ∧ TabS G a.p__law_rules_right qR ∧ G la = some (.lst [.ref f, .ref f']) ∧ LamAt G (LR 6 (cloFrom (cxOf CX0 P w K mg base N__law_rules_right "_law_rules_right" (defScope st__law_rules_right) a.f__law_rules_right (.ref a.k__law_rules_right) A outer s H E).nox.env.cells (lamS (lamR 6)).names [])) f c ∧ LamAt G (LR 7 (cloFrom (cxOf CX0 P w K mg base N__law_rules_right "_law_rules_right" (defScope st__law_rules_right) a.f__law_rules_right (.ref a.k__law_rules_right) A outer s H E).nox.env.cells (lamS (lamR 7)).names [])) f' c') (fun N hN => ?_) ?_
    · walk_at "rd"
      simp only [tLamP]
      refine ⟨T10, fun f0 c0 F0 k0 n0 t0 z0 e0 m0 => ⟨t0, fun f1 c1 F1 k1 n1 t1 z1 e1 m1 la hla => ?_⟩⟩
      have sl := same_new (o := HO.lst [V.ref f0, V.ref f1]) hla
      have l6 : LamAt F0 (LR 6 (cloFrom (cxOf CX0 P w K mg base N__law_rules_right "_law_rules_right" (defScope st__law_rules_right) a.f__law_rules_right (.ref a.k__law_rules_right) A outer s H E).nox.env.cells (lamS (lamR 6)).names [])) f0 c0 := ⟨e0, m0⟩
      have l7 : LamAt F1 (LR 7 (cloFrom (cxOf CX0 P w K mg base N__law_rules_right "_law_rules_right" (defScope st__law_rules_right) a.f__law_rules_right (.ref a.k__law_rules_right) A outer s H E).nox.env.cells (lamS (lamR 7)).names [])) f1 c1 := ⟨e1, m1⟩
      exact hN _ _ ⟨la, f0, c0, f1, c1, rfl, (k0.trans k1).trans (sl.kp _), t1.ext sl, upd_same, (lam_nt l6 (nt_of t0 k1)).same sl, l7.same sl⟩
    rintro σ11 G11 ⟨la, f6, c6, f7, c7, rfl, k11, T11, ela', l6, l7⟩
    walk_at "rd"
    simp only [tCallLend]
    walk_at "rd"
    intro d1 h1 d2 h2 d3 h3 cs LF
    have s1 := same_new (o := HO.tup [V.str (Str.ofString " "), V.str (Str.ofString "'")]) h1
    have e1 : upd G11 d1 (HO.tup [V.str (Str.ofString " "), V.str (Str.ofString "'")]) d1 = some _ := upd_same
    generalize upd G11 d1 (HO.tup [V.str (Str.ofString " "), V.str (Str.ofString "'")]) = F1 at *
    have s2 := same_new (o := HO.lst [V.ref rp]) h2
    have e2 : upd F1 d2 (HO.lst [V.ref rp]) d2 = some _ := upd_same
    generalize upd F1 d2 (HO.lst [V.ref rp]) = F2 at *
    have s3 := same_new (o := HO.lst [V.non, V.int 5, V.str (Str.ofString " "), V.ref d1, V.ref d2]) h3
    have e3 : upd F2 d3 (HO.lst [V.non, V.int 5, V.str (Str.ofString " "), V.ref d1, V.ref d2]) d3 = some _ := upd_same
    generalize upd F2 d3 (HO.lst [V.non, V.int 5, V.str (Str.ofString " "), V.ref d1, V.ref d2]) = F3 at *
    have s13 := (s1.trans s2).trans s3
    have up : ∀ {b o}, F3 b = some o → lendH cs F3 b = some o := fun e => (lent_up LF e).1
    have nt11 := nt_of T10 k11
    have er := s13 _ _ (nt11 _ _ erp fun _ z => by cases z)
    have isr : IsR a F3 (.ref rp) := ⟨rp, dr, _, rfl, er⟩
    obtain ⟨b1, b2, b3, b4, b5⟩ := sub_b (K := K) (C := a.c_Rules)
    refine ⟨la, d3, [f6, f7], _, 0, rfl, up (s13 _ _ ela'), up e3, by simp, by simp, by decide, fun f hf v hv => ?_, fun H' s' => ?_⟩
    · have nr : NoR K a F3 v := by
        simp only [List.mem_cons, List.not_mem_nil, or_false] at hv
        rcases hv with rfl | rfl | rfl | rfl | rfl
        · exact ⟨_, .base .non, b2⟩
        · exact ⟨_, .base (.int _), b1⟩
        · exact ⟨_, .base (.str _), b3⟩
        · exact ⟨_, .base (.tup ((s2.trans s3) _ _ e1)), b4⟩
        · exact ⟨_, .base (.lst (s3 _ _ e2)), b5⟩
      have go : ∀ H', Same F3 H' → ∀ (Q : VK) (E : XK), (∀ d H2, (d = none ∨ ∃ dd fs, d = some dd ∧ H2 dd = some (.xd fs)) → Same H' H2 → E (.ref (cE a 0)) d H2) → sp_lam67 K a rp [v] H' Q E := fun H' s' Q' E' kk => ⟨v, rfl, isr.same s', nr.same s', fun H2 s2 => kk none H2 (.inl rfl) s2⟩
      simp only [List.mem_cons, List.not_mem_nil, or_false] at hf
      rcases hf with rfl | rfl
      · exact refdC (clo6 _) LF (.head _) rfl rfl rfl (lokR6 T _ c6 rp) (l6.same s13) go
      · exact refdC (clo7 _) LF (.head _) rfl rfl rfl (lokR7 T _ c7 rp) (l7.same s13) go
    · obtain ⟨q1, q2⟩ := lent_same LF s'
      refine ⟨q1, ?_⟩
      have kA := (((s1.trans s2).trans s3).trans q2).kp a.p__law_rules_right
      have k78 : Kp a.p__law_rules_right H G8 := (((s1'.kp _).trans k2).trans k3).trans (k4.trans ((s56.trans s7).kp _))
      exact q _ ((((k78.trans k9).trans (s10.kp _)).trans k11).trans kA) (T11.ext (s13.trans q2))
end
end Qw

set_option Elab.async false
set_option linter.all false
set_option maxRecDepth 100000
set_option maxHeartbeats 4000000
namespace Qw
open PySem L2 LamX NdefX PySem.Spec PyProof.Rows
local macro_rules | `(tactic| walk_at "rd") => `(tactic| simp only [iEnum, iRng3, tRevL, rSlS, rSlL, gSub, rSetL, wipe, List.map_cons, List.map_nil, rAll, rAny, rIsi, tM1, tM0, iZipLT, iZip, iRng2, tLenSetS, rListStr, rMulS, rRep, rCntB, tRevS, rNeD, rEqD, tSeq, tNext, tAsg, tRet, tRetN, tDrop, tIfS, sFld, sFldAug, tVar, tC, tOp, tUn, tTest, tB, tAnd, tOr, tNot, tAndV, tOrV, tNotV, tIf, tTup, tLst, tCons, tNil, tCB, tCall, tMeth, tMake, tFld, rI, rI0, rU, rEq, rNe, rCat, gName, gTup, gCons, gNil, tPar, tPar3, tBM, tBM0, rAppend, rExtend, rPopAt, rIxL, rIxT, rIxS, tSl, rSlS, rSlL, tPart, tNoPart, iStr, iTup, iList, iRng1, tAug, ipI, L2.rAdd, L2.rSub, L2.rAddS, tChain, rIsB, rNotB, scal_ss, scal_ii, scal_bb, scal_nn, scal_in, scal_ni, tYes,
  cx_K, cx_N, List.getElem?_cons_zero, List.getElem?_cons_succ, List.set_cons_zero, List.set_cons_succ, List.nil_append, List.cons_append, List.append_nil, List.length_cons, List.length_nil, Nat.zero_add,
  Option.some.injEq, V.ref.injEq, V.int.injEq, V.str.injEq, V.bl.injEq, HO.ins.injEq, HO.lst.injEq, HO.tup.injEq, List.cons.injEq, exists_eq_left, exists_eq_left', exists_eq_right, exists_eq_right', and_true, true_and, exists_and_left, exists_and_right, and_assoc, decide_eq_true_eq, Bool.not_eq_true', decide_eq_false_iff_not, reduceCtorEq, exists_const, forall_const, if_true, if_false, false_and, and_false, ite_true, ite_false, Bool.true_eq_false, Bool.false_eq_true, Nat.reduceLeDiff, Nat.reduceAdd, small_line, small_lt, upd_ne, ne_eq, not_false_eq_true, Nat.zero_le, Prod.mk.injEq, upd_same, upd_upd, S_tl, S_len, S_app, S_one, S_inj,
  lk_breaks, lk_hard, lk_soft, lk_bend, lk_note, lk_rules, lk_state, lk_bent, lk_word, lk_begun, lk_opened, lk_place, pt_state, pt_bent, pt_word, pt_wordS, pt_wordN, pt_begun, pt_opened, pt_place, pt_place1, len_mf, litv_empty, litv_note, litv_nl, mf_inj, rf_inj, lkn_begin, lkn_ended, lkn_plain, lkn_quoted, lkn_step, lkn_fault, lkn_key, lkn_told, lkn_quotes, lkn_special, pt_open1, not_true_eq_false, not_false_eq_true])
local macro_rules | `(tactic| walk_at "rdh") => `(tactic| simp only [iEnum, iRng3, tRevL, rSlS, rSlL, gSub, rSetL, wipe, List.map_cons, List.map_nil, rAll, rAny, rIsi, tM1, tM0, iZipLT, iZip, iRng2, tLenSetS, rListStr, rMulS, rRep, rCntB, tRevS, rNeD, rEqD, tSeq, tNext, tAsg, tRet, tRetN, tDrop, tIfS, sFld, sFldAug, tVar, tC, tOp, tUn, tTest, tB, tAnd, tOr, tNot, tAndV, tOrV, tNotV, tIf, tTup, tLst, tCons, tNil, tCB, tCall, tMeth, tMake, tFld, rI, rI0, rU, rEq, rNe, rCat, gName, gTup, gCons, gNil, tPar, tPar3, tBM, tBM0, rAppend, rExtend, rPopAt, rIxL, rIxT, rIxS, tSl, rSlS, rSlL, tPart, tNoPart, iStr, iTup, iList, iRng1, tAug, ipI, L2.rAdd, L2.rSub, L2.rAddS, tChain, rIsB, rNotB, scal_ss, scal_ii, scal_bb, scal_nn, scal_in, scal_ni, tYes,
  cx_K, cx_N, List.getElem?_cons_zero, List.getElem?_cons_succ, List.set_cons_zero, List.set_cons_succ, List.nil_append, List.cons_append, List.append_nil, List.length_cons, List.length_nil, Nat.zero_add,
  Option.some.injEq, V.ref.injEq, V.int.injEq, V.str.injEq, V.bl.injEq, HO.ins.injEq, HO.lst.injEq, HO.tup.injEq, List.cons.injEq, exists_eq_left, exists_eq_left', exists_eq_right, exists_eq_right', and_true, true_and, exists_and_left, exists_and_right, and_assoc, decide_eq_true_eq, Bool.not_eq_true', decide_eq_false_iff_not, reduceCtorEq, exists_const, forall_const, if_true, if_false, false_and, and_false, ite_true, ite_false, Bool.true_eq_false, Bool.false_eq_true, Nat.reduceLeDiff, Nat.reduceAdd, small_line, small_lt, upd_ne, ne_eq, not_false_eq_true, Nat.zero_le, Prod.mk.injEq, upd_same, upd_upd, S_tl, S_len, S_app, S_one, S_inj,
  lk_breaks, lk_hard, lk_soft, lk_bend, lk_note, lk_rules, lk_state, lk_bent, lk_word, lk_begun, lk_opened, lk_place, pt_state, pt_bent, pt_word, pt_wordS, pt_wordN, pt_begun, pt_opened, pt_place, pt_place1, len_mf, litv_empty, litv_note, litv_nl, mf_inj, rf_inj, lkn_begin, lkn_ended, lkn_plain, lkn_quoted, lkn_step, lkn_fault, lkn_key, lkn_told, lkn_quotes, lkn_special, pt_open1, not_true_eq_false, not_false_eq_true, *])
local macro_rules | `(tactic| walk_at "pl") => `(tactic| (first | decide | (refine Nat.lt_of_le_of_lt (length_putF _ _ _) ?_; repeat (first | decide | refine pl2 ?_))))
local macro_rules | `(tactic| walk_at "al") => `(tactic| (intro p hp; generalize hH : upd _ p _ = H1; obtain ⟨S, e⟩ := gen_new hH hp; clear hH))
/-! ### no texts, no pieces -/
abbrev lamsT : List Expr := (defBody st__law_texts_right).flatMap (lamsS 12)
abbrev lamT (i : Nat) : Expr := lamsT.getD i (.Constant .none 0 ⟨0, 0, 0, 0⟩)
def qT : Str := "_law_texts_right.<locals>.<lambda>"
def LT (i : Nat) (cl : List (Str × Addr)) (c' : Addr) : LF := ⟨qT, lamA (lamT i), lamB (lamT i), lamS (lamT i), cl, c'⟩
--@L _law_texts_right _law_all ysT hyT
section
variable {P : Program} {w : World} {K : PySem.W.Frag} {mg : Str → Option Value} {base : Heap} {a : Ad}
def sp_lamT0 (K : PySem.W.Frag) (a : Ad) : Sp := fun vs H Q E => ∃ v, vs = [v] ∧ LongT K H v ∧ ∀ H', Same H H' → E (.ref a.c_BadText) none H'
def sp_lamT1 (K : PySem.W.Frag) (a : Ad) (p : Addr) : Sp := fun vs H Q E => ∃ v dx mp fl b, vs = [v] ∧ H p = some (.ins a.c_Splitter dx (SF mp fl b)) ∧ BadT K H v ∧ ∀ H', Same H H' → E (.ref a.c_BadText) none H'
def sp_lamT4 (a : Ad) (p : Addr) : Sp := fun vs H Q E => ∃ t, vs = [.str (S t)] ∧ Over a H p ∧ t.length ≤ 50000 ∧ t.all sgn = true ∧ ∀ H', Same H H' → E (.ref a.c_Ended) none H'
def sp_lamT5 (a : Ad) : Sp := fun vs H Q E => ∃ p, vs = [.ref p] ∧ Over a H p ∧ ∀ H', Same H H' → E (.ref a.c_Ended) none H'
theorem lokT0 (T : Txt K mg a) (cl : List (Str × Addr)) (c' rp : Addr) : LOk P w K mg base (L2.CX P w) 8 (LT 0 cl c') ["_law_a"] ["_law_rules"] [some (.ref rp)] (sp_lamT0 K a) := by
  have G := ok_splitX (P := P) (w := w) (base := base) T
  have B := bi_split T
  refine lok_of (N := ["_law_a", "_law_rules"]) (show NScope _ _ _ (lamS (lamT 0)) from nscope_by (by decide +kernel)) (fun pm ctv us hl => match us, hl with | [_], _ => rfl) (fun vs H Q E h => ?_) (fun f A outer s H vs Q E hr h => ?_)
  · obtain ⟨v, rfl, _⟩ := h
    rfl
  · obtain ⟨v, rfl, h1, k⟩ := h
    refine ⟨_, (pe_call G (hr.mono (by decide)) rfl T.f_split.g T.f_split.k B .nil (passes_call (takes_of rfl rfl rfl rfl) fun _ _ _ _ z => z) (pa_cons (pv 1) (pa_cons (pv 0) pa_nil))), ?_⟩
    rw [show startF ["_law_a", "_law_rules"] [v] [some (.ref rp)] = [some v, some (.ref rp)] from rfl]
    walk_at "rd"
    exact ⟨_, _, rfl, h1, k⟩
theorem lokT3 (T : Txt K mg a) (cl : List (Str × Addr)) (c' rp : Addr) : LOk P w K mg base (L2.CX P w) 8 (LT 3 cl c') ["_law_a"] ["_law_rules"] [some (.ref rp)] (sp_lamT0 K a) := by
  have G := ok_splitX (P := P) (w := w) (base := base) T
  have B := bi_split T
  refine lok_of (N := ["_law_a", "_law_rules"]) (show NScope _ _ _ (lamS (lamT 3)) from nscope_by (by decide +kernel)) (fun pm ctv us hl => match us, hl with | [_], _ => rfl) (fun vs H Q E h => ?_) (fun f A outer s H vs Q E hr h => ?_)
  · obtain ⟨v, rfl, _⟩ := h
    rfl
  · obtain ⟨v, rfl, h1, k⟩ := h
    refine ⟨_, (pe_call G (hr.mono (by decide)) rfl T.f_split.g T.f_split.k B .nil (passes_call (takes_of rfl rfl rfl rfl) fun _ _ _ _ z => z) (pa_cons (pv 1) (pa_cons (pv 0) pa_nil))), ?_⟩
    rw [show startF ["_law_a", "_law_rules"] [v] [some (.ref rp)] = [some v, some (.ref rp)] from rfl]
    walk_at "rd"
    exact ⟨_, _, rfl, h1, k⟩
theorem lokT1 (T : Txt K mg a) (cl : List (Str × Addr)) (c' p : Addr) : LOk P w K mg base (L2.CX P w) 8 (LT 1 cl c') ["_law_b"] ["_law_late"] [some (.ref p)] (sp_lamT1 K a p) := by
  have G := ok_takeB (P := P) (w := w) (base := base) T
  have B := bi_Splitter_take T
  refine lok_of (N := ["_law_b", "_law_late"]) (show NScope _ _ _ (lamS (lamT 1)) from nscope_by (by decide +kernel)) (fun pm ctv us hl => match us, hl with | [_], _ => rfl) (fun vs H Q E h => ?_) (fun f A outer s H vs Q E hr h => ?_)
  · obtain ⟨v, _, _, _, _, rfl, _⟩ := h
    rfl
  · obtain ⟨v, dx, mp, fl, b, rfl, hS, h1, k⟩ := h
    refine ⟨_, (pe_meth (pv 1) T.c_Splitter.cl T.m_Splitter_take G (hr.mono (by decide)) B .nil (passes_call (takes_of rfl rfl rfl rfl) fun _ _ _ _ z => z) (pa_cons (pv 0) pa_nil)), ?_⟩
    rw [show startF ["_law_b", "_law_late"] [v] [some (.ref p)] = [some v, some (.ref p)] from rfl]
    walk_at "rd"
    exact ⟨_, _, hS, lkn_take _ _ _, _, _, rfl, h1, k⟩
theorem lokT2 (T : Txt K mg a) (cl : List (Str × Addr)) (c' p : Addr) : LOk P w K mg base (L2.CX P w) 8 (LT 2 cl c') ["_law_c"] ["_law_over"] [some (.ref p)] (sp_lamT1 K a p) := by
  have G := ok_takeB (P := P) (w := w) (base := base) T
  have B := bi_Splitter_take T
  refine lok_of (N := ["_law_c", "_law_over"]) (show NScope _ _ _ (lamS (lamT 2)) from nscope_by (by decide +kernel)) (fun pm ctv us hl => match us, hl with | [_], _ => rfl) (fun vs H Q E h => ?_) (fun f A outer s H vs Q E hr h => ?_)
  · obtain ⟨v, _, _, _, _, rfl, _⟩ := h
    rfl
  · obtain ⟨v, dx, mp, fl, b, rfl, hS, h1, k⟩ := h
    refine ⟨_, (pe_meth (pv 1) T.c_Splitter.cl T.m_Splitter_take G (hr.mono (by decide)) B .nil (passes_call (takes_of rfl rfl rfl rfl) fun _ _ _ _ z => z) (pa_cons (pv 0) pa_nil)), ?_⟩
    rw [show startF ["_law_c", "_law_over"] [v] [some (.ref p)] = [some v, some (.ref p)] from rfl]
    walk_at "rd"
    exact ⟨_, _, hS, lkn_take _ _ _, _, _, rfl, h1, k⟩
theorem lokT4 (T : Txt K mg a) (cl : List (Str × Addr)) (c' p : Addr) : LOk P w K mg base (L2.CX P w) 8 (LT 4 cl c') ["_law_a"] ["_law_over"] [some (.ref p)] (sp_lamT4 a p) := by
  have G := ok_Splitter_takeX (P := P) (w := w) (base := base) T
  have B := bi_Splitter_take T
  refine lok_of (N := ["_law_a", "_law_over"]) (show NScope _ _ _ (lamS (lamT 4)) from nscope_by (by decide +kernel)) (fun pm ctv us hl => match us, hl with | [_], _ => rfl) (fun vs H Q E h => ?_) (fun f A outer s H vs Q E hr h => ?_)
  · obtain ⟨v, rfl, _⟩ := h
    rfl
  · obtain ⟨t, rfl, ho, h1, h2, k⟩ := h
    refine ⟨_, (pe_meth (pv 1) T.c_Splitter.cl T.m_Splitter_take G (hr.mono (by decide)) B .nil (passes_call (takes_of rfl rfl rfl rfl) fun _ _ _ _ z => z) (pa_cons (pv 0) pa_nil)), ?_⟩
    rw [show startF ["_law_a", "_law_over"] [V.str (S t)] [some (.ref p)] = [some (.str (S t)), some (.ref p)] from rfl]
    obtain ⟨dx, mp, fl, hS⟩ := id ho
    walk_at "rd"
    exact ⟨_, _, hS, lkn_take _ _ _, _, _, rfl, ho, h1, h2, k⟩
theorem lokT5 (T : Txt K mg a) (c' : Addr) : LOk P w K mg base (L2.CX P w) 8 (LT 5 [] c') ["_law_a"] [] [] (sp_lamT5 a) := by
  have G := ok_Splitter_endX (P := P) (w := w) (base := base) T
  have B := bi_Splitter_end T
  refine lok_of (N := ["_law_a"]) (show NScope _ _ _ (lamS (lamT 5)) from nscope_by (by decide +kernel)) (fun pm ctv us hl => match us, hl with | [_], _ => rfl) (fun vs H Q E h => ?_) (fun f A outer s H vs Q E hr h => ?_)
  · obtain ⟨v, rfl, _⟩ := h
    rfl
  · obtain ⟨p, rfl, ho, k⟩ := h
    refine ⟨_, (pe_meth0 (pv 0) T.c_Splitter.cl T.m_Splitter_end G (hr.mono (by decide)) B .nil (passes_call (takes_of rfl rfl rfl rfl) fun _ _ _ _ z => z)), ?_⟩
    obtain ⟨dx, mp, fl, hS⟩ := id ho
    rw [show startF ["_law_a"] [V.ref p] [] = [some (.ref p)] from rfl]
    walk_at "rd"
    exact ⟨_, _, hS, lkn_end _ _ _, p, rfl, ho, k⟩
theorem cloT0 (cells : List (Str × Addr)) : cloFrom cells (lamS (lamT 0)).names [] = [(("_law_rules" : Str), (cells.lookup ("_law_rules" : Str)).getD 0)] := by kernel_rfl
theorem cloT3 (cells : List (Str × Addr)) : cloFrom cells (lamS (lamT 3)).names [] = [(("_law_rules" : Str), (cells.lookup ("_law_rules" : Str)).getD 0)] := by kernel_rfl
theorem cloT1 (cells : List (Str × Addr)) : cloFrom cells (lamS (lamT 1)).names [] = [(("_law_late" : Str), (cells.lookup ("_law_late" : Str)).getD 0)] := by kernel_rfl
theorem cloT2 (cells : List (Str × Addr)) : cloFrom cells (lamS (lamT 2)).names [] = [(("_law_over" : Str), (cells.lookup ("_law_over" : Str)).getD 0)] := by kernel_rfl
theorem cloT4 (cells : List (Str × Addr)) : cloFrom cells (lamS (lamT 4)).names [] = [(("_law_over" : Str), (cells.lookup ("_law_over" : Str)).getD 0)] := by kernel_rfl
theorem spl_nt {H H' : Hp} {p dx mp dm fl rp dr : Addr} {r : RS} {u : Tx} (h : Spl a H p dx mp dm fl rp dr r u) (s : NTab H H') : Spl a H' p dx mp dm fl rp dr r u := by
  obtain ⟨xs, x1, x2⟩ := h.h3
  exact ⟨s _ _ h.h1 (fun _ z => by cases z), s _ _ h.h2 (fun _ z => by cases z), ⟨xs, s _ _ x1 (fun _ z => by cases z), x2.mono fun b ys e => s _ _ e (fun _ z => by cases z)⟩, s _ _ h.h4 (fun _ z => by cases z)⟩
theorem over_nt {H H' : Hp} {p : Addr} (h : Over a H p) (s : NTab H H') : Over a H' p := by
  obtain ⟨dx, mp, fl, e⟩ := h
  exact ⟨dx, mp, fl, s _ _ e (fun _ z => by cases z)⟩
/-- what stands all the while -/
structure Tr (a : Ad) (rp dr lp ld lm ldm lf op : Addr) (H : Hp) : Prop where
  l : Spl a H lp ld lm ldm lf rp dr usualR []
  o : Over a H op
theorem Tr.nt {rp dr lp ld lm ldm lf op : Addr} {H H' : Hp} (h : Tr a rp dr lp ld lm ldm lf op H) (s : NTab H H') : Tr a rp dr lp ld lm ldm lf op H' := ⟨spl_nt h.l s, over_nt h.o s⟩
theorem all_lent {X : Cx} {ys : List (Str × Nat)} {σ : L2.St} {cs : List (Addr × Obj)} {F : Hp} {la lt : Addr} {fs : List Addr} {ths : List V} {i : Nat} {Q : VK} {E : XK} (LF : LentF X ys σ cs F) (hla : F la = some (.lst (fs.map V.ref))) (hlt : F lt = some (.lst ths)) (lf : fs.length ≤ 100) (ll : ths.length ≤ 100) (hi : i < 5)
    (hR : ∀ f ∈ fs, ∀ v ∈ ths, Refd P w K mg base a f v i (lendH cs F)) (k : ∀ H', Same F (dropH cs H') → (∀ b o, cs.lookup b = some o → H' b = some (ObjO b o)) → Q (.bl true) H') : sp_all P w K mg base a [.ref la, .ref lt, .int i] (lendH cs F) Q E :=
  ⟨la, lt, fs, ths, i, rfl, (lent_up LF hla).1, (lent_up LF hlt).1, lf, ll, hi, hR, fun H' s' => k _ (lent_same LF s').2 (lent_same LF s').1⟩
theorem fl1 (n c : Nat) : (List.replicate n [c]).flatten = List.replicate n c := by simp
theorem made {H H' : Hp} {x dx C : Addr} (hx : H x = none) (hdx : H dx = none) (ne : ¬dx = x) (k : Kp x (upd (upd H dx (HO.own x)) x (HO.ins C dx [])) H') : Same H H' := fun b o e =>
  k b o (by rw [upd_ne (ne_of_none e hx), upd_ne (ne_of_none e hdx)]; exact e) (ne_of_none e hx)
theorem lk_WFwE (p q : Addr) : List.lookup ("words" : Str) (WF p q) = some (.ref p) := by kernel_rfl
theorem tabs_of {H H' : Hp} {P : Addr} {q : Str} (t : TabS H P q) (k : ∀ b o, H b = some o → ((∃ ps, o = .tbl ps) ∨ ∃ c q, o = CodeO c q) → H' b = some o) : TabS H' P q := by
  obtain ⟨ps, h1, h2, h3⟩ := t
  refine ⟨ps, k _ _ h1 (.inl ⟨_, rfl⟩), h2, fun pos cv hc => ?_⟩
  obtain ⟨c, e1, e2⟩ := h3 pos cv hc
  exact ⟨c, e1, k _ _ e2 (.inr ⟨_, _, rfl⟩)⟩
theorem kind_ins {C dx : Addr} {fs : List (Str × V)} : ¬ ((∃ ps, HO.ins C dx fs = .tbl ps) ∨ ∃ c q, HO.ins C dx fs = CodeO c q) := by
  rintro (⟨_, z⟩ | ⟨_, _, z⟩)
  · cases z
  · unfold CodeO at z; cases z
theorem kind_lst {xs : List V} : ¬ ((∃ ps, HO.lst xs = .tbl ps) ∨ ∃ c q, HO.lst xs = CodeO c q) := by
  rintro (⟨_, z⟩ | ⟨_, _, z⟩)
  · cases z
  · unfold CodeO at z; cases z
def ysT : List (Str × Nat) := [("_law_rules", 6), ("_law_late", 4), ("_law_over", 5)]
def sp_texts_right (a : Ad) : Sp := fun vs H Q _ => ∃ n : Nat, vs = [.int n] ∧ TabS H a.p__law_texts_right qT ∧ ∀ H', Kp a.p__law_texts_right H H' → TabS H' a.p__law_texts_right qT → Q (.bl true) H'
theorem ok_texts_right (T : Txt K mg a) (TB : TabB base mg a.k__law_texts_right a.p__law_texts_right) : FnG P w K mg base 11 a.f__law_texts_right a.d__law_texts_right P__law_texts_right (sp_texts_right a) := by
  refine fnG_ofC T.K__law_texts_right sc__law_texts_right (fun vs H Q E h => ?_) (fun A outer s H vs Q E hfr hr h => ?_)
  · obtain ⟨n, rfl, _⟩ := h
    rfl
  · obtain ⟨n, rfl, hT, q⟩ := h
    have G__law_all := ok_all (P := P) (w := w) (base := base) T
    have B__law_all := bi__law_all T
    have G_Rules_init := ok_Rules_init (P := P) (w := w) (base := base) T
    obtain ⟨Ds_Rules_init0, D_Rules_init0, B_Rules_init0⟩ := bi_Rules_init0 T
    have G_Splitter_init := ok_Splitter_init (P := P) (w := w) (base := base) T
    have B_Splitter_init := bi_Splitter_init T
    have G_Splitter_take := ok_Splitter_take (P := P) (w := w) (base := base) T
    have B_Splitter_take := bi_Splitter_take T
    have G_Splitter_end := ok_Splitter_end (P := P) (w := w) (base := base) T
    have B_Splitter_end := bi_Splitter_end T
    have hyT : ∀ y ∈ ysT, (cxOf CX0 P w K mg base N__law_texts_right "_law_texts_right" (defScope st__law_texts_right) a.f__law_texts_right (.ref a.k__law_texts_right) A outer s H E).nox.N[y.2]? = some y.1 ∧ (cxOf CX0 P w K mg base N__law_texts_right "_law_texts_right" (defScope st__law_texts_right) a.f__law_texts_right (.ref a.k__law_texts_right) A outer s H E).nox.env.scope.names.lookup y.1 = some .cell ∧ (cxOf CX0 P w K mg base N__law_texts_right "_law_texts_right" (defScope st__law_texts_right) a.f__law_texts_right (.ref a.k__law_texts_right) A outer s H E).nox.fn y.1 = true := fun y hy => by
      simp only [ysT, List.mem_cons, List.not_mem_nil, or_false] at hy
      rcases hy with rfl | rfl | rfl <;> exact ⟨rfl, by kernel_rfl, rfl⟩
    refine ⟨_,
(pss_cons (ps_asg (pe_tup (pa_cons (pe_make0 T.c_Rules.mc G_Rules_init (hr.mono (by decide)) rfl T.c_Rules.g B_Rules_init0 D_Rules_init0 pass0) (pa_cons (pe_op op_mod (pv 0) pe_int) (pa_cons (pe_op op_mul_str pe_str pe_int) pa_nil)))) (pg_tup rfl (pgs_cons (pg_name (i := 6) sc__law_texts_right.nd rfl (by first | exact Or.inl rfl | exact Or.inr rfl)) (pgs_cons (pg_name (i := 1) sc__law_texts_right.nd rfl (by first | exact Or.inl rfl | exact Or.inr rfl)) (pgs_cons (pg_name (i := 2) sc__law_texts_right.nd rfl (by first | exact Or.inl rfl | exact Or.inr rfl)) pgs_nil)))))
    (pss_cons (ps_asg (pe_tup (pa_cons (pe_make T.c_Splitter.mc G_Splitter_init (hr.mono (by decide)) rfl T.c_Splitter.g B_Splitter_init .nil pass0 (pa_cons (pv 6) pa_nil)) (pa_cons (pe_make T.c_Splitter.mc G_Splitter_init (hr.mono (by decide)) rfl T.c_Splitter.g B_Splitter_init .nil pass0 (pa_cons (pv 6) pa_nil)) pa_nil))) (pg_tup rfl (pgs_cons (pg_name (i := 4) sc__law_texts_right.nd rfl (by first | exact Or.inl rfl | exact Or.inr rfl)) (pgs_cons (pg_name (i := 5) sc__law_texts_right.nd rfl (by first | exact Or.inl rfl | exact Or.inr rfl)) pgs_nil))))
    (pss_cons (ps_expr (pe_meth0 (pv 5) T.c_Splitter.cl T.m_Splitter_end G_Splitter_end (hr.mono (by decide)) B_Splitter_end .nil pass0))
    (pss_cons (ps_set (i := 3) sc__law_texts_right.nd rfl (by first | exact Or.inl rfl | exact Or.inr rfl) (pe_lst (pa_cons pe_non (pa_cons pe_int (pa_cons pe_bl (pa_cons (pe_lst (pa_cons pe_str pa_nil)) (pa_cons (pe_tup (pa_cons pe_str pa_nil)) (pa_cons pe_dnewK (pa_cons pe_str (pa_cons pe_str (pa_cons (pe_op op_add_str (pe_op op_add_str (pe_slice sl_str (pv 2) po_none (po_some (pv 1))) pe_str) (pe_slice sl_str (pv 2) (po_some (pv 1)) po_none)) (pa_cons pe_str pa_nil))))))))))))
    (pss_cons (ps_if (pt_not (pt_val (pe_callLend (ys := ysT) (FnOk.toG G__law_all) hfr (hr.mono (by decide)) rfl T.f__law_all.g T.f__law_all.k B__law_all hyT (pa_cons (pe_lst (pa_cons (pe_lamP (q := qT) TB rfl (by kernel_rfl) rfl (show ∀ y ∈ (lamS (lamT 0)).names, y.2 = .free → (defScope st__law_texts_right).names.lookup y.1 = some .cell ∨ (defScope st__law_texts_right).names.lookup y.1 = some .free from by decide +kernel)) (pa_cons (pe_lamP (q := qT) TB rfl (by kernel_rfl) rfl (show ∀ y ∈ (lamS (lamT 1)).names, y.2 = .free → (defScope st__law_texts_right).names.lookup y.1 = some .cell ∨ (defScope st__law_texts_right).names.lookup y.1 = some .free from by decide +kernel)) (pa_cons (pe_lamP (q := qT) TB rfl (by kernel_rfl) rfl (show ∀ y ∈ (lamS (lamT 2)).names, y.2 = .free → (defScope st__law_texts_right).names.lookup y.1 = some .cell ∨ (defScope st__law_texts_right).names.lookup y.1 = some .free from by decide +kernel)) pa_nil)))) (pa_cons (pv 3) (pa_cons pe_int pa_nil)))))) (pss_one (ps_ret pe_bl)) pss_nil)
    (pss_cons (ps_if (pt_not (pt_val (pe_callLend (ys := ysT) (FnOk.toG G__law_all) hfr (hr.mono (by decide)) rfl T.f__law_all.g T.f__law_all.k B__law_all hyT (pa_cons (pe_lst (pa_cons (pe_lamP (q := qT) TB rfl (by kernel_rfl) rfl (show ∀ y ∈ (lamS (lamT 0)).names, y.2 = .free → (defScope st__law_texts_right).names.lookup y.1 = some .cell ∨ (defScope st__law_texts_right).names.lookup y.1 = some .free from by decide +kernel)) pa_nil)) (pa_cons (pe_lst (pa_cons (pe_op op_mul_str pe_str pe_int) (pa_cons (pe_op op_mul_str pe_str (pe_op op_add pe_int (pe_op op_mod (pv 0) pe_int))) (pa_cons (pe_op op_mul_str pe_str pe_int) pa_nil)))) (pa_cons pe_int pa_nil)))))) (pss_one (ps_ret pe_bl)) pss_nil)
    (pss_cons (ps_if (pt_not (pt_val (pe_callLend (ys := ysT) (FnOk.toG G__law_all) hfr (hr.mono (by decide)) rfl T.f__law_all.g T.f__law_all.k B__law_all hyT (pa_cons (pe_lst (pa_cons (pe_lamP (q := qT) TB rfl (by kernel_rfl) rfl (show ∀ y ∈ (lamS (lamT 4)).names, y.2 = .free → (defScope st__law_texts_right).names.lookup y.1 = some .cell ∨ (defScope st__law_texts_right).names.lookup y.1 = some .free from by decide +kernel)) pa_nil)) (pa_cons (pe_lst (pa_cons pe_str (pa_cons pe_str pa_nil))) (pa_cons pe_int pa_nil)))))) (pss_one (ps_ret pe_bl)) pss_nil)
    (pss_cons (ps_if (pt_not (pt_val (pe_callLend (ys := ysT) (FnOk.toG G__law_all) hfr (hr.mono (by decide)) rfl T.f__law_all.g T.f__law_all.k B__law_all hyT (pa_cons (pe_lst (pa_cons (pe_lamP (q := qT) TB rfl (by kernel_rfl) rfl (fun y hy e => absurd e ((by decide +kernel : ∀ y ∈ (lamS (lamT 5)).names, y.2 ≠ .free) y hy))) pa_nil)) (pa_cons (pe_lst (pa_cons (pv 5) (pa_cons (pv 5) pa_nil))) (pa_cons pe_int pa_nil)))))) (pss_one (ps_ret pe_bl)) pss_nil)
    (pss_one (ps_ret (pe_and (pe_cmpR (op_eqD hr.units) (pe_meth (pv 4) T.c_Splitter.cl T.m_Splitter_take G_Splitter_take (hr.mono (by decide)) B_Splitter_take .nil pass0 (pa_cons (pe_op op_mul_str pe_str pe_int) pa_nil)) (pe_lst pa_nil) (nomark _)) (pe_one (pe_cmpR (op_eqD hr.units) (pe_fld (pe_meth0 (pv 4) T.c_Splitter.cl T.m_Splitter_end G_Splitter_end (hr.mono (by decide)) B_Splitter_end .nil pass0) rfl) (pe_lst (pa_cons (pe_op op_mul_str pe_str pe_int) pa_nil)) (nomark _))))))))))))))
      , ?_⟩
    rw [show start N__law_texts_right [V.int n] = [some (.int n), none, none, none, none, none, none, none, none, none] from rfl]
    refine tseq_split (fun σ' G => ∃ rp dr, σ' = [some (.int n), some (.int (n % 400 : Nat)), some (.str (S (List.replicate 399 97))), none, none, none, some (.ref rp), none, none, none] ∧ Same H G ∧ G rp = some (.ins a.c_Rules dr (RS.f usualR))) (fun N hN => ?_) ?_
    · walk_at "rd"
      intro x dx hx hdx ne
      have eA : Str.ofString "a" = S [97] := by decide +kernel
      refine ⟨x, dx, usualR, by kernel_rfl, usualR_ok, upd_same, fun F1 f1 k1 => ⟨rfl, by decide, [97], eA, 399, rfl, by decide, by decide, fun tp htp => ⟨_, .inl (.inl upd_same), rfl, _, _, rfl, _, _, rfl, _, _, rfl, rfl, ?_⟩⟩⟩
      rw [fl1, show ((n : Int) % 400) = ((n % 400 : Nat) : Int) by omega]
      have s9 := same_new (o := HO.tup [V.ref x, V.int ((n % 400 : Nat) : Int), V.str (S (List.replicate 399 97))]) htp
      exact hN _ _ ⟨x, dx, rfl, (made hx hdx ne k1).trans s9, s9 _ _ f1⟩
    rintro σ1 G1 ⟨rp, dr, rfl, s1, erp⟩
    have T1 := hT.ext s1
    refine tseq_split (fun σ' G => ∃ lp ld lm ldm lf op od om odm of, σ' = [some (.int n), some (.int (n % 400 : Nat)), some (.str (S (List.replicate 399 97))), none, some (.ref lp), some (.ref op), some (.ref rp), none, none, none] ∧ Same G1 G ∧ Spl a G lp ld lm ldm lf rp dr usualR [] ∧ Spl a G op od om odm of rp dr usualR [] ∧ G1 lp = none ∧ G1 lm = none ∧ G1 lf = none ∧ G1 op = none ∧ G1 om = none ∧ lp ≠ op ∧ lp ≠ om ∧ lm ≠ op ∧ lm ≠ om ∧ lf ≠ op ∧ lf ≠ om) (fun N hN => ?_) ?_
    · walk_at "rd"
      intro x dx hx hdx ne
      have sx : Same G1 (upd (upd G1 dx (HO.own x)) x (HO.ins a.c_Splitter dx [])) := (same_new hdx).trans (same_new (by rw [upd_ne (Ne.symm ne)]; exact hx))
      refine ⟨x, dx, rp, dr, usualR, rfl, upd_same, sx _ _ erp, fun F1 lm ldm lf m1 m2 S1 k1 => ⟨rfl, fun y dy hy hdy ney => ?_⟩⟩
      have s1 := made hx hdx ne k1
      have sy : Same F1 (upd (upd F1 dy (HO.own y)) y (HO.ins a.c_Splitter dy [])) := (same_new hdy).trans (same_new (by rw [upd_ne (Ne.symm ney)]; exact hy))
      refine ⟨y, dy, rp, dr, usualR, rfl, upd_same, sy _ _ S1.h4, fun F2 om odm of m3 m4 S2 k2 => ⟨rfl, fun tp htp => ⟨_, .inl (.inl upd_same), rfl, _, _, rfl, _, _, rfl, rfl, ?_⟩⟩⟩
      have s2 := made hy hdy ney k2
      have s3 := same_new (o := HO.tup [V.ref x, V.ref y]) htp
      have om0 : F1 om = none := none_upd (none_upd m3)
      obtain ⟨xs, x1, _⟩ := S1.h3
      exact hN _ _ ⟨x, dx, lm, ldm, lf, y, dy, om, odm, of, rfl, (s1.trans s2).trans s3, (S1.same s2).same s3, S2.same s3, hx, none_upd (none_upd m1), none_upd (none_upd m2), s1.free hy, s1.free om0, ne_of_none S1.h1 hy, ne_of_none S1.h1 om0, ne_of_none S1.h2 hy, ne_of_none S1.h2 om0, ne_of_none x1 hy, ne_of_none x1 om0⟩
    rintro σ2 G2 ⟨lp, ld, lm, ldm, lf, op, od, om, odm, of, rfl, s2, Sl, So, n1, n4, n5, n2, n3, d1, d2, d3, d4, d5, d6⟩
    refine tseq_split (fun σ' G => σ' = [some (.int n), some (.int (n % 400 : Nat)), some (.str (S (List.replicate 399 97))), none, some (.ref lp), some (.ref op), some (.ref rp), none, none, none] ∧ Same G1 G ∧ Tr a rp dr lp ld lm ldm lf op G) (fun N hN => ?_) ?_
    · walk_at "rd"
      refine ⟨_, _, So.h1, lkn_end _ _ _, op, od, om, odm, of, rp, dr, usualR, [], rfl, So, by decide, fun q1 F1 hq1 an hp1 k1 => hN _ _ ⟨rfl, fun b o e => k1 _ _ (s2 _ _ e) (ne_of_none e n2) (ne_of_none e n3), ⟨?_, ⟨_, _, _, hp1⟩⟩⟩⟩
      obtain ⟨xs, x1, x2⟩ := Sl.h3
      have ne1 := So.ne1
      exact ⟨k1 _ _ Sl.h1 d1 d2, k1 _ _ Sl.h2 d3 d4, ⟨xs, k1 _ _ x1 d5 d6, x2.mono (K2.tk k1 So.h1 So.h2 (fun _ z => by cases z) fun _ z => by cases z)⟩, k1 _ _ Sl.h4 ne1.2.2.2.2.2 ne1.2.2.2.1⟩
    rintro σ3 G3 ⟨rfl, s3, tr3⟩
    have T3 := T1.ext s3
    have kI : PySem.W.kitOne K (.type "int") (.type "str") = some false := kit_ty (by decide +kernel)
    have kB : PySem.W.kitOne K (.type "bool") (.type "str") = some false := kit_ty (by decide +kernel)
    have kL : PySem.W.kitOne K (.type "list") (.type "str") = some false := kit_ty (by decide +kernel)
    have kT : PySem.W.kitOne K (.type "tuple") (.type "str") = some false := kit_ty (by decide +kernel)
    have kD : PySem.W.kitOne K (.type "dict") (.type "str") = some false := kit_ty (by decide +kernel)
    have kN : PySem.W.kitOne K (.type "NoneType") (.type "str") = some false := kit_ty (by decide +kernel)
    refine tseq_split (fun σ' G => ∃ sl xs, σ' = [some (.int n), some (.int (n % 400 : Nat)), some (.str (S (List.replicate 399 97))), some (.ref sl), some (.ref lp), some (.ref op), some (.ref rp), none, none, none] ∧ Same G3 G ∧ G sl = some (.lst xs) ∧ xs.length ≤ 20 ∧ ∀ v ∈ xs, BadT K G v) (fun N hN => ?_) ?_
    · walk_at "rd"
      intro l1 h1
      walk_at "al"
      rename_i t1 h2 F2 k2 e2
      simp only [tDNewK]
      intro d1 h3
      have s0 := same_new (o := HO.lst [V.str (Str.ofString "a")]) h1
      have e1 := k2 _ _ (upd_same (H := G3) (a := l1) (o := HO.lst [V.str (Str.ofString "a")]))
      have s3' := same_new (o := HO.dK []) h3
      have e3 : upd F2 d1 (HO.dK []) d1 = some _ := upd_same
      generalize upd F2 d1 (HO.dK []) = F3 at *
      have u1 : Str.ofString "\t" = S [9] := by decide +kernel
      have u2 : Str.ofString "a\tb" = S [97, 9, 98] := by decide +kernel
      have u3 : Str.ofString "\t\n" = S [9, 10] := by decide +kernel
      rw [u1, u2, u3, cutS_to, cutS_from, S_app, S_app]
      have lt : ((List.replicate 399 97).take (n % 400) : Tx).length ≤ 399 := by rw [List.length_take, List.length_replicate]; exact Nat.min_le_right _ _
      have ld : ((List.replicate 399 97).drop (n % 400) : Tx).length ≤ 399 := by rw [List.length_drop, List.length_replicate]; exact Nat.sub_le _ _
      refine ⟨by rw [List.length_replicate]; decide, ?_, by rw [List.length_replicate]; decide, ?_, fun sl h4 => ?_⟩
      · rw [S_len, S_len]; exact Nat.le_trans (show _ + 1 ≤ 400 by omega) (by decide)
      · rw [S_len, S_len, List.length_append]; exact Nat.le_trans (show _ + 1 + _ ≤ 800 by omega) (by decide)
      have s4 := same_new (o := HO.lst [V.non, V.int 5, V.bl true, V.ref l1, V.ref t1, V.ref d1, V.str (S [9]), V.str (S [97, 9, 98]), V.str (S ((List.replicate 399 97).take (n % 400) ++ [9] ++ (List.replicate 399 97).drop (n % 400))), V.str (S [9, 10])]) h4
      refine hN _ _ ⟨sl, _, rfl, ((s0.trans k2).trans s3').trans s4, upd_same, by simp, fun v hv => ?_⟩
      simp only [List.mem_cons, List.not_mem_nil, or_false] at hv
      rcases hv with rfl | rfl | rfl | rfl | rfl | rfl | rfl | rfl | rfl | rfl
      · exact bad_ty (.base .non) kN
      · exact bad_ty (.base (.int _)) kI
      · exact bad_ty (.base (.bl _)) kB
      · exact bad_ty (.base (.lst (s4 _ _ (s3' _ _ e1)))) kL
      · exact bad_ty (.base (.tup (s4 _ _ (s3' _ _ e2)))) kT
      · exact bad_ty (.base (.dK (s4 _ _ e3))) kD
      · exact .inr ⟨_, rfl, by decide, by decide⟩
      · exact .inr ⟨_, rfl, by decide, by decide⟩
      · refine .inr ⟨_, rfl, by rw [List.length_append, List.length_append]; simp only [List.length_cons, List.length_nil]; omega, ?_⟩
        rw [List.all_append, List.all_append, show ([9] : Tx).all sgn = false by decide, Bool.and_false, Bool.false_and]
      · exact .inr ⟨_, rfl, by decide, by decide⟩
    rintro σ4 G4 ⟨sl, xs, rfl, s4, esl, xl, hth⟩
    have tr4 := tr3.nt s4.nt
    have T4 := T3.ext s4
    refine tseq_split (fun σ' G => σ' = [some (.int n), some (.int (n % 400 : Nat)), some (.str (S (List.replicate 399 97))), some (.ref sl), some (.ref lp), some (.ref op), some (.ref rp), none, none, none] ∧ Kp a.p__law_texts_right G4 G ∧ TabS G a.p__law_texts_right qT) (fun N hN => ?_) ?_
    · walk_at "rd"
      simp only [tCallLend]
      walk_at "rd"
      simp only [tLamP]
      refine ⟨T4, fun f0 c0 F0 k0 _ t0 _ e0 m0 => ⟨t0, fun f1 c1 F1 k1 _ t1 _ e1 m1 => ⟨t1, fun f2 c2 F2 k2 _ t2 _ e2 m2 => ?_⟩⟩⟩
      intro la hla cs LF
      have sa := same_new (o := HO.lst [V.ref f0, V.ref f1, V.ref f2]) hla
      have ea : upd F2 la (HO.lst [V.ref f0, V.ref f1, V.ref f2]) la = some (.lst ([f0, f1, f2].map V.ref)) := upd_same
      generalize upd F2 la (HO.lst [V.ref f0, V.ref f1, V.ref f2]) = F at *
      have l0 : LamAt F0 (LT 0 (cloFrom (cxOf CX0 P w K mg base N__law_texts_right "_law_texts_right" (defScope st__law_texts_right) a.f__law_texts_right (.ref a.k__law_texts_right) A outer s H E).nox.env.cells (lamS (lamT 0)).names [])) f0 c0 := ⟨e0, m0⟩
      have l1 : LamAt F1 (LT 1 (cloFrom (cxOf CX0 P w K mg base N__law_texts_right "_law_texts_right" (defScope st__law_texts_right) a.f__law_texts_right (.ref a.k__law_texts_right) A outer s H E).nox.env.cells (lamS (lamT 1)).names [])) f1 c1 := ⟨e1, m1⟩
      have l2 : LamAt F2 (LT 2 (cloFrom (cxOf CX0 P w K mg base N__law_texts_right "_law_texts_right" (defScope st__law_texts_right) a.f__law_texts_right (.ref a.k__law_texts_right) A outer s H E).nox.env.cells (lamS (lamT 2)).names [])) f2 c2 := ⟨e2, m2⟩
      have w1 := nt_of t0 k1
      have w2 := nt_of t1 k2
      have l0 := (lam_nt (lam_nt l0 w1) w2).same sa
      have l1 := (lam_nt l1 w2).same sa
      have l2 := l2.same sa
      have wF := ((nt_of T4 k0).trans (w1.trans w2)).trans sa.nt
      have trF := tr4.nt wF
      refine all_lent (i := 1) LF ea (wF _ _ esl fun _ z => by cases z) (by simp) (by omega) (by decide) (fun f hf v hv => ?_) (fun G sG q1 => ⟨q1, true, rfl, ite2 (fun z => by cases z) (fun _ => hN _ _ ⟨rfl, ((k0.trans k1).trans k2).trans ((sa.trans sG).kp _), t2.ext (sa.trans sG)⟩)⟩)
      have bv := bad_nt (hth v hv) wF
      simp only [List.mem_cons, List.not_mem_nil, or_false] at hf
      rcases hf with rfl | rfl | rfl
      · exact refdC (cloT0 _) LF (.head _) rfl rfl rfl (lokT0 T _ c0 rp) l0 fun H' s' Q' E' kk => ⟨v, rfl, .inl (bv.same s'), fun H2 s2 => kk none H2 (.inl rfl) s2⟩
      · exact refdC (cloT1 _) LF (.tail _ (.head _)) rfl rfl rfl (lokT1 T _ c1 lp) l1 fun H' s' Q' E' kk => ⟨v, _, _, _, _, rfl, s' _ _ trF.l.h1, bv.same s', fun H2 s2 => kk none H2 (.inl rfl) s2⟩
      · obtain ⟨ox, om', of', eo⟩ := trF.o
        exact refdC (cloT2 _) LF (.tail _ (.tail _ (.head _))) rfl rfl rfl (lokT2 T _ c2 op) l2 fun H' s' Q' E' kk => ⟨v, _, _, _, _, rfl, s' _ _ eo, bv.same s', fun H2 s2 => kk none H2 (.inl rfl) s2⟩
    rintro σ5 G5 ⟨rfl, k5, T5⟩
    have tr5 := tr4.nt (nt_of T4 k5)
    refine tseq_split (fun σ' G => σ' = [some (.int n), some (.int (n % 400 : Nat)), some (.str (S (List.replicate 399 97))), some (.ref sl), some (.ref lp), some (.ref op), some (.ref rp), none, none, none] ∧ Kp a.p__law_texts_right G5 G ∧ TabS G a.p__law_texts_right qT) (fun N hN => ?_) ?_
    · walk_at "rd"
      simp only [tCallLend]
      walk_at "rd"
      simp only [tLamP]
      refine ⟨T5, fun f0 c0 F0 k0 _ t0 _ e0 m0 => ?_⟩
      intro la hla
      have l0 : LamAt F0 (LT 3 (cloFrom (cxOf CX0 P w K mg base N__law_texts_right "_law_texts_right" (defScope st__law_texts_right) a.f__law_texts_right (.ref a.k__law_texts_right) A outer s H E).nox.env.cells (lamS (lamT 3)).names [])) f0 c0 := ⟨e0, m0⟩
      have sa := same_new (o := HO.lst [V.ref f0]) hla
      have ea : upd F0 la (HO.lst [V.ref f0]) la = some (.lst ([f0].map V.ref)) := upd_same
      generalize upd F0 la (HO.lst [V.ref f0]) = F at *
      have eA : Str.ofString "a" = S [97] := by decide +kernel
      have eT : Str.ofString "\t" = S [9] := by decide +kernel
      refine ⟨[97], eA, 401, rfl, by decide, by decide, by decide, [32], eSp, 401 + n % 99, by omega, by omega, by decide, [9], eT, 401, rfl, by decide, by decide, fun lt hlt cs LF => ?_⟩
      rw [fl1, fl1, fl1] at LF ⊢
      have sb := same_new (o := HO.lst [V.str (S (List.replicate 401 97)), V.str (S (List.replicate (401 + n % 99) 32)), V.str (S (List.replicate 401 9))]) hlt
      have eb : upd F lt (HO.lst [V.str (S (List.replicate 401 97)), V.str (S (List.replicate (401 + n % 99) 32)), V.str (S (List.replicate 401 9))]) lt = some _ := upd_same
      generalize upd F lt (HO.lst [V.str (S (List.replicate 401 97)), V.str (S (List.replicate (401 + n % 99) 32)), V.str (S (List.replicate 401 9))]) = FF at *
      have sab := sa.trans sb
      refine all_lent (i := 1) LF (sb _ _ ea) eb (by simp) (by simp) (by decide) (fun f hf v hv => ?_) (fun G sG q1 => ⟨q1, true, rfl, ite2 (fun z => by cases z) (fun _ => hN _ _ ⟨rfl, k0.trans ((sab.trans sG).kp _), t0.ext (sab.trans sG)⟩)⟩)
      have alls : ∀ (m c : Nat), sgn c = true → (List.replicate m c).all sgn = true := fun m c h => List.all_eq_true.mpr fun x hx => by rw [(List.mem_replicate.mp hx).2]; exact h
      have lv : LongT K FF v := by
        simp only [List.mem_cons, List.not_mem_nil, or_false] at hv
        rcases hv with rfl | rfl | rfl
        · exact .inr ⟨_, rfl, alls _ _ (by decide), by rw [List.length_replicate]; omega, by rw [List.length_replicate]; omega⟩
        · exact .inr ⟨_, rfl, alls _ _ (by decide), by rw [List.length_replicate]; omega, by rw [List.length_replicate]; omega⟩
        · exact .inl (.inr ⟨_, rfl, by rw [List.length_replicate]; omega, by decide +kernel⟩)
      rw [List.mem_singleton.mp hf]
      exact refdC (cloT3 _) LF (.head _) rfl rfl rfl (lokT3 T _ c0 rp) (l0.same sab) fun H' s' Q' E' kk => ⟨v, rfl, lv.imp (fun b => b.same s') id, fun H2 s2 => kk none H2 (.inl rfl) s2⟩
    rintro σ6 G6 ⟨rfl, k6, T6⟩
    have tr6 := tr5.nt (nt_of T5 k6)
    refine tseq_split (fun σ' G => σ' = [some (.int n), some (.int (n % 400 : Nat)), some (.str (S (List.replicate 399 97))), some (.ref sl), some (.ref lp), some (.ref op), some (.ref rp), none, none, none] ∧ Kp a.p__law_texts_right G6 G ∧ TabS G a.p__law_texts_right qT) (fun N hN => ?_) ?_
    · walk_at "rd"
      simp only [tCallLend]
      walk_at "rd"
      simp only [tLamP]
      refine ⟨T6, fun f0 c0 F0 k0 _ t0 _ e0 m0 => ?_⟩
      intro la hla lt hlt cs LF
      have eA : Str.ofString "a" = S [97] := by decide +kernel
      rw [eA] at LF ⊢
      have l0 : LamAt F0 (LT 4 (cloFrom (cxOf CX0 P w K mg base N__law_texts_right "_law_texts_right" (defScope st__law_texts_right) a.f__law_texts_right (.ref a.k__law_texts_right) A outer s H E).nox.env.cells (lamS (lamT 4)).names [])) f0 c0 := ⟨e0, m0⟩
      have sa := same_new (o := HO.lst [V.ref f0]) hla
      have ea : upd F0 la (HO.lst [V.ref f0]) la = some (.lst ([f0].map V.ref)) := upd_same
      generalize upd F0 la (HO.lst [V.ref f0]) = F at *
      have sb := same_new (o := HO.lst [V.str (S []), V.str (S [97])]) hlt
      have eb : upd F lt (HO.lst [V.str (S []), V.str (S [97])]) lt = some _ := upd_same
      generalize upd F lt (HO.lst [V.str (S []), V.str (S [97])]) = FF at *
      have sab := sa.trans sb
      have trF := (tr6.nt (nt_of T6 k0)).nt sab.nt
      refine all_lent (i := 4) LF (sb _ _ ea) eb (by simp) (by simp) (by decide) (fun f hf v hv => ?_) (fun G sG q1 => ⟨q1, true, rfl, ite2 (fun z => by cases z) (fun _ => hN _ _ ⟨rfl, k0.trans ((sab.trans sG).kp _), t0.ext (sab.trans sG)⟩)⟩)
      rw [List.mem_singleton.mp hf]
      obtain ⟨t, rfl, h1, h2⟩ : ∃ t : Tx, v = .str (S t) ∧ t.length ≤ 50000 ∧ t.all sgn = true := by
        simp only [List.mem_cons, List.not_mem_nil, or_false] at hv
        rcases hv with rfl | rfl
        · exact ⟨[], rfl, by decide, by decide⟩
        · exact ⟨[97], rfl, by decide, by decide⟩
      exact refdC (cloT4 _) LF (.tail _ (.tail _ (.head _))) rfl rfl rfl (lokT4 T _ c0 op) (l0.same sab) fun H' s' Q' E' kk => ⟨t, rfl, trF.o.same s', h1, h2, fun H2 s2 => kk none H2 (.inl rfl) s2⟩
    rintro σ7 G7 ⟨rfl, k7, T7⟩
    have tr7 := tr6.nt (nt_of T6 k7)
    refine tseq_split (fun σ' G => σ' = [some (.int n), some (.int (n % 400 : Nat)), some (.str (S (List.replicate 399 97))), some (.ref sl), some (.ref lp), some (.ref op), some (.ref rp), none, none, none] ∧ Kp a.p__law_texts_right G7 G ∧ TabS G a.p__law_texts_right qT) (fun N hN => ?_) ?_
    · walk_at "rd"
      simp only [tCallLend]
      walk_at "rd"
      simp only [tLamP]
      refine ⟨T7, fun f0 c0 F0 k0 _ t0 _ e0 m0 => ?_⟩
      intro la hla lt hlt cs LF
      have l0 : LamAt F0 (LT 5 []) f0 c0 := ⟨e0, m0⟩
      have sa := same_new (o := HO.lst [V.ref f0]) hla
      have ea : upd F0 la (HO.lst [V.ref f0]) la = some (.lst ([f0].map V.ref)) := upd_same
      generalize upd F0 la (HO.lst [V.ref f0]) = F at *
      have sb := same_new (o := HO.lst [V.ref op, V.ref op]) hlt
      have eb : upd F lt (HO.lst [V.ref op, V.ref op]) lt = some _ := upd_same
      generalize upd F lt (HO.lst [V.ref op, V.ref op]) = FF at *
      have sab := sa.trans sb
      have trF := (tr7.nt (nt_of T7 k0)).nt sab.nt
      refine all_lent (i := 4) LF (sb _ _ ea) eb (by simp) (by simp) (by decide) (fun f hf v hv => ?_) (fun G sG q1 => ⟨q1, true, rfl, ite2 (fun z => by cases z) (fun _ => hN _ _ ⟨rfl, k0.trans ((sab.trans sG).kp _), t0.ext (sab.trans sG)⟩)⟩)
      rw [List.mem_singleton.mp hf]
      have hv : v = .ref op := by
        simp only [List.mem_cons, List.not_mem_nil, or_false, or_self] at hv
        exact hv
      subst hv
      have up : ∀ {b o}, FF b = some o → lendH cs FF b = some o := fun e => (lent_up LF e).1
      have lL : LamAt (lendH cs FF) (LT 5 []) f0 c0 := ⟨up (l0.same sab).1, up (l0.same sab).2⟩
      obtain ⟨ox, om', of', eo⟩ := trF.o
      exact refd0 (L := LT 5 []) rfl (lokT5 T c0) lL rfl fun H' s' Q' E' kk => ⟨op, rfl, ⟨_, _, _, s' _ _ (up eo)⟩, fun H2 s2 => kk none H2 (.inl rfl) s2⟩
    rintro σ8 G8 ⟨rfl, k8, T8⟩
    have tr8 := tr7.nt (nt_of T7 k8)
    walk_at "rd"
    have eA : Str.ofString "a" = S [97] := by decide +kernel
    have eW : Str.ofString "words" = Str.ofString "words" := rfl
    refine ⟨_, _, tr8.l.h1, lkn_take _ _ _, [97], eA, 500, rfl, by decide, by decide, ?_⟩
    rw [fl1]
    refine ⟨lp, ld, lm, ldm, lf, rp, dr, usualR, [], List.replicate 500 97, rfl, tr8.l, by decide, by rw [List.length_replicate]; decide, by decide +kernel, fun l F1 hl el S1 k1 p1 h1 => ?_⟩
    have r0 : ((runZ usualR rp []).1.run usualR (List.replicate 500 97)).2 = [] := by kernel_rfl
    rw [r0] at el
    have s1' := same_new (o := HO.lst []) h1
    have e1 : upd F1 p1 (HO.lst []) p1 = some _ := upd_same
    have S1' := S1.same s1'
    obtain ⟨fx, ef, _⟩ := tr8.l.h3
    have TF1 : TabS F1 a.p__law_texts_right qT := tabs_of T8 fun b o e kd => k1 _ _ e (fun z => by rw [z, tr8.l.h2] at e; cases e; exact kind_ins kd) (fun z => by rw [z, ef] at e; cases e; exact kind_lst kd)
    have TF2 := TF1.ext s1'
    have kH8 : Kp a.p__law_texts_right H G8 := (((((s1.trans (s3.trans s4)).kp _).trans k5).trans k6).trans k7).trans k8
    have kH2 : Kp a.p__law_texts_right H (upd F1 p1 (HO.lst [])) := fun b o e nb => by
      have g := s1 _ _ e
      exact s1' _ _ (k1 _ _ (kH8 _ _ e nb) (ne_of_none g n4) (ne_of_none g n5))
    generalize upd F1 p1 (HO.lst []) = F2 at *
    have tn : tame (wsD []) = true := by decide
    refine ⟨wsD [], dp_ws (ws := []) (.inl (.inl (s1' _ _ el))), wsD [], dp_ws (ws := []) (.inl (.inl e1)), shaped_of tn (by decide), shaped_of tn (by decide), ?_⟩
    rw [eqv_dec (p := True) tn tn (by simp)]
    refine ite2 (fun _ => ?_) (fun z => by simp at z)
    refine ⟨_, _, S1'.h1, lkn_end _ _ _, lp, ld, lm, ldm, lf, rp, dr, usualR, _, rfl, S1', by rw [List.nil_append, List.length_replicate]; decide, fun q1 F3 hq1 an hp1 k3 => ?_⟩
    rw [List.nil_append] at an
    have rd : told3 (readAll usualR (List.replicate 500 97) rp) = .ok ([List.replicate 500 97], [(0, 500)]) := by kernel_rfl
    rw [rd] at an
    obtain ⟨d1, w1, w2, ys, a1, a2, a3, a4, fw1, fw2, _⟩ := an
    refine ⟨q1, rfl, _, _, _, a1, T.c_Words.cl, T.n_Words_words, _, lk_WFwE _ _, [97], eA, 500, rfl, by decide, by decide, fun p2 h2 => ?_⟩
    rw [fl1]
    have s3' := same_new (o := HO.lst [V.str (S (List.replicate 500 97))]) h2
    have o8 : ∀ t ∈ [List.replicate 500 97], ok8 t := fun t ht => by
      rw [List.mem_singleton.mp ht]
      exact fun c hc => by rw [(List.mem_replicate.mp hc).2]; decide
    have tm : tame (wsD [List.replicate 500 97]) = true := wsD_tame o8
    have dd : (wsD [List.replicate 500 97]).depth ≤ 32 := by
      have := wsD_depth [List.replicate 500 97]
      omega
    refine ⟨wsD [List.replicate 500 97], dp_ws (.inl (.inl (s3' _ _ a2))), wsD [List.replicate 500 97], dp_ws (.inl (.inl upd_same)), shaped_of tm dd, shaped_of tm dd, ?_⟩
    rw [eqv_dec (p := True) tm tm (by simp)]
    refine q _ (fun b o e nb => s3' _ _ (k3 _ _ (kH2 _ _ e nb) ?_ ?_)) (TabS.ext (tabs_of TF2 fun b o e kd => k3 _ _ e (fun z => by rw [z, S1'.h1] at e; cases e; exact kind_ins kd) (fun z => by rw [z, S1'.h2] at e; cases e; exact kind_ins kd)) s3')
    · exact ne_of_none (s1 _ _ e) n1
    · exact ne_of_none (s1 _ _ e) n4
end
end Qw

set_option Elab.async false
set_option linter.all false
set_option maxRecDepth 100000
set_option maxHeartbeats 4000000
namespace Qw
open PySem L2 LamX NdefX PySem.Spec PyProof.Rows
local macro_rules | `(tactic| walk_at "rd") => `(tactic| simp only [iEnum, iRng3, tRevL, rSlS, rSlL, gSub, rSetL, wipe, List.map_cons, List.map_nil, rAll, rAny, rIsi, tM1, tM0, iZipLT, iZip, iRng2, tLenSetS, rListStr, rMulS, rRep, rCntB, tRevS, rNeD, rEqD, tSeq, tNext, tAsg, tRet, tRetN, tDrop, tIfS, sFld, sFldAug, tVar, tC, tOp, tUn, tTest, tB, tAnd, tOr, tNot, tAndV, tOrV, tNotV, tIf, tTup, tLst, tCons, tNil, tCB, tCall, tMeth, tMake, tFld, rI, rI0, rU, rEq, rNe, rCat, gName, gTup, gCons, gNil, tPar, tPar3, tBM, tBM0, rAppend, rExtend, rPopAt, rIxL, rIxT, rIxS, tSl, rSlS, rSlL, tPart, tNoPart, iStr, iTup, iList, iRng1, tAug, ipI, L2.rAdd, L2.rSub, L2.rAddS, tChain, rIsB, rNotB, scal_ss, scal_ii, scal_bb, scal_nn, scal_in, scal_ni, tYes,
  cx_K, cx_N, List.getElem?_cons_zero, List.getElem?_cons_succ, List.set_cons_zero, List.set_cons_succ, List.nil_append, List.cons_append, List.append_nil, List.length_cons, List.length_nil, Nat.zero_add,
  Option.some.injEq, V.ref.injEq, V.int.injEq, V.str.injEq, V.bl.injEq, HO.ins.injEq, HO.lst.injEq, HO.tup.injEq, List.cons.injEq, exists_eq_left, exists_eq_left', exists_eq_right, exists_eq_right', and_true, true_and, exists_and_left, exists_and_right, and_assoc, decide_eq_true_eq, Bool.not_eq_true', decide_eq_false_iff_not, reduceCtorEq, exists_const, forall_const, if_true, if_false, false_and, and_false, ite_true, ite_false, Bool.true_eq_false, Bool.false_eq_true, Nat.reduceLeDiff, Nat.reduceAdd, small_line, small_lt, upd_ne, ne_eq, not_false_eq_true, Nat.zero_le, Prod.mk.injEq, upd_same, upd_upd, S_tl, S_len, S_app, S_one, S_inj,
  lk_breaks, lk_hard, lk_soft, lk_bend, lk_note, lk_rules, lk_state, lk_bent, lk_word, lk_begun, lk_opened, lk_place, pt_state, pt_bent, pt_word, pt_wordS, pt_wordN, pt_begun, pt_opened, pt_place, pt_place1, len_mf, litv_empty, litv_note, litv_nl, mf_inj, rf_inj, lkn_begin, lkn_ended, lkn_plain, lkn_quoted, lkn_step, lkn_fault, lkn_key, lkn_told, lkn_quotes, lkn_special, pt_open1, not_true_eq_false, not_false_eq_true])
local macro_rules | `(tactic| walk_at "rdh") => `(tactic| simp only [iEnum, iRng3, tRevL, rSlS, rSlL, gSub, rSetL, wipe, List.map_cons, List.map_nil, rAll, rAny, rIsi, tM1, tM0, iZipLT, iZip, iRng2, tLenSetS, rListStr, rMulS, rRep, rCntB, tRevS, rNeD, rEqD, tSeq, tNext, tAsg, tRet, tRetN, tDrop, tIfS, sFld, sFldAug, tVar, tC, tOp, tUn, tTest, tB, tAnd, tOr, tNot, tAndV, tOrV, tNotV, tIf, tTup, tLst, tCons, tNil, tCB, tCall, tMeth, tMake, tFld, rI, rI0, rU, rEq, rNe, rCat, gName, gTup, gCons, gNil, tPar, tPar3, tBM, tBM0, rAppend, rExtend, rPopAt, rIxL, rIxT, rIxS, tSl, rSlS, rSlL, tPart, tNoPart, iStr, iTup, iList, iRng1, tAug, ipI, L2.rAdd, L2.rSub, L2.rAddS, tChain, rIsB, rNotB, scal_ss, scal_ii, scal_bb, scal_nn, scal_in, scal_ni, tYes,
  cx_K, cx_N, List.getElem?_cons_zero, List.getElem?_cons_succ, List.set_cons_zero, List.set_cons_succ, List.nil_append, List.cons_append, List.append_nil, List.length_cons, List.length_nil, Nat.zero_add,
  Option.some.injEq, V.ref.injEq, V.int.injEq, V.str.injEq, V.bl.injEq, HO.ins.injEq, HO.lst.injEq, HO.tup.injEq, List.cons.injEq, exists_eq_left, exists_eq_left', exists_eq_right, exists_eq_right', and_true, true_and, exists_and_left, exists_and_right, and_assoc, decide_eq_true_eq, Bool.not_eq_true', decide_eq_false_iff_not, reduceCtorEq, exists_const, forall_const, if_true, if_false, false_and, and_false, ite_true, ite_false, Bool.true_eq_false, Bool.false_eq_true, Nat.reduceLeDiff, Nat.reduceAdd, small_line, small_lt, upd_ne, ne_eq, not_false_eq_true, Nat.zero_le, Prod.mk.injEq, upd_same, upd_upd, S_tl, S_len, S_app, S_one, S_inj,
  lk_breaks, lk_hard, lk_soft, lk_bend, lk_note, lk_rules, lk_state, lk_bent, lk_word, lk_begun, lk_opened, lk_place, pt_state, pt_bent, pt_word, pt_wordS, pt_wordN, pt_begun, pt_opened, pt_place, pt_place1, len_mf, litv_empty, litv_note, litv_nl, mf_inj, rf_inj, lkn_begin, lkn_ended, lkn_plain, lkn_quoted, lkn_step, lkn_fault, lkn_key, lkn_told, lkn_quotes, lkn_special, pt_open1, not_true_eq_false, not_false_eq_true, *])
local macro_rules | `(tactic| walk_at "pl") => `(tactic| (first | decide | (refine Nat.lt_of_le_of_lt (length_putF _ _ _) ?_; repeat (first | decide | refine pl2 ?_))))
local macro_rules | `(tactic| walk_at "al") => `(tactic| (intro p hp; generalize hH : upd _ p _ = H1; obtain ⟨S, e⟩ := gen_new hH hp; clear hH))
/-! ### no words, words that can't be written -/
abbrev lamsW : List Expr := (defBody st__law_words_right).flatMap (lamsS 12)
abbrev lamW (i : Nat) : Expr := lamsW.getD i (.Constant .none 0 ⟨0, 0, 0, 0⟩)
def qW : Str := "_law_words_right.<locals>.<lambda>"
def LW (i : Nat) (cl : List (Str × Addr)) (c' : Addr) : LF := ⟨qW, lamA (lamW i), lamB (lamW i), lamS (lamW i), cl, c'⟩
--@L _law_words_right _law_all ysW hyW
theorem pe_bmK {X : Cx} {K : PySem.W.Frag} {T : String} {name : Str} {id : String} {r : V → List V → Hp → VK → Prop} {o e : Expr} {es : List Expr} {to : TE} {t : TA} {apos cpos : Pos} (h : X.K = K) (pa : PlainAttrs T) (slot : Slot T name id) (hty : typeOf (.builtin id) = pure (.type "method_descriptor")) (hm : MtR X id r) (ho : PE X o to) (ha : PA X (e :: es) t)
    (h1 : attributeBase o name X.env (eval o X.env) = eval o X.env)
    (h2 : ((backTo cpos (starEach (e :: es) X.env)).all (fun x => !x.1) && (backToKw cpos (keywordEach [] X.env)).all (fun x => x.1.isSome) && decide ((e :: es).length + ([] : List Keyword).length + (if ([] : List Keyword).isEmpty then 0 else 1) < 30)) = true)
    (h3 : (apos.endLine == cpos.line) = true) (h4 : starEach (e :: es) X.env = (false, eval e X.env) :: starEach es X.env) (h5 : (backTo cpos (starEach es X.env)).any (·.1) = false) : PE X (.Call (.Attribute o name apos) (e :: es) [] cpos) (tBM K T r to t) := by
  subst h
  exact pe_bm pa slot hty hm ho ha h1 h2 h3 h4 h5
section
variable {P : Program} {w : World} {K : PySem.W.Frag} {mg : Str → Option Value} {base : Heap} {a : Ad}
theorem sub_self (T : Txt K mg a) : PySem.W.subIn K (.ref a.c_NoWriting) (.ref a.c_NoWriting) = some true := by
  obtain ⟨nm, q, N, bs, bm, sn, sub, ab, col, dd, k0, k1, k2, k3, k5, e, _⟩ := T.xc_NoWriting
  show PySem.W.mroIn K _ _ = _
  unfold PySem.W.mroIn PySem.W.clsIn
  rw [e]
  simp [excClassObj]
def sp_lamW0 (K : PySem.W.Frag) (a : Ad) : Sp := fun vs H Q E => ∃ v, vs = [v] ∧ BadW K H v ∧ ∀ H', Same H H' → E (.ref a.c_BadWords) none H'
def sp_lamW1 (a : Ad) (rp : Addr) : Sp := fun vs H Q E => ∃ (dr : Addr) (r : RS) (l : Addr) (ws : List Tx) (n : Nat), vs = [.ref l] ∧ H rp = some (.ins a.c_Rules dr (RS.f r)) ∧ r.Ok ∧ H l = some (.lst (ws.map fun w => .str (S w))) ∧ ws.length ≤ 8 ∧ (∀ w ∈ ws, w.all sgn = true ∧ w.length ≤ 12) ∧
  n < ws.length ∧ (∀ m w, ws[m]? = some w → m ≤ n → cannotT r w = decide (m = n)) ∧ ∀ H' d, Same H H' → H' d = some (.xd [("at", .int (n : Nat))]) → E (.ref a.c_NoWriting) (some d) H'
theorem lokW0 (T : Txt K mg a) (cl : List (Str × Addr)) (c' rp : Addr) : LOk P w K mg base (L2.CX P w) 8 (LW 0 cl c') ["_law_a"] ["_law_rules"] [some (.ref rp)] (sp_lamW0 K a) := by
  have G := ok_shortestB (P := P) (w := w) (base := base) T
  have B := bi_shortest T
  refine lok_of (N := ["_law_a", "_law_rules"]) (show NScope _ _ _ (lamS (lamW 0)) from nscope_by (by decide +kernel)) (fun pm ctv us hl => match us, hl with | [_], _ => rfl) (fun vs H Q E h => ?_) (fun f A outer s H vs Q E hr h => ?_)
  · obtain ⟨v, rfl, _⟩ := h
    rfl
  · obtain ⟨v, rfl, h1, k⟩ := h
    refine ⟨_, (pe_call G (hr.mono (by decide)) rfl T.f_shortest.g T.f_shortest.k B .nil (passes_call (takes_of rfl rfl rfl rfl) fun _ _ _ _ z => z) (pa_cons (pv 1) (pa_cons (pv 0) pa_nil))), ?_⟩
    rw [show startF ["_law_a", "_law_rules"] [v] [some (.ref rp)] = [some v, some (.ref rp)] from rfl]
    walk_at "rd"
    exact ⟨_, _, rfl, h1, k⟩
theorem cloW0 (cells : List (Str × Addr)) : cloFrom cells (lamS (lamW 0)).names [] = [(("_law_rules" : Str), (cells.lookup ("_law_rules" : Str)).getD 0)] := by kernel_rfl
theorem lokW1 (T : Txt K mg a) (cl : List (Str × Addr)) (c' rp : Addr) : LOk P w K mg base (L2.CX P w) 8 (LW 1 cl c') ["_law_a"] ["_law_bare"] [some (.ref rp)] (sp_lamW1 a rp) := by
  have G := ok_shortestX (P := P) (w := w) (base := base) T
  have B := bi_shortest T
  refine lok_of (N := ["_law_a", "_law_bare"]) (show NScope _ _ _ (lamS (lamW 1)) from nscope_by (by decide +kernel)) (fun pm ctv us hl => match us, hl with | [_], _ => rfl) (fun vs H Q E h => ?_) (fun f A outer s H vs Q E hr h => ?_)
  · obtain ⟨dr, r, l, ws, m, rfl, _⟩ := h
    rfl
  · obtain ⟨dr, r, l, ws, m, rfl, hR, ok, hl, hn, hw, nl, hc, k⟩ := h
    refine ⟨_, (pe_call G (hr.mono (by decide)) rfl T.f_shortest.g T.f_shortest.k B .nil (passes_call (takes_of rfl rfl rfl rfl) fun _ _ _ _ z => z) (pa_cons (pv 1) (pa_cons (pv 0) pa_nil))), ?_⟩
    rw [show startF ["_law_a", "_law_bare"] [(V.ref l)] [some (.ref rp)] = [some (V.ref l), some (.ref rp)] from rfl]
    walk_at "rd"
    exact ⟨rp, dr, r, l, ws, m, rfl, hR, ok, hl, hn, hw, nl, hc, k⟩
theorem cloW1 (cells : List (Str × Addr)) : cloFrom cells (lamS (lamW 1)).names [] = [(("_law_bare" : Str), (cells.lookup ("_law_bare" : Str)).getD 0)] := by kernel_rfl
theorem lokW2 (T : Txt K mg a) (cl : List (Str × Addr)) (c' rp : Addr) : LOk P w K mg base (L2.CX P w) 8 (LW 2 cl c') ["_law_a"] ["_law_one"] [some (.ref rp)] (sp_lamW1 a rp) := by
  have G := ok_shortestX (P := P) (w := w) (base := base) T
  have B := bi_shortest T
  refine lok_of (N := ["_law_a", "_law_one"]) (show NScope _ _ _ (lamS (lamW 2)) from nscope_by (by decide +kernel)) (fun pm ctv us hl => match us, hl with | [_], _ => rfl) (fun vs H Q E h => ?_) (fun f A outer s H vs Q E hr h => ?_)
  · obtain ⟨dr, r, l, ws, m, rfl, _⟩ := h
    rfl
  · obtain ⟨dr, r, l, ws, m, rfl, hR, ok, hl, hn, hw, nl, hc, k⟩ := h
    refine ⟨_, (pe_call G (hr.mono (by decide)) rfl T.f_shortest.g T.f_shortest.k B .nil (passes_call (takes_of rfl rfl rfl rfl) fun _ _ _ _ z => z) (pa_cons (pv 1) (pa_cons (pv 0) pa_nil))), ?_⟩
    rw [show startF ["_law_a", "_law_one"] [(V.ref l)] [some (.ref rp)] = [some (V.ref l), some (.ref rp)] from rfl]
    walk_at "rd"
    exact ⟨rp, dr, r, l, ws, m, rfl, hR, ok, hl, hn, hw, nl, hc, k⟩
theorem cloW2 (cells : List (Str × Addr)) : cloFrom cells (lamS (lamW 2)).names [] = [(("_law_one" : Str), (cells.lookup ("_law_one" : Str)).getD 0)] := by kernel_rfl
theorem partB_nt {H H' : Hp} {v : V} {m : Int} {b : Bool} (h : PartB K H v m b) (s : NTab H H') : PartB K H' v m b := h.imp (fun ⟨a, b⟩ => ⟨bad_nt a s, b⟩) id
theorem badw_nt {H H' : Hp} {v : V} (h : BadW K H v) (s : NTab H H') : BadW K H' v :=
  h.imp (fun ⟨t, a, b⟩ => ⟨t, tyx_nt a s, b⟩) fun ⟨l, xs, e, h, q⟩ => ⟨l, xs, e, s _ _ h (fun _ z => by cases z), q.imp id fun ⟨n, zs, a, b, c⟩ => ⟨n, zs, a, fun z hz => partB_nt (b z hz) s, c⟩⟩
theorem badw_ty {H : Hp} {v : V} {b : String} (t : TyX K H v (.type b)) (h : PySem.W.kitOne K (.type b) (.type "list") = some false) : BadW K H v := .inl ⟨_, t, h⟩
theorem badw_long {H : Hp} {l : Addr} {xs : List V} (h : H l = some (.lst xs)) (n : 8 < xs.length) : BadW K H (.ref l) := .inr ⟨l, xs, rfl, h, .inl n⟩
theorem badw_in {H : Hp} {l : Addr} {i j : Nat} {v : V} (h : H l = some (.lst (List.replicate i (.str (S [97])) ++ [v] ++ List.replicate j (.str (S [97]))))) (n : i + j ≤ 7) (b : PartB K H v 12 false) : BadW K H (.ref l) := by
  have pa : PartB K H (.str (S [97])) 12 true := .inr ⟨[97], rfl, by decide, by decide, by decide⟩
  refine .inr ⟨l, _, rfl, h, .inr ⟨?_, List.replicate i (.str (S [97]), true) ++ [(v, false)] ++ List.replicate j (.str (S [97]), true), ?_, fun z hz => ?_, ?_⟩⟩
  · simp only [List.length_append, List.length_replicate, List.length_cons, List.length_nil]; omega
  · simp only [List.map_append, List.map_replicate, List.map_cons, List.map_nil]
  · rcases List.mem_append.mp hz with hz | hz
    · rcases List.mem_append.mp hz with hz | hz
      · rw [(List.mem_replicate.mp hz).2]; exact pa
      · rw [List.mem_singleton.mp hz]; exact b
    · rw [(List.mem_replicate.mp hz).2]; exact pa
  · simp
theorem flr (n : Nat) (v : V) : (List.replicate n [v]).flatten = List.replicate n v := by simp
def bareR : RS := ⟨[32], [], [], [], [35]⟩
theorem bareR_ok : bareR.Ok := ⟨by decide, by decide, by decide, by decide, by decide, by decide, by decide, by decide⟩
def oneR : RS := ⟨[32], [39], [], [], []⟩
theorem oneR_ok : oneR.Ok := ⟨by decide, by decide, by decide, by decide, by decide, by decide, by decide, by decide⟩
def okW (r : RS) (ws : List Tx) (n : Nat) : Bool := decide (ws.length ≤ 8) && ws.all (fun w => w.all sgn && decide (w.length ≤ 12)) && decide (n < ws.length) && (List.range (n + 1)).all (fun j => cannotT r (ws.getD j []) == decide (j = n))
theorem okW_of {r : RS} {ws : List Tx} {n : Nat} (h : okW r ws n = true) : ws.length ≤ 8 ∧ (∀ w ∈ ws, w.all sgn = true ∧ w.length ≤ 12) ∧ n < ws.length ∧ ∀ m w, ws[m]? = some w → m ≤ n → cannotT r w = decide (m = n) := by
  simp only [okW, Bool.and_eq_true, decide_eq_true_eq, List.all_eq_true] at h
  obtain ⟨⟨⟨h1, h2⟩, h3⟩, h4⟩ := h
  refine ⟨h1, fun w hw => ⟨List.all_eq_true.mpr (h2 w hw).1, (h2 w hw).2⟩, h3, fun m w hw hm => ?_⟩
  have := h4 m (List.mem_range.mpr (by omega))
  rw [List.getD_eq_getElem?_getD, hw] at this
  simpa using this
def wsM (m : Nat) (bad : Tx) : List Tx := List.replicate m [97] ++ [bad] ++ List.replicate (7 - m) bad
def r4 : RS := ⟨[10], [], [], [], []⟩
theorem r4_ok : r4.Ok := ⟨by decide, by decide, by decide, by decide, by decide, by decide, by decide, by decide⟩
theorem wsM_all : (List.range 8).all (fun m => okW bareR (wsM m []) m && okW bareR (wsM m [120, 35]) m && okW oneR (wsM m [39, 32]) m && okW r4 (wsM m [97, 10]) m) = true := by decide +kernel
theorem wsM_ok {m : Nat} (h : m < 8) : ((okW bareR (wsM m []) m = true ∧ okW bareR (wsM m [120, 35]) m = true) ∧ okW oneR (wsM m [39, 32]) m = true) ∧ okW r4 (wsM m [97, 10]) m = true := by
  have := List.all_eq_true.mp wsM_all m (List.mem_range.mpr h)
  simpa only [Bool.and_eq_true] using this
/-- rules and a word that they can't write -/
def Fou (a : Ad) (m : Nat) (H : Hp) (v : V) : Prop := ∃ t p dr r bad, v = .ref t ∧ H t = some (.tup [.ref p, .str (S bad)]) ∧ H p = some (.ins a.c_Rules dr (RS.f r)) ∧ r.Ok ∧ okW r (wsM m bad) m = true
def tShoW (K : PySem.W.Frag) (a : Ad) : TS := fun D σ H => tDrop (tCallS (sp_shortestX a) (WE (wAs K (.ref a.c_NoWriting) 5 (fun b cls d => tDrop (tBM K "list" rAppend (tVar 4) (tCons (tXf b cls d a.c_NoWriting (Str.ofString "at") (tVar 5)) tNil))) (fun _ _ _ _ => False) D)) (tCons (tVar 8) (tCons (tOp rCat (tOp rCat (tOp rRep (tLst (tCons (tC (V.str (Str.ofString "a"))) tNil)) (tVar 1)) (tLst (tCons (tVar 3) tNil))) (tOp rRep (tLst (tCons (tVar 3) tNil)) (tOp (rI0 fun i j => V.int (i - j)) (tC (V.int 7)) (tVar 1)))) tNil))) D σ H
def ysW : List (Str × Nat) := [("_law_rules", 8), ("_law_bare", 6), ("_law_one", 7)]
def sp_words_right (a : Ad) : Sp := fun vs H Q _ => ∃ n : Nat, vs = [.int n] ∧ TabS H a.p__law_words_right qW ∧ ∀ H', Kp a.p__law_words_right H H' → TabS H' a.p__law_words_right qW → Q (.bl true) H'
theorem ok_words_right (T : Txt K mg a) (TB : TabB base mg a.k__law_words_right a.p__law_words_right) : FnG P w K mg base 11 a.f__law_words_right a.d__law_words_right P__law_words_right (sp_words_right a) := by
  refine fnG_ofC T.K__law_words_right sc__law_words_right (fun vs H Q E h => ?_) (fun A outer s H vs Q E hfr hr h => ?_)
  · obtain ⟨n, rfl, _⟩ := h
    rfl
  · obtain ⟨n, rfl, hT, q⟩ := h
    have G__law_all := ok_all (P := P) (w := w) (base := base) T
    have B__law_all := bi__law_all T
    have G_Rules_init := ok_Rules_init (P := P) (w := w) (base := base) T
    have B_Rules_init := bi_Rules_init T
    obtain ⟨Ds_Rules_init0, D_Rules_init0, B_Rules_init0⟩ := bi_Rules_init0 T
    have G_shortest := ok_shortestX (P := P) (w := w) (base := base) T
    have B_shortest := bi_shortest T
    have hyW : ∀ y ∈ ysW, (cxOf CX0 P w K mg base N__law_words_right "_law_words_right" (defScope st__law_words_right) a.f__law_words_right (.ref a.k__law_words_right) A outer s H E).nox.N[y.2]? = some y.1 ∧ (cxOf CX0 P w K mg base N__law_words_right "_law_words_right" (defScope st__law_words_right) a.f__law_words_right (.ref a.k__law_words_right) A outer s H E).nox.env.scope.names.lookup y.1 = some .cell ∧ (cxOf CX0 P w K mg base N__law_words_right "_law_words_right" (defScope st__law_words_right) a.f__law_words_right (.ref a.k__law_words_right) A outer s H E).nox.fn y.1 = true := fun y hy => by
      simp only [ysW, List.mem_cons, List.not_mem_nil, or_false] at hy
      rcases hy with rfl | rfl | rfl <;> exact ⟨rfl, by kernel_rfl, rfl⟩
    refine ⟨_,
(pss_cons (ps_asg (pe_tup (pa_cons (pe_make0 T.c_Rules.mc G_Rules_init (hr.mono (by decide)) rfl T.c_Rules.g B_Rules_init0 D_Rules_init0 pass0) (pa_cons (pe_op op_mod (pv 0) pe_int) pa_nil))) (pg_tup rfl (pgs_cons (pg_name (i := 8) sc__law_words_right.nd rfl (by first | exact Or.inl rfl | exact Or.inr rfl)) (pgs_cons (pg_name (i := 1) sc__law_words_right.nd rfl (by first | exact Or.inl rfl | exact Or.inr rfl)) pgs_nil))))
    (pss_cons (ps_set (i := 2) sc__law_words_right.nd rfl (by first | exact Or.inl rfl | exact Or.inr rfl) (pe_lst (pa_cons pe_non (pa_cons pe_int (pa_cons pe_str (pa_cons (pe_tup (pa_cons pe_str pa_nil)) (pa_cons pe_dnewK (pa_cons pe_bl (pa_cons (pe_op op_rep (pe_lst (pa_cons pe_str pa_nil)) pe_int) (pa_cons (pe_op op_rep (pe_lst (pa_cons pe_str pa_nil)) (pe_op op_add pe_int (pe_op op_mod (pv 0) pe_int))) (pa_cons (pe_lst (pa_cons (pe_op op_mul_str pe_str pe_int) pa_nil)) (pa_cons (pe_op op_rep (pe_lst (pa_cons pe_str pa_nil)) pe_int) pa_nil))))))))))))
    (pss_cons (ps_for PassesOwn.never rfl (pi_tup (pe_tup (pa_cons pe_non (pa_cons pe_int (pa_cons pe_str (pa_cons (pe_op op_mul_str pe_str pe_int) (pa_cons (pe_lst (pa_cons pe_str pa_nil)) (pa_cons (pe_tup (pa_cons pe_str pa_nil)) (pa_cons pe_bl (pa_cons pe_str pa_nil)))))))))) (pg_name (i := 3) sc__law_words_right.nd rfl (by first | exact Or.inl rfl | exact Or.inr rfl))
    (pss_one (ps_set (i := 2) sc__law_words_right.nd rfl (by first | exact Or.inl rfl | exact Or.inr rfl) (pe_op op_cat (pv 2) (pe_lst (pa_cons (pe_lst (pa_cons (pv 3) pa_nil)) (pa_cons (pe_op op_cat (pe_op op_cat (pe_op op_rep (pe_lst (pa_cons pe_str pa_nil)) (pv 1)) (pe_lst (pa_cons (pv 3) pa_nil))) (pe_op op_rep (pe_lst (pa_cons pe_str pa_nil)) (pe_op op_sub pe_int (pv 1)))) pa_nil)))))))
    (pss_cons (ps_if (pt_not (pt_val (pe_callLend (ys := ysW) (FnOk.toG G__law_all) hfr (hr.mono (by decide)) rfl T.f__law_all.g T.f__law_all.k B__law_all hyW (pa_cons (pe_lst (pa_cons (pe_lamP (q := qW) TB rfl (by kernel_rfl) rfl (show ∀ y ∈ (lamS (lamW 0)).names, y.2 = .free → (defScope st__law_words_right).names.lookup y.1 = some .cell ∨ (defScope st__law_words_right).names.lookup y.1 = some .free from by decide +kernel)) pa_nil)) (pa_cons (pv 2) (pa_cons pe_int pa_nil)))))) (pss_one (ps_ret pe_bl)) pss_nil)
    (pss_cons (ps_asg (pe_tup (pa_cons (pe_make T.c_Rules.mc G_Rules_init (hr.mono (by decide)) rfl T.c_Rules.g B_Rules_init .nil pass0 (pa_cons pe_str (pa_cons pe_str (pa_cons pe_str (pa_cons pe_str (pa_cons pe_str pa_nil)))))) (pa_cons (pe_make T.c_Rules.mc G_Rules_init (hr.mono (by decide)) rfl T.c_Rules.g B_Rules_init .nil pass0 (pa_cons pe_str (pa_cons pe_str (pa_cons pe_str (pa_cons pe_str (pa_cons pe_str pa_nil)))))) pa_nil))) (pg_tup rfl (pgs_cons (pg_name (i := 6) sc__law_words_right.nd rfl (by first | exact Or.inl rfl | exact Or.inr rfl)) (pgs_cons (pg_name (i := 7) sc__law_words_right.nd rfl (by first | exact Or.inl rfl | exact Or.inr rfl)) pgs_nil))))
    (pss_cons (ps_if (pt_not (pt_val (pe_callLend (ys := ysW) (FnOk.toG G__law_all) hfr (hr.mono (by decide)) rfl T.f__law_all.g T.f__law_all.k B__law_all hyW (pa_cons (pe_lst (pa_cons (pe_lamP (q := qW) TB rfl (by kernel_rfl) rfl (show ∀ y ∈ (lamS (lamW 1)).names, y.2 = .free → (defScope st__law_words_right).names.lookup y.1 = some .cell ∨ (defScope st__law_words_right).names.lookup y.1 = some .free from by decide +kernel)) pa_nil)) (pa_cons (pe_lst (pa_cons (pe_lst (pa_cons pe_str pa_nil)) (pa_cons (pe_lst (pa_cons pe_str pa_nil)) (pa_cons (pe_lst (pa_cons pe_str pa_nil)) (pa_cons (pe_lst (pa_cons pe_str (pa_cons pe_str pa_nil))) pa_nil))))) (pa_cons pe_int pa_nil)))))) (pss_one (ps_ret pe_bl)) pss_nil)
    (pss_cons (ps_if (pt_not (pt_val (pe_callLend (ys := ysW) (FnOk.toG G__law_all) hfr (hr.mono (by decide)) rfl T.f__law_all.g T.f__law_all.k B__law_all hyW (pa_cons (pe_lst (pa_cons (pe_lamP (q := qW) TB rfl (by kernel_rfl) rfl (show ∀ y ∈ (lamS (lamW 2)).names, y.2 = .free → (defScope st__law_words_right).names.lookup y.1 = some .cell ∨ (defScope st__law_words_right).names.lookup y.1 = some .free from by decide +kernel)) pa_nil)) (pa_cons (pe_lst (pa_cons (pe_lst (pa_cons pe_str pa_nil)) (pa_cons (pe_lst (pa_cons pe_str pa_nil)) pa_nil))) (pa_cons pe_int pa_nil)))))) (pss_one (ps_ret pe_bl)) pss_nil)
    (pss_cons (ps_set (i := 4) sc__law_words_right.nd rfl (by first | exact Or.inl rfl | exact Or.inr rfl) (pe_lst pa_nil))
    (pss_cons (ps_for PassesOwn.never rfl (pi_tup (pe_tup (pa_cons (pe_tup (pa_cons (pv 6) (pa_cons pe_str pa_nil))) (pa_cons (pe_tup (pa_cons (pv 6) (pa_cons pe_str pa_nil))) (pa_cons (pe_tup (pa_cons (pv 7) (pa_cons pe_str pa_nil))) (pa_cons (pe_tup (pa_cons (pe_make T.c_Rules.mc G_Rules_init (hr.mono (by decide)) rfl T.c_Rules.g B_Rules_init .nil pass0 (pa_cons pe_str (pa_cons pe_str (pa_cons pe_str (pa_cons pe_str (pa_cons pe_str pa_nil)))))) (pa_cons pe_str pa_nil))) pa_nil)))))) (pg_tup rfl (pgs_cons (pg_name (i := 8) sc__law_words_right.nd rfl (by first | exact Or.inl rfl | exact Or.inr rfl)) (pgs_cons (pg_name (i := 3) sc__law_words_right.nd rfl (by first | exact Or.inl rfl | exact Or.inr rfl)) pgs_nil)))
    (pss_one (ps_try_as (i := 5) (Wout := fun _ _ _ _ => False) rfl rfl sc__law_words_right.nd rfl rfl ⟨rfl, by decide, Or.inl T.eg_NoWriting.g⟩ L2.takes0 (fun W pn xe tk _ => pss_one (ps_expr (by exact (pe_callS G_shortest (hr.mono (by decide)) rfl T.f_shortest.g T.f_shortest.k B_shortest (fun σ => passAt tk σ) (by exact (pa_cons (pv 8) (pa_cons (pe_op op_cat (pe_op op_cat (pe_op op_rep (pe_lst (pa_cons pe_str pa_nil)) (pv 1)) (pe_lst (pa_cons (pv 3) pa_nil))) (pe_op op_rep (pe_lst (pa_cons (pv 3) pa_nil)) (pe_op op_sub pe_int (pv 1)))) pa_nil))))))) (fun b oe cls d pn hz hf => pss_one (ps_expr (by exact (pe_bmK (K := K) rfl PySem.F.plainAttrs_list PySem.F.slot_list_append PySem.F.type_list_append mt_append (pv 4) (pa_cons (pe_xf (err_NW T).xf T.at_NoWriting hz hf (pv 5)) pa_nil) rfl rfl rfl rfl rfl)))))))
    (pss_one (ps_ret (pe_cmpR (op_eqD hr.units) (pv 4) (pe_op op_rep (pe_lst (pa_cons (pv 1) pa_nil)) pe_int) (nomark _)))))))))))))
      , ?_⟩
    rw [show start N__law_words_right [V.int n] = [some (.int n), none, none, none, none, none, none, none, none, none] from rfl]
    have eA : Str.ofString "a" = S [97] := by decide +kernel
    obtain ⟨m, hm, em⟩ : ∃ m : Nat, m < 8 ∧ (n : Int) % 8 = (m : Int) := ⟨n % 8, by omega, by omega⟩
    refine tseq_split (fun σ' G => ∃ rp dr, σ' = [some (.int n), some (.int m), none, none, none, none, none, none, some (.ref rp), none] ∧ Same H G ∧ G rp = some (.ins a.c_Rules dr (RS.f usualR))) (fun N hN => ?_) ?_
    · walk_at "rd"
      intro x dx hx hdx ne
      refine ⟨x, dx, usualR, by kernel_rfl, usualR_ok, upd_same, fun F1 f1 k1 => ⟨rfl, by decide, fun tp htp => ⟨_, .inl (.inl upd_same), rfl, _, _, rfl, _, _, rfl, rfl, ?_⟩⟩⟩
      rw [em]
      have s9 := same_new (o := HO.tup [V.ref x, V.int m]) htp
      exact hN _ _ ⟨x, dx, rfl, (made hx hdx ne k1).trans s9, s9 _ _ f1⟩
    rintro σ1 G1 ⟨rp, dr, rfl, s1, erp⟩
    have T1 := hT.ext s1
    have kI : PySem.W.kitOne K (.type "int") (.type "list") = some false := kit_ty (by decide +kernel)
    have kB : PySem.W.kitOne K (.type "bool") (.type "list") = some false := kit_ty (by decide +kernel)
    have kS : PySem.W.kitOne K (.type "str") (.type "list") = some false := kit_ty (by decide +kernel)
    have kT : PySem.W.kitOne K (.type "tuple") (.type "list") = some false := kit_ty (by decide +kernel)
    have kD : PySem.W.kitOne K (.type "dict") (.type "list") = some false := kit_ty (by decide +kernel)
    have kN : PySem.W.kitOne K (.type "NoneType") (.type "list") = some false := kit_ty (by decide +kernel)
    refine tseq_split (fun σ' G => ∃ sl xs, σ' = [some (.int n), some (.int m), some (.ref sl), none, none, none, none, none, some (.ref rp), none] ∧ Same G1 G ∧ G sl = some (.lst xs) ∧ xs.length = 10 ∧ ∀ v ∈ xs, BadW K G v) (fun N hN => ?_) ?_
    · walk_at "rd"
      have eAB : Str.ofString "ab" = S [97, 98] := by decide +kernel
      rw [eA]
      walk_at "al"
      rename_i t1 h1 F1 k1 e1
      simp only [tDNewK]
      walk_at "al"
      rename_i d1 h2 F2 k2 e2
      rw [show Int.toNat 9 = 9 from rfl, show (9 + (n : Int) % 9).toNat = 9 + n % 9 by omega, flr, flr, flr, eAB]
      walk_at "al"
      rename_i b1 h3 F3 k3 e3
      refine ⟨by omega, by omega, by decide, ?_⟩
      walk_at "al"
      rename_i b2 h4 F4 k4 e4
      walk_at "al"
      rename_i b3 h5 F5 k5 e5
      refine ⟨by decide, by omega, by omega, Nat.le_trans (show 1 * (9 + n % 9) ≤ 20 by omega) (by decide), ?_⟩
      walk_at "al"
      rename_i b4 h6 F6 k6 e6
      refine ⟨[97], rfl, 13, rfl, by decide, by decide, ?_⟩
      rw [fl1]
      walk_at "al"
      rename_i b5 h7 F7 k7 e7
      walk_at "al"
      rename_i b6 h8 F8 k8 e8
      refine ⟨by omega, by omega, by decide, ?_⟩
      walk_at "al"
      rename_i b7 h9 F9 k9 e9
      walk_at "al"
      rename_i sl h10 F10 k10 e10
      have k810 := (k8.trans k9).trans k10
      have k610 := (k6.trans k7).trans k810
      have k410 := ((k4.trans k5).trans k610)
      have k310 := k3.trans k410
      refine hN _ _ ⟨sl, _, rfl, (k1.trans k2).trans k310, e10, rfl, fun v hv => ?_⟩
      simp only [List.mem_cons, List.not_mem_nil, or_false] at hv
      rcases hv with rfl | rfl | rfl | rfl | rfl | rfl | rfl | rfl | rfl | rfl
      · exact badw_ty (.base .non) kN
      · exact badw_ty (.base (.int _)) kI
      · exact badw_ty (.base (.str _)) kS
      · exact badw_ty (.base (.tup (k310 _ _ (k2 _ _ e1)))) kT
      · exact badw_ty (.base (.dK (k310 _ _ e2))) kD
      · exact badw_ty (.base (.bl _)) kB
      · exact badw_long ((k5.trans k610) _ _ e4) (by rw [List.length_replicate]; decide)
      · exact badw_long ((k7.trans k810) _ _ e6) (by rw [List.length_replicate]; omega)
      · exact badw_in (i := 0) (j := 0) (k810 _ _ e7) (by omega) (.inr ⟨_, rfl, by decide, by decide, by decide⟩)
      · exact badw_long (k10 _ _ e9) (by rw [List.length_replicate]; decide)
    rintro σ2 G2 ⟨sl, xs, rfl, s2, esl, xl, hth⟩
    refine tseq_split (fun σ' G => ∃ sl xs v3, σ' = [some (.int n), some (.int m), some (.ref sl), v3, none, none, none, none, some (.ref rp), none] ∧ Same G2 G ∧ G sl = some (.lst xs) ∧ xs.length ≤ 26 ∧ ∀ v ∈ xs, BadW K G v) (fun N hN => ?_) ?_
    · refine tfor_all (ι := Addr × Hp × List V) (C := fun z => z.2.1 z.1 = some (.tup z.2.2) ∧ Same G2 z.2.1 ∧ z.2.2.length = 8 ∧ ∀ v ∈ z.2.2, PartB K z.2.1 v 12 false) (J := fun z => Itt K z.1) (H1 := fun z => z.2.1) (fun R hR => ?_) fun z hz => ?_
      · walk_at "rd"
        have u1 : Str.ofString "\t" = S [9] := by decide +kernel
        have u2 : Str.ofString "a\t" = S [97, 9] := by decide +kernel
        rw [eA, u1, u2]
        refine ⟨[97], rfl, 13, rfl, by decide, by decide, ?_⟩
        rw [fl1]
        walk_at "al"
        rename_i b1 h1 F1 k1 e1
        walk_at "al"
        rename_i b2 h2 F2 k2 e2
        walk_at "al"
        rename_i b3 h3 F3 k3 e3
        have k23 := k2.trans k3
        refine ⟨⟨_, .inl (.inl e3)⟩, hR (b3, F3, _) ⟨e3, k1.trans k23, rfl, fun v hv => ?_⟩⟩
        have kI' : PySem.W.kitOne K (.type "int") (.type "str") = some false := kit_ty (by decide +kernel)
        have kB' : PySem.W.kitOne K (.type "bool") (.type "str") = some false := kit_ty (by decide +kernel)
        have kL' : PySem.W.kitOne K (.type "list") (.type "str") = some false := kit_ty (by decide +kernel)
        have kT' : PySem.W.kitOne K (.type "tuple") (.type "str") = some false := kit_ty (by decide +kernel)
        have kN' : PySem.W.kitOne K (.type "NoneType") (.type "str") = some false := kit_ty (by decide +kernel)
        simp only [List.mem_cons, List.not_mem_nil, or_false] at hv
        rcases hv with rfl | rfl | rfl | rfl | rfl | rfl | rfl | rfl
        · exact .inl ⟨bad_ty (.base .non) kN', rfl⟩
        · exact .inl ⟨bad_ty (.base (.int _)) kI', rfl⟩
        · exact .inl ⟨.inr ⟨_, rfl, by decide, by decide⟩, rfl⟩
        · exact .inr ⟨_, rfl, by decide, by decide, by decide⟩
        · exact .inl ⟨bad_ty (.base (.lst (k23 _ _ e1))) kL', rfl⟩
        · exact .inl ⟨bad_ty (.base (.tup (k3 _ _ e2))) kT', rfl⟩
        · exact .inl ⟨bad_ty (.base (.bl _)) kB', rfl⟩
        · exact .inl ⟨.inr ⟨_, rfl, by decide, by decide⟩, rfl⟩
      obtain ⟨tp, F, bs⟩ := z
      obtain ⟨z1, z2, z3, z4⟩ := hz
      dsimp only at z1 z2 z3 z4
      refine for_it (n := bs.length) (G := fun H => SqT K H tp bs) walk_tup (fun i σ G => Same F G ∧ ∃ sl xs v3, σ = [some (.int n), some (.int m), some (.ref sl), v3, none, none, none, none, some (.ref rp), none] ∧ G sl = some (.lst xs) ∧ xs.length = 10 + 2 * i ∧ ∀ v ∈ xs, BadW K G v) ⟨Same.refl _, sl, xs, none, rfl, z2 _ _ esl, xl, fun v hv => (hth v hv).same z2⟩ (fun i σ G _ h => .inl (.inl (h.1 _ _ z1))) ?_ ?_
      · rintro i x σ G G' hi ⟨sG, sl, xs, v3, rfl, e, xl, hx⟩ ⟨rfl, hv⟩
        have hb := (z4 x (List.mem_of_getElem? hv)).same sG
        walk_at "rd"
        rw [eA, show ((m : Int)).toNat = m from Int.toNat_natCast m, show (7 - (m : Int)).toNat = 7 - m by omega, flr, flr]
        walk_at "al"
        rename_i b1 h1 F1 k1 e1
        walk_at "al"
        rename_i b2 h2 F2 k2 e2
        refine ⟨by omega, by omega, Nat.le_trans (show 1 * m ≤ 8 by omega) (by decide), ?_⟩
        walk_at "al"
        rename_i b3 h3 F3 k3 e3
        walk_at "al"
        rename_i b4 h4 F4 k4 e4
        refine ⟨_, k4 _ _ e3, by rw [List.length_replicate]; exact Nat.le_trans (show m + 1 ≤ 9 by omega) (by decide), ?_⟩
        walk_at "al"
        rename_i b5 h5 F5 k5 e5
        walk_at "al"
        rename_i b6 h6 F6 k6 e6
        refine ⟨by omega, by omega, Nat.le_trans (show 1 * (7 - m) ≤ 8 by omega) (by decide), ?_⟩
        walk_at "al"
        rename_i b7 h7 F7 k7 e7
        refine ⟨_, k7 _ _ (k6 _ _ e5), by rw [List.length_append, List.length_replicate, List.length_replicate]; exact Nat.le_trans (show m + 1 + (7 - m) ≤ 9 by omega) (by decide), ?_⟩
        walk_at "al"
        rename_i b8 h8 F8 k8 e8
        walk_at "al"
        rename_i b9 h9 F9 k9 e9
        have k29 := ((((((k2.trans k3).trans k4).trans k5).trans k6).trans k7).trans k8).trans k9
        have k19 := k1.trans k29
        refine ⟨_, k19 _ _ e, by rw [xl]; exact Nat.le_trans (show 10 + 2 * i + 2 ≤ 40 by omega) (by decide), ?_⟩
        walk_at "al"
        rename_i b10 h10 F10 k10 e10
        have k0 := k19.trans k10
        refine ⟨sG.trans k0, by rw [List.length_append, xl]; simp only [List.length_cons, List.length_nil]; omega, fun v hv => ?_⟩
        rcases List.mem_append.mp hv with hv | hv
        · exact (hx v hv).same k0
        · simp only [List.mem_cons, List.not_mem_nil, or_false] at hv
          rcases hv with rfl | rfl
          · exact badw_in (i := 0) (j := 0) (k10 _ _ (k29 _ _ e1)) (by omega) (hb.same k0)
          · exact badw_in (k10 _ _ (k9 _ _ e8)) (by omega) (hb.same k0)
      · rintro σ G ⟨sG, sl, xs, v3, rfl, e, xl, hx⟩
        exact hN _ _ ⟨sl, xs, v3, rfl, z2.trans sG, e, by omega, hx⟩
    rintro σ3 G3 ⟨sl, xs, v3, rfl, s3, esl, xl, hth⟩
    have s13 := s2.trans s3
    have T3 := T1.ext s13
    refine tseq_split (fun σ' G => σ' = [some (.int n), some (.int m), some (.ref sl), v3, none, none, none, none, some (.ref rp), none] ∧ Kp a.p__law_words_right G3 G ∧ TabS G a.p__law_words_right qW) (fun N hN => ?_) ?_
    · walk_at "rd"
      simp only [tCallLend]
      walk_at "rd"
      simp only [tLamP]
      refine ⟨T3, fun f0 c0 F0 k0 _ t0 _ e0 m0 => ?_⟩
      intro la hla cs LF
      have l0 : LamAt F0 (LW 0 (cloFrom (cxOf CX0 P w K mg base N__law_words_right "_law_words_right" (defScope st__law_words_right) a.f__law_words_right (.ref a.k__law_words_right) A outer s H E).nox.env.cells (lamS (lamW 0)).names [])) f0 c0 := ⟨e0, m0⟩
      have sa := same_new (o := HO.lst [V.ref f0]) hla
      have ea : upd F0 la (HO.lst [V.ref f0]) la = some (.lst ([f0].map V.ref)) := upd_same
      generalize upd F0 la (HO.lst [V.ref f0]) = F at *
      have wF := (nt_of T3 k0).trans sa.nt
      refine all_lent (i := 2) LF ea (wF _ _ esl fun _ z => by cases z) (by simp) (by omega) (by decide) (fun f hf v hv => ?_) (fun G sG q1 => ⟨q1, true, rfl, ite2 (fun z => by cases z) (fun _ => hN _ _ ⟨rfl, k0.trans ((sa.trans sG).kp _), t0.ext (sa.trans sG)⟩)⟩)
      have bv := badw_nt (hth v hv) wF
      rw [List.mem_singleton.mp hf]
      exact refdC (cloW0 _) LF (.head _) rfl rfl rfl (lokW0 T _ c0 rp) (l0.same sa) fun H' s' Q' E' kk => ⟨v, rfl, bv.same s', fun H2 s2 => kk none H2 (.inl rfl) s2⟩
    rintro σ4 G4 ⟨rfl, k4, T4⟩
    have w34 := nt_of T3 k4
    refine tseq_split (fun σ' G => ∃ bp bd op od, σ' = [some (.int n), some (.int m), some (.ref sl), v3, none, none, some (.ref bp), some (.ref op), some (.ref rp), none] ∧ Same G4 G ∧ G bp = some (.ins a.c_Rules bd (RS.f bareR)) ∧ G op = some (.ins a.c_Rules od (RS.f oneR))) (fun N hN => ?_) ?_
    · walk_at "rd"
      intro x dx hx hdx ne
      refine ⟨x, dx, bareR, by kernel_rfl, bareR_ok, upd_same, fun F1 f1 k1 => ⟨rfl, fun y dy hy hdy ney => ⟨y, dy, oneR, by kernel_rfl, oneR_ok, upd_same, fun F2 f2 k2 => ⟨rfl, fun tp htp => ⟨_, .inl (.inl upd_same), rfl, _, _, rfl, _, _, rfl, rfl, ?_⟩⟩⟩⟩⟩
      have s9 := same_new (o := HO.tup [V.ref x, V.ref y]) htp
      have s1 := made hx hdx ne k1
      have s2 := made hy hdy ney k2
      exact hN _ _ ⟨x, dx, y, dy, rfl, (s1.trans s2).trans s9, s9 _ _ (s2 _ _ f1), s9 _ _ f2⟩
    rintro σ5 G5 ⟨bp, bd, op, od, rfl, s5, ebp, eop⟩
    have T5 := T4.ext s5
    refine tseq_split (fun σ' G => σ' = [some (.int n), some (.int m), some (.ref sl), v3, none, none, some (.ref bp), some (.ref op), some (.ref rp), none] ∧ Kp a.p__law_words_right G5 G ∧ TabS G a.p__law_words_right qW) (fun N hN => ?_) ?_
    · walk_at "rd"
      simp only [tCallLend]
      walk_at "rd"
      simp only [tLamP]
      refine ⟨T5, fun f0 c0 F0 k0 _ t0 _ e0 m0 => ?_⟩
      have l0 : LamAt F0 (LW 1 (cloFrom (cxOf CX0 P w K mg base N__law_words_right "_law_words_right" (defScope st__law_words_right) a.f__law_words_right (.ref a.k__law_words_right) A outer s H E).nox.env.cells (lamS (lamW 1)).names [])) f0 c0 := ⟨e0, m0⟩
      have u1 : Str.ofString "a b" = S [97, 32, 98] := by decide +kernel
      have u2 : Str.ofString "b " = S [98, 32] := by decide +kernel
      rw [u1, u2, eNo, eA]
      walk_at "al"
      rename_i la h1 F1 k1 e1
      walk_at "al"
      rename_i w1 h2 F2 k2 e2
      walk_at "al"
      rename_i w2 h3 F3 k3 e3
      walk_at "al"
      rename_i w3 h4 F4 k4' e4
      walk_at "al"
      rename_i w4 h5 F5 k5' e5
      walk_at "al"
      rename_i lt h6 F6 k6' e6
      intro cs LF
      have k56 := k5'.trans k6'
      have k46 := k4'.trans k56
      have k36 := k3.trans k46
      have k26 := k2.trans k36
      have k16 := k1.trans k26
      have w0 := nt_of T5 k0
      have eb := k16 _ _ (w0 _ _ ebp fun _ z => by cases z)
      have one : ∀ {w' : Addr} {ws : List Tx} {mm : Nat}, F6 w' = some (.lst (ws.map fun t => V.str (S t))) → okW bareR ws mm = true → Refd P w K mg base a f0 (.ref w') 3 (lendH cs F6) := fun {w' ws mm} ew hok => by
        obtain ⟨o1, o2, o3, o4⟩ := okW_of hok
        exact refdC (cloW1 _) LF (.tail _ (.head _)) rfl rfl rfl (lokW1 T _ c0 bp) (l0.same k16) fun H' s' Q' E' kk => ⟨bd, bareR, w', ws, mm, rfl, s' _ _ eb, bareR_ok, s' _ _ ew, o1, o2, o3, o4, fun H2 d s2 e2 => kk (some d) H2 (.inr ⟨d, _, rfl, e2⟩) s2⟩
      refine all_lent (i := 3) (fs := [f0]) LF (k26 _ _ e1) e6 (by simp) (by simp) (by decide) (fun f hf v hv => ?_) (fun G sG q1 => ⟨q1, true, rfl, ite2 (fun z => by cases z) (fun _ => hN _ _ ⟨rfl, k0.trans ((k16.trans sG).kp _), t0.ext (k16.trans sG)⟩)⟩)
      rw [List.mem_singleton.mp hf]
      simp only [List.mem_cons, List.not_mem_nil, or_false] at hv
      rcases hv with rfl | rfl | rfl | rfl
      · exact one (ws := [[]]) (mm := 0) (k36 _ _ e2) (by decide +kernel)
      · exact one (ws := [[97, 32, 98]]) (mm := 0) (k46 _ _ e3) (by decide +kernel)
      · exact one (ws := [[35]]) (mm := 0) (k56 _ _ e4) (by decide +kernel)
      · exact one (ws := [[97], [98, 32]]) (mm := 1) (k6' _ _ e5) (by decide +kernel)
    rintro σ6 G6 ⟨rfl, k6, T6⟩
    have w56 := nt_of T5 k6
    refine tseq_split (fun σ' G => σ' = [some (.int n), some (.int m), some (.ref sl), v3, none, none, some (.ref bp), some (.ref op), some (.ref rp), none] ∧ Kp a.p__law_words_right G6 G ∧ TabS G a.p__law_words_right qW) (fun N hN => ?_) ?_
    · walk_at "rd"
      simp only [tCallLend]
      walk_at "rd"
      simp only [tLamP]
      refine ⟨T6, fun f0 c0 F0 k0 _ t0 _ e0 m0 => ?_⟩
      have l0 : LamAt F0 (LW 2 (cloFrom (cxOf CX0 P w K mg base N__law_words_right "_law_words_right" (defScope st__law_words_right) a.f__law_words_right (.ref a.k__law_words_right) A outer s H E).nox.env.cells (lamS (lamW 2)).names [])) f0 c0 := ⟨e0, m0⟩
      have u1 : Str.ofString "a'b" = S [97, 39, 98] := by decide +kernel
      rw [u1, eHa]
      walk_at "al"
      rename_i la h1 F1 k1 e1
      walk_at "al"
      rename_i w1 h2 F2 k2 e2
      walk_at "al"
      rename_i w2 h3 F3 k3 e3
      walk_at "al"
      rename_i lt h4 F4 k4' e4
      intro cs LF
      have k34' := k3.trans k4'
      have k24 := k2.trans k34'
      have k14 := k1.trans k24
      have w0 := w56.trans (nt_of T6 k0)
      have eb := k14 _ _ (w0 _ _ eop fun _ z => by cases z)
      have one : ∀ {w' : Addr} {ws : List Tx} {mm : Nat}, F4 w' = some (.lst (ws.map fun t => V.str (S t))) → okW oneR ws mm = true → Refd P w K mg base a f0 (.ref w') 3 (lendH cs F4) := fun {w' ws mm} ew hok => by
        obtain ⟨o1, o2, o3, o4⟩ := okW_of hok
        exact refdC (cloW2 _) LF (.tail _ (.tail _ (.head _))) rfl rfl rfl (lokW2 T _ c0 op) (l0.same k14) fun H' s' Q' E' kk => ⟨od, oneR, w', ws, mm, rfl, s' _ _ eb, oneR_ok, s' _ _ ew, o1, o2, o3, o4, fun H2 d s2 e2 => kk (some d) H2 (.inr ⟨d, _, rfl, e2⟩) s2⟩
      refine all_lent (i := 3) (fs := [f0]) LF (k24 _ _ e1) e4 (by simp) (by simp) (by decide) (fun f hf v hv => ?_) (fun G sG q1 => ⟨q1, true, rfl, ite2 (fun z => by cases z) (fun _ => hN _ _ ⟨rfl, k0.trans ((k14.trans sG).kp _), t0.ext (k14.trans sG)⟩)⟩)
      rw [List.mem_singleton.mp hf]
      simp only [List.mem_cons, List.not_mem_nil, or_false] at hv
      rcases hv with rfl | rfl
      · exact one (ws := [[39]]) (mm := 0) (k34' _ _ e2) (by decide +kernel)
      · exact one (ws := [[97, 39, 98]]) (mm := 0) (k4' _ _ e3) (by decide +kernel)
    rintro σ7 G7 ⟨rfl, k7, T7⟩
    have w57 := w56.trans (nt_of T6 k7)
    refine tseq_split (fun σ' G => ∃ tl, σ' = [some (.int n), some (.int m), some (.ref sl), v3, some (.ref tl), none, some (.ref bp), some (.ref op), some (.ref rp), none] ∧ Same G7 G ∧ G7 tl = none ∧ G tl = some (.lst [])) (fun N hN => ?_) ?_
    · walk_at "rd"
      intro tl htl
      exact hN _ _ ⟨tl, rfl, same_new htl, htl, upd_same⟩
    rintro σ8 G8 ⟨tl, rfl, s8, ftl, etl⟩
    show tSeq (tFor _ _ (tShoW K a)) _ _ _ _
    have ebp8 := s8 _ _ (w57 _ _ ebp fun _ z => by cases z)
    have eop8 := s8 _ _ (w57 _ _ eop fun _ z => by cases z)
    have T8 := T7.ext s8
    refine tseq_split (fun σ' G => (∃ v3 v8, σ' = [some (.int n), some (.int m), some (.ref sl), v3, some (.ref tl), none, some (.ref bp), some (.ref op), v8, none]) ∧ Kp tl G8 G ∧ G tl = some (.lst (List.replicate 4 (.int m)))) (fun N hN => ?_) ?_
    · refine tfor_all (ι := Addr × Hp × List V) (C := fun z => z.2.1 z.1 = some (.tup z.2.2) ∧ Same G8 z.2.1 ∧ z.2.2.length = 4 ∧ ∀ v ∈ z.2.2, Fou a m z.2.1 v) (J := fun z => Itt K z.1) (H1 := fun z => z.2.1) (fun R hR => ?_) fun z hz => ?_
      · walk_at "rd"
        have u1 : Str.ofString "x#" = S [120, 35] := by decide +kernel
        have u2 : Str.ofString "' " = S [39, 32] := by decide +kernel
        have u3 : Str.ofString "a\n" = S [97, 10] := by decide +kernel
        rw [u1, u2, u3]
        walk_at "al"
        rename_i t1 h1 F1 k1 e1
        walk_at "al"
        rename_i t2 h2 F2 k2 e2
        walk_at "al"
        rename_i t3 h3 F3 k3 e3
        intro x dx hx hdx ne
        refine ⟨x, dx, r4, rfl, r4_ok, upd_same, fun F4 f4 k4' => ⟨rfl, ?_⟩⟩
        have m4 := made hx hdx ne k4'
        walk_at "al"
        rename_i t4 h5 F5 k5' e5
        walk_at "al"
        rename_i tp h6 F6 k6' e6
        have k56 := k5'.trans k6'
        have k46 := m4.trans k56
        have k36 := k3.trans k46
        have k26 := k2.trans k36
        have k16 := k1.trans k26
        obtain ⟨⟨⟨o1, o2⟩, o3⟩, o4⟩ := wsM_ok hm
        refine ⟨⟨_, .inl (.inl e6)⟩, hR (tp, F6, _) ⟨e6, k16, rfl, fun v hv => ?_⟩⟩
        simp only [List.mem_cons, List.not_mem_nil, or_false] at hv
        rcases hv with rfl | rfl | rfl | rfl
        · exact ⟨t1, bp, bd, bareR, [], rfl, k26 _ _ e1, k16 _ _ ebp8, bareR_ok, o1⟩
        · exact ⟨t2, bp, bd, bareR, [120, 35], rfl, k36 _ _ e2, k16 _ _ ebp8, bareR_ok, o2⟩
        · exact ⟨t3, op, od, oneR, [39, 32], rfl, k46 _ _ e3, k16 _ _ eop8, oneR_ok, o3⟩
        · exact ⟨t4, x, dx, r4, [97, 10], rfl, k6' _ _ e5, k56 _ _ f4, r4_ok, o4⟩
      obtain ⟨tp, F, bs⟩ := z
      obtain ⟨z1, z2, z3, z4⟩ := hz
      dsimp only at z1 z2 z3 z4
      refine for_it (n := bs.length) (G := fun H => SqT K H tp bs) walk_tup (fun i σ G => Kp tl F G ∧ G tl = some (.lst (List.replicate i (.int m))) ∧ ∃ v3 v8, σ = [some (.int n), some (.int m), some (.ref sl), v3, some (.ref tl), none, some (.ref bp), some (.ref op), v8, none]) ⟨fun _ _ e _ => e, z2 _ _ etl, _, _, rfl⟩ (fun i σ G _ h => .inl (.inl (h.1 _ _ z1 (ne_of z1 (z2 _ _ etl) fun z => by cases z)))) ?_ ?_
      · rintro i x σ G G' hi ⟨kG, eG, v3, v8, rfl⟩ ⟨rfl, hv⟩
        obtain ⟨t, p, dr', r, bad, rfl, et, ep, rok, hok⟩ := z4 x (List.mem_of_getElem? hv)
        have et' := kG _ _ et (ne_of et (z2 _ _ etl) fun z => by cases z)
        have ep' := kG _ _ ep (ne_of ep (z2 _ _ etl) fun z => by cases z)
        walk_at "rd"
        refine ⟨_, .inl (.inl et'), rfl, _, _, rfl, _, _, rfl, rfl, ?_⟩
        simp only [tShoW]
        walk_at "rd"
        simp only [tCallS]
        walk_at "rd"
        rw [eA, show ((m : Int)).toNat = m from Int.toNat_natCast m, show (7 - (m : Int)).toNat = 7 - m by omega, flr, flr]
        walk_at "al"
        rename_i b2 h2 F2 k2 e2
        refine ⟨by omega, by omega, Nat.le_trans (show 1 * m ≤ 8 by omega) (by decide), ?_⟩
        walk_at "al"
        rename_i b3 h3 F3 k3 e3
        walk_at "al"
        rename_i b4 h4 F4 k4 e4
        refine ⟨_, k4 _ _ e3, by rw [List.length_replicate]; exact Nat.le_trans (show m + 1 ≤ 9 by omega) (by decide), ?_⟩
        walk_at "al"
        rename_i b5 h5 F5 k5 e5
        walk_at "al"
        rename_i b6 h6 F6 k6 e6
        refine ⟨by omega, by omega, Nat.le_trans (show 1 * (7 - m) ≤ 8 by omega) (by decide), ?_⟩
        walk_at "al"
        rename_i b7 h7 F7 k7 e7
        refine ⟨_, k7 _ _ (k6 _ _ e5), by rw [List.length_append, List.length_replicate, List.length_replicate]; exact Nat.le_trans (show m + 1 + (7 - m) ≤ 9 by omega) (by decide), ?_⟩
        walk_at "al"
        rename_i b8 h8 F8 k8 e8
        have k28 := (((((k2.trans k3).trans k4).trans k5).trans k6).trans k7).trans k8
        obtain ⟨o1, o2, o3, o4⟩ := okW_of hok
        have ews : F8 b8 = some (.lst ((wsM m bad).map fun t => V.str (S t))) := by
          rw [e8, wsM, List.map_append, List.map_append, List.map_replicate, List.map_replicate]
          rfl
        refine ⟨p, dr', r, b8, wsM m bad, m, rfl, k28 _ _ ep', rok, ews, o1, o2, o3, o4, fun H' d s' e' => ?_⟩
        have sH := k28.trans s'
        refine ⟨true, (err_NW T).clause (sub_self T), fun _ b hb => ?_, fun q => nomatch q⟩
        walk_at "rd"
        have el := sH _ _ eG
        have i4 : i < 4 := by rw [← z3]; exact hi
        refine ⟨.inl ⟨rfl, _, .inl (.inl el)⟩, ⟨_, rfl, rfl, rfl, d, _, _, rfl, e', rfl, _, el, by rw [List.length_replicate]; exact Nat.lt_of_le_of_lt (show i ≤ 4 by omega) (by decide), fun b' o e n => (upd_ne n).trans (sH _ _ (kG _ _ e n)), by rw [List.replicate_succ'], ⟨_, rfl⟩⟩⟩
      · rintro σ G ⟨kG, eG, v3, v8, rfl⟩
        rw [z3] at eG
        exact hN _ _ ⟨⟨_, _, rfl⟩, fun b o e n => kG _ _ (z2 _ _ e) n, eG⟩
    rintro σ9 G9 ⟨⟨v3, v8, rfl⟩, k9, e9⟩
    walk_at "rd"
    rw [show Int.toNat 4 = 4 from rfl, flr]
    walk_at "al"
    rename_i b1 h1 F1 k1 e1
    refine ⟨by omega, by omega, by decide, ?_⟩
    walk_at "al"
    rename_i b2 h2 F2 k2 e2
    have dk : ∀ {b}, F2 b = some (.lst (List.replicate 4 (V.int m))) → Dp K F2 (.ref b) (.list [.int m, .int m, .int m, .int m]) := fun e => .lst (.inl (.inl e)) (.cons (.int _) (.cons (.int _) (.cons (.int _) (.cons (.int _) .nil))))
    have tm : tame (.list [.int m, .int m, .int m, .int m]) = true := by
      simp only [tame, tameAll, Bool.and_true, Bool.and_self, decide_eq_true_eq, Int.natAbs_natCast]
      omega
    have dd : (PyData.list [.int m, .int m, .int m, .int m]).depth ≤ 32 := by simp [PyData.depth, PyData.depthAll]
    have k12 := k1.trans k2
    refine ⟨_, dk (k12 _ _ e9), _, dk e2, shaped_of tm dd, shaped_of tm dd, ?_⟩
    rw [eqv_dec (p := True) tm tm (by simp)]
    have kH7 : Kp a.p__law_words_right H G7 := ((((s1.trans s13).kp _).trans k4).trans (s5.kp _)).trans (k6.trans k7)
    have T9 : TabS G9 a.p__law_words_right qW := tabs_of T8 fun b o e kd => k9 _ _ e fun z => by rw [z, etl] at e; cases e; exact kind_lst kd
    exact q _ (fun b o e nb => k12 _ _ (k9 _ _ (s8 _ _ (kH7 _ _ e nb)) (ne_of_none (kH7 _ _ e nb) ftl))) (T9.ext k12)
end
end Qw

set_option Elab.async false
set_option linter.all false
set_option maxRecDepth 100000
set_option maxHeartbeats 4000000
namespace Qw
open PySem L2 LamX NdefX PySem.Spec PyProof.Rows
local macro_rules | `(tactic| walk_at "rd") => `(tactic| simp only [iEnum, iRng3, tRevL, rSlS, rSlL, gSub, rSetL, wipe, List.map_cons, List.map_nil, rAll, rAny, rIsi, tM1, tM0, iZipLT, iZip, iRng2, tLenSetS, rListStr, rMulS, rRep, rCntB, tRevS, rNeD, rEqD, tSeq, tNext, tAsg, tRet, tRetN, tDrop, tIfS, sFld, sFldAug, tVar, tC, tOp, tUn, tTest, tB, tAnd, tOr, tNot, tAndV, tOrV, tNotV, tIf, tTup, tLst, tCons, tNil, tCB, tCall, tMeth, tMake, tFld, rI, rI0, rU, rEq, rNe, rCat, gName, gTup, gCons, gNil, tPar, tPar3, tBM, tBM0, rAppend, rExtend, rPopAt, rIxL, rIxT, rIxS, tSl, rSlS, rSlL, tPart, tNoPart, iStr, iTup, iList, iRng1, tAug, ipI, L2.rAdd, L2.rSub, L2.rAddS, tChain, rIsB, rNotB, scal_ss, scal_ii, scal_bb, scal_nn, scal_in, scal_ni, tYes,
  cx_K, cx_N, List.getElem?_cons_zero, List.getElem?_cons_succ, List.set_cons_zero, List.set_cons_succ, List.nil_append, List.cons_append, List.append_nil, List.length_cons, List.length_nil, Nat.zero_add,
  Option.some.injEq, V.ref.injEq, V.int.injEq, V.str.injEq, V.bl.injEq, HO.ins.injEq, HO.lst.injEq, HO.tup.injEq, List.cons.injEq, exists_eq_left, exists_eq_left', exists_eq_right, exists_eq_right', and_true, true_and, exists_and_left, exists_and_right, and_assoc, decide_eq_true_eq, Bool.not_eq_true', decide_eq_false_iff_not, reduceCtorEq, exists_const, forall_const, if_true, if_false, false_and, and_false, ite_true, ite_false, Bool.true_eq_false, Bool.false_eq_true, Nat.reduceLeDiff, Nat.reduceAdd, small_line, small_lt, upd_ne, ne_eq, not_false_eq_true, Nat.zero_le, Prod.mk.injEq, upd_same, upd_upd, S_tl, S_len, S_app, S_one, S_inj,
  lk_breaks, lk_hard, lk_soft, lk_bend, lk_note, lk_rules, lk_state, lk_bent, lk_word, lk_begun, lk_opened, lk_place, pt_state, pt_bent, pt_word, pt_wordS, pt_wordN, pt_begun, pt_opened, pt_place, pt_place1, len_mf, litv_empty, litv_note, litv_nl, mf_inj, rf_inj, lkn_begin, lkn_ended, lkn_plain, lkn_quoted, lkn_step, lkn_fault, lkn_key, lkn_told, lkn_quotes, lkn_special, pt_open1, not_true_eq_false, not_false_eq_true])
local macro_rules | `(tactic| walk_at "rdh") => `(tactic| simp only [iEnum, iRng3, tRevL, rSlS, rSlL, gSub, rSetL, wipe, List.map_cons, List.map_nil, rAll, rAny, rIsi, tM1, tM0, iZipLT, iZip, iRng2, tLenSetS, rListStr, rMulS, rRep, rCntB, tRevS, rNeD, rEqD, tSeq, tNext, tAsg, tRet, tRetN, tDrop, tIfS, sFld, sFldAug, tVar, tC, tOp, tUn, tTest, tB, tAnd, tOr, tNot, tAndV, tOrV, tNotV, tIf, tTup, tLst, tCons, tNil, tCB, tCall, tMeth, tMake, tFld, rI, rI0, rU, rEq, rNe, rCat, gName, gTup, gCons, gNil, tPar, tPar3, tBM, tBM0, rAppend, rExtend, rPopAt, rIxL, rIxT, rIxS, tSl, rSlS, rSlL, tPart, tNoPart, iStr, iTup, iList, iRng1, tAug, ipI, L2.rAdd, L2.rSub, L2.rAddS, tChain, rIsB, rNotB, scal_ss, scal_ii, scal_bb, scal_nn, scal_in, scal_ni, tYes,
  cx_K, cx_N, List.getElem?_cons_zero, List.getElem?_cons_succ, List.set_cons_zero, List.set_cons_succ, List.nil_append, List.cons_append, List.append_nil, List.length_cons, List.length_nil, Nat.zero_add,
  Option.some.injEq, V.ref.injEq, V.int.injEq, V.str.injEq, V.bl.injEq, HO.ins.injEq, HO.lst.injEq, HO.tup.injEq, List.cons.injEq, exists_eq_left, exists_eq_left', exists_eq_right, exists_eq_right', and_true, true_and, exists_and_left, exists_and_right, and_assoc, decide_eq_true_eq, Bool.not_eq_true', decide_eq_false_iff_not, reduceCtorEq, exists_const, forall_const, if_true, if_false, false_and, and_false, ite_true, ite_false, Bool.true_eq_false, Bool.false_eq_true, Nat.reduceLeDiff, Nat.reduceAdd, small_line, small_lt, upd_ne, ne_eq, not_false_eq_true, Nat.zero_le, Prod.mk.injEq, upd_same, upd_upd, S_tl, S_len, S_app, S_one, S_inj,
  lk_breaks, lk_hard, lk_soft, lk_bend, lk_note, lk_rules, lk_state, lk_bent, lk_word, lk_begun, lk_opened, lk_place, pt_state, pt_bent, pt_word, pt_wordS, pt_wordN, pt_begun, pt_opened, pt_place, pt_place1, len_mf, litv_empty, litv_note, litv_nl, mf_inj, rf_inj, lkn_begin, lkn_ended, lkn_plain, lkn_quoted, lkn_step, lkn_fault, lkn_key, lkn_told, lkn_quotes, lkn_special, pt_open1, not_true_eq_false, not_false_eq_true, *])
local macro_rules | `(tactic| walk_at "pl") => `(tactic| (first | decide | (refine Nat.lt_of_le_of_lt (length_putF _ _ _) ?_; repeat (first | decide | refine pl2 ?_))))
local macro_rules | `(tactic| walk_at "al") => `(tactic| (intro p hp; generalize hH : upd _ p _ = H1; obtain ⟨S, e⟩ := gen_new hH hp; clear hH))
section
variable {P : Program} {w : World} {K : PySem.W.Frag} {mg : Str → Option Value} {base : Heap} {a : Ad}
def gK {α : Type} (us ds zs : List α) : List α := us ++ (zs.drop 2).take 1 ++ (zs.drop 1).take 1 ++ (zs.drop 3).take 2 ++ zs.take 1
theorem bi_Rules_K (T : Txt K mg a) : ∃ its : List Value, KBn K a.d_Rules_init P_Rules_init 1 ["note", "hard", "breaks", "soft", "bend"] (fun us ws => gK us its ws) (fun vs zs => gK vs [.str (" " : Str), .str ("'" : Str), .str ("\"" : Str), .str ("\\" : Str), .str ("#" : Str)] zs) :=
  T.F_Rules_init.kbindsD (ps := P_Rules_init) 1 ["note", "hard", "breaks", "soft", "bend"] gK (by simp)
    (fun r1 r2 r3 => Paired.app (Paired.app (Paired.app (Paired.app r1 (Paired.take' 1 (Paired.drop' 2 r3))) (Paired.take' 1 (Paired.drop' 1 r3))) (Paired.take' 2 (Paired.drop' 3 r3))) (Paired.take' 1 r3))
    fun T kV doc pm an cdv ct us its ws h1 h2 h3 => match us, h1, its, h2, ws, h3 with
      | [_], _, [_, _, _, _, _], _, [_, _, _, _, _], _ => ⟨_, rfl, rfl⟩
theorem wr_len0 {r : RS} (c : Nat) {ts ws : List Tx} (h : Paired (WrT r) ts ws) : (joinT c ts).length = (ws.map fun w => leastT r w + 1).sum - 1 := by
  have e : ∀ {ts ws : List Tx}, Paired (WrT r) ts ws → (ts.map fun x => x.length + 1).sum = (ws.map fun w => leastT r w + 1).sum := fun {ts ws} h => by
    induction h with
    | nil => rfl
    | cons h _ ih => rw [List.map_cons, List.map_cons, List.sum_cons, List.sum_cons, ih, h.1]
  rw [← e h]
  by_cases z : ts = []
  · subst z; rfl
  · have := joinT_len' c ts z
    omega
def lateR : RS := ⟨[10, 32, 126, 33], [97, 98], [99, 100], [101], []⟩
theorem lateR_ok : lateR.Ok := ⟨by decide, by decide, by decide, by decide, by decide, by decide, by decide, by decide⟩
def toldD (r : RS) : PyData := .tuple [.str (S r.breaks), .str (S r.hard), .str (S r.soft), .str (S r.bend), .str (S r.note)]
theorem told_dp {K : PySem.W.Frag} {H : Hp} {t : Addr} (r : RS) (h : H t = some (.tup [.str (S r.breaks), .str (S r.hard), .str (S r.soft), .str (S r.bend), .str (S r.note)])) : Dp K H (.ref t) (toldD r) := .tup (.inl (.inl h)) (.cons (.str _) (.cons (.str _) (.cons (.str _) (.cons (.str _) (.cons (.str _) .nil)))))
theorem told_tame {r : RS} (h : r.every.all (fun c => decide (c < 1000)) = true) : tame (toldD r) = true := by
  have o : ∀ {t : Tx}, (∀ c ∈ t, c ∈ r.every) → ok8 t := fun ht c hc => of_decide_eq_true (List.all_eq_true.mp h c (ht c hc))
  have w := wsD_tame (ws := [r.breaks, r.hard, r.soft, r.bend, r.note]) fun t ht => by
    simp only [List.mem_cons, List.not_mem_nil, or_false] at ht
    rcases ht with rfl | rfl | rfl | rfl | rfl <;> exact o fun c hc => by simp [RS.every, hc]
  exact w
theorem told_depth (r : RS) : (toldD r).depth ≤ 32 := by simp [toldD, PyData.depth, PyData.depthAll]
def upL (H : Hp) (il : Addr) (cells : List Int) (a : Ad) : Prop := H il = some (.lst (cells.map V.int)) ∧ TabS H a.p__law_rules_right qR ∧ TabS H a.p__law_texts_right qT ∧ TabS H a.p__law_words_right qW
theorem tab_tbl {H : Hp} {P : Addr} {q : Str} (t : TabS H P q) : ∃ ps, H P = some (.tbl ps) := by
  obtain ⟨ps, h, _⟩ := t
  exact ⟨ps, h⟩
def sp_law (K : PySem.W.Frag) (a : Ad) : Sp := fun vs H Q _ => ∃ (ns : List Int) (p : Addr), vs = [.ref p] ∧ ((∃ o, H p = some (.frz o (.lst (ns.map V.int)))) ∨ SqL K (fun _ => none) p (ns.map V.int)) ∧ TabS H a.p__law_rules_right qR ∧ TabS H a.p__law_texts_right qT ∧ TabS H a.p__law_words_right qW ∧ ns.length ≤ 63 ∧ ∀ H', Q (.bl true) H'
theorem ok_law (T : Txt K mg a) (TB1 : TabB base mg a.k__law_rules_right a.p__law_rules_right) (TB2 : TabB base mg a.k__law_texts_right a.p__law_texts_right) (TB3 : TabB base mg a.k__law_words_right a.p__law_words_right) : FnG P w K mg base 12 a.f_law a.d_law P_law (sp_law K a) := by
  refine fnG_of T.F_law sc_law (fun vs H Q E h => ?_) (fun cdv A outer s H vs Q E hfr hr h => ?_)
  · obtain ⟨ns, p, rfl, _⟩ := h
    rfl
  · obtain ⟨ns, p, rfl, hp, hT1, hT2, hT3, hl, q⟩ := h
    have G__law_rules_right := ok_rules_right (P := P) (w := w) (base := base) T TB1
    have B__law_rules_right := bi__law_rules_right T
    have G__law_texts_right := ok_texts_right (P := P) (w := w) (base := base) T TB2
    have B__law_texts_right := bi__law_texts_right T
    have G__law_words_right := ok_words_right (P := P) (w := w) (base := base) T TB3
    have B__law_words_right := bi__law_words_right T
    have G_Rules_init := ok_Rules_init (P := P) (w := w) (base := base) T
    obtain ⟨Ds_Rules_init0, D_Rules_init0, B_Rules_init0⟩ := bi_Rules_init0 T
    have G_Rules_told := ok_Rules_told (P := P) (w := w) (base := base) T
    have B_Rules_told := bi_Rules_told T
    have G_split := ok_split (P := P) (w := w) (base := base) T
    have B_split := bi_split T
    have G_shortest := ok_shortest (P := P) (w := w) (base := base) T
    have B_shortest := bi_shortest T
    obtain ⟨its, BK⟩ := bi_Rules_K T
    refine ⟨_,
(pss_cons (ps_for PassesOwn.never rfl (pi_list (pe_op op_cat (pe_lst (pa_cons pe_int pa_nil)) (pe_slice sl_list (pv 0) po_none (po_some pe_int)))) (pg_name (i := 1) sc_law.nd rfl (by first | exact Or.inl rfl | exact Or.inr rfl))
    (pss_cons (ps_set (i := 2) sc_law.nd rfl (by first | exact Or.inl rfl | exact Or.inr rfl) (pe_op op_mod (pe_callB (call_abs) (by rfl) T.b_abs (by decide +kernel) (pa_cons (pv 1) pa_nil)) (pe_op op_pow pe_int pe_int)))
    (pss_one (ps_if (PW.pt (pw_or (pt_not (pt_val (pe_callG G__law_rules_right hfr (hr.mono (by decide)) rfl T.f__law_rules_right.g T.f__law_rules_right.k B__law_rules_right (pa_cons (pv 2) pa_nil)))) (pw_or (pt_not (pt_val (pe_callG G__law_texts_right hfr (hr.mono (by decide)) rfl T.f__law_texts_right.g T.f__law_texts_right.k B__law_texts_right (pa_cons (pv 2) pa_nil)))) (pw_or1 (pt_not (pt_val (pe_callG G__law_words_right hfr (hr.mono (by decide)) rfl T.f__law_words_right.g T.f__law_words_right.k B__law_words_right (pa_cons (pv 2) pa_nil)))))))) (pss_one (ps_ret pe_bl)) pss_nil))))
    (pss_cons (ps_set (i := 3) sc_law.nd rfl (by first | exact Or.inl rfl | exact Or.inr rfl) (pe_makeK0 T.c_Rules.mc G_Rules_init (hr.mono (by decide)) rfl T.c_Rules.g BK pass0 (pk_cons pe_str (pk_cons pe_str (pk_cons pe_str (pk_cons pe_str (pk_cons pe_str pk_nil)))))))
    (pss_cons (ps_if (PW.pt (pw_or (pt_cmpR (op_neD hr.units) (pe_meth0 (pv 3) T.c_Rules.cl T.m_Rules_told G_Rules_told (hr.mono (by decide)) B_Rules_told .nil pass0) (pe_tup (pa_cons pe_str (pa_cons pe_str (pa_cons pe_str (pa_cons pe_str (pa_cons pe_str pa_nil)))))) (nomark _)) (pw_or1 (pt_cmpR (op_neD hr.units) (pe_meth0 (pe_make0 T.c_Rules.mc G_Rules_init (hr.mono (by decide)) rfl T.c_Rules.g B_Rules_init0 D_Rules_init0 pass0) T.c_Rules.cl T.m_Rules_told G_Rules_told (hr.mono (by decide)) B_Rules_told .nil pass0) (pe_tup (pa_cons pe_str (pa_cons pe_str (pa_cons pe_str (pa_cons pe_str (pa_cons pe_str pa_nil)))))) (nomark _))))) (pss_one (ps_ret pe_bl)) pss_nil)
    (pss_one (ps_ret (pe_and (pe_cmpR (op_eqD hr.units) (pe_fld (pe_call G_split (hr.mono (by decide)) rfl T.f_split.g T.f_split.k B_split .nil pass0 (pa_cons (pe_make0 T.c_Rules.mc G_Rules_init (hr.mono (by decide)) rfl T.c_Rules.g B_Rules_init0 D_Rules_init0 pass0) (pa_cons (pe_op op_mul_str pe_str pe_int) pa_nil))) rfl) (pe_lst (pa_cons (pe_op op_mul_str pe_str pe_int) pa_nil)) (nomark _)) (pe_one (pe_cmpR op_eq (pe_callB call_len_str (by rfl) T.b_len PySem.boot_len (pa_cons (pe_fld (pe_call G_shortest (hr.mono (by decide)) rfl T.f_shortest.g T.f_shortest.k B_shortest .nil pass0 (pa_cons (pe_make0 T.c_Rules.mc G_Rules_init (hr.mono (by decide)) rfl T.c_Rules.g B_Rules_init0 D_Rules_init0 pass0) (pa_cons (pe_op op_rep (pe_lst (pa_cons (pe_op op_mul_str pe_str pe_int) pa_nil)) pe_int) pa_nil))) rfl) pa_nil)) pe_int (nomark _)))))))))
      , ?_⟩
    rw [show start N_law [V.ref p] = [some (.ref p), none, none, none] from rfl]
    have n12 : a.p__law_rules_right ≠ a.p__law_texts_right := T.ne_tab12
    have n13 : a.p__law_rules_right ≠ a.p__law_words_right := T.ne_tab13
    have n23 : a.p__law_texts_right ≠ a.p__law_words_right := T.ne_tab23
    refine tseq_split (fun σ' G => ∃ v1 v2, σ' = [some (.ref p), v1, v2, none]) (fun N hN => ?_) ?_
    · refine tfor_all (ι := Addr × List Int × Hp) (C := fun z => upL z.2.2 z.1 z.2.1 a) (J := fun z => Itl K z.1) (H1 := fun z => z.2.2) (fun R hR => ?_) fun z hz => ?_
      · walk_at "rd"
        intro p1 h1
        refine ⟨ns.map V.int, ?_, ?_⟩
        · exact hp.elim (fun ⟨o, e⟩ => .inl (.inr ⟨o, same_new h1 _ _ e⟩)) (fun z => by
            rcases z with (z | ⟨o, z⟩) | z
            · cases z
            · cases z
            · exact .inr z)
        intro p2 h2
        have s1 := same_new (o := HO.lst [V.int 0]) h1
        have e1 : upd H p1 (HO.lst [V.int 0]) p1 = some (HO.lst [V.int 0]) := upd_same
        generalize upd H p1 (HO.lst [V.int 0]) = H1 at *
        rw [show (some (3 : Int)) = some ((3 : Nat) : Int) from rfl, cut_to, ← List.map_take]
        have s2 := same_new (o := HO.lst ((ns.take 3).map V.int)) h2
        have e2 := s2 _ _ e1
        generalize upd H1 p2 (HO.lst ((ns.take 3).map V.int)) = H2 at *
        have l3 : (ns.take 3).length ≤ 3 := List.length_take_le _ _
        refine ⟨_, e2, by rw [List.length_map]; exact Nat.le_trans (show 1 + (ns.take 3).length ≤ 4 by omega) (by decide), fun p3 h3 => ?_⟩
        have s3 := same_new (o := HO.lst ([V.int 0] ++ (ns.take 3).map V.int)) h3
        have s13 := (s1.trans s2).trans s3
        exact ⟨⟨_, .inl (.inl upd_same)⟩, hR (p3, 0 :: ns.take 3, _) ⟨upd_same, hT1.ext s13, hT2.ext s13, hT3.ext s13⟩⟩
      obtain ⟨il, cells, F⟩ := z
      dsimp only at hz
      refine for_it (n := (cells.map V.int).length) (G := fun H => SqL K H il (cells.map V.int)) walk_list (fun i σ G => (∃ v1 v2, σ = [some (.ref p), v1, v2, none]) ∧ upL G il cells a) ⟨⟨_, _, rfl⟩, hz⟩ (fun i σ G _ h => .inl (.inl h.2.1)) ?_ ?_
      · rintro i x σ G G' hi ⟨⟨v1, v2, rfl⟩, g1, g2, g3, g4⟩ ⟨rfl, hx⟩
        rw [List.getElem?_map] at hx
        obtain ⟨c, _, rfl⟩ := Option.map_eq_some_iff.mp hx
        walk_at "rd"
        obtain ⟨k, ek⟩ : ∃ k : Nat, (if c < 0 then -c else c) % 10 ^ Int.toNat 20 = (k : Int) := ⟨_, (Int.toNat_of_nonneg (Int.emod_nonneg _ (by decide))).symm⟩
        rw [ek]
        refine ⟨by unfold CPow; decide, by decide, k, rfl, g2, fun H1 k1 t1 => ⟨true, rfl, ite2 (fun z => by cases z) (fun _ => ?_)⟩⟩
        have i1 := k1 _ _ g1 (ne_tab g2 g1 (fun _ z => by cases z))
        have u2 := Qw.TabS.kp g3 k1 (Ne.symm n12) (tab_tbl g2)
        have u3 := Qw.TabS.kp g4 k1 (Ne.symm n13) (tab_tbl g2)
        refine ⟨k, rfl, u2, fun H2 k2 t2 => ⟨true, rfl, ite2 (fun z => by cases z) (fun _ => ?_)⟩⟩
        have i2 := k2 _ _ i1 (ne_tab u2 i1 (fun _ z => by cases z))
        have w1 := Qw.TabS.kp t1 k2 n12 (tab_tbl u2)
        have w3 := Qw.TabS.kp u3 k2 (Ne.symm n23) (tab_tbl u2)
        refine ⟨k, rfl, w3, fun H3 k3 t3 => ⟨true, rfl, ite2 (fun z => by cases z) (fun _ => ?_)⟩⟩
        exact ⟨⟨_, rfl⟩, k3 _ _ i2 (ne_tab w3 i2 (fun _ z => by cases z)), Qw.TabS.kp w1 k3 n13 (tab_tbl w3), Qw.TabS.kp t2 k3 n23 (tab_tbl w3), t3⟩
      · rintro σ G ⟨h, _⟩
        exact hN _ _ h
    rintro σ1 G1 ⟨v1, v2, rfl⟩
    refine tseq_split (fun σ' G => ∃ lp ld, σ' = [some (.ref p), v1, v2, some (.ref lp)] ∧ G lp = some (.ins a.c_Rules ld (RS.f lateR))) (fun N hN => ?_) ?_
    · walk_at "rd"
      simp only [tMakeK]
      walk_at "rd"
      intro x dx hx hdx ne
      exact ⟨x, dx, lateR, by kernel_rfl, lateR_ok, upd_same, fun F1 f1 k1 => ⟨rfl, hN _ _ ⟨x, dx, rfl, f1⟩⟩⟩
    rintro σ2 G2 ⟨lp, ld, rfl, elp⟩
    have eA : Str.ofString "a" = S [97] := by decide +kernel
    refine tseq_split (fun σ' G => σ' = [some (.ref p), v1, v2, some (.ref lp)]) (fun N hN => ?_) ?_
    · walk_at "rd"
      have v1' : Str.ofString "\n ~!" = S lateR.breaks := by decide +kernel
      have v2' : Str.ofString "ab" = S lateR.hard := by decide +kernel
      have v3' : Str.ofString "cd" = S lateR.soft := by decide +kernel
      have v4' : Str.ofString "e" = S lateR.bend := by decide +kernel
      rw [v1', v2', v3', v4']
      refine ⟨_, _, elp, lkn_told _, lp, ld, lateR, rfl, elp, fun t0 G3 h0 e0 p1 h1 => ?_⟩
      subst e0
      have k1 := same_new (o := HO.tup [V.str (S lateR.breaks), V.str (S lateR.hard), V.str (S lateR.soft), V.str (S lateR.bend), V.str (S [])]) h1
      have tm : tame (toldD lateR) = true := told_tame (by decide)
      refine ⟨_, told_dp lateR (k1 _ _ upd_same), _, told_dp lateR upd_same, shaped_of tm (told_depth _), shaped_of tm (told_depth _), ?_⟩
      rw [eqv_dec (p := True) tm tm (by simp)]
      refine ite2 (fun z => by simp at z) (fun _ => ?_)
      intro x dx hx hdx ne
      refine ⟨x, dx, usualR, by kernel_rfl, usualR_ok, upd_same, fun F1 f1 k2 => ⟨rfl, _, _, f1, lkn_told _, x, dx, usualR, rfl, f1, fun t2 G4 h2 e2 p2 h3 => ?_⟩⟩
      subst e2
      have tu : tame (toldD usualR) = true := told_tame (by decide)
      have k3 := same_new (o := HO.tup [V.str (Str.ofString " "), V.str (Str.ofString "'"), V.str (Str.ofString "\""), V.str (Str.ofString "\\"), V.str (Str.ofString "#")]) h3
      refine ⟨_, told_dp usualR (k3 _ _ upd_same), _, told_dp usualR (by rw [upd_same, eSp, eHa, eSo, eBe, eNo]; rfl), shaped_of tu (told_depth _), shaped_of tu (told_depth _), ?_⟩
      rw [eqv_dec (p := True) tu tu (by simp)]
      exact ite2 (fun z => by simp at z) (fun _ => hN _ _ rfl)
    rintro σ3 G3 rfl
    walk_at "rd"
    have o8 : ∀ (m : Nat), ∀ t ∈ [List.replicate m 97], ok8 t := fun m t ht => by
      rw [List.mem_singleton.mp ht]
      exact fun c hc => by rw [(List.mem_replicate.mp hc).2]; decide
    intro x dx hx hdx ne
    refine ⟨x, dx, usualR, by kernel_rfl, usualR_ok, upd_same, fun F1 f1 k1 => ⟨rfl, [97], eA, 400, rfl, by decide, by decide, ?_⟩⟩
    rw [fl1]
    refine ⟨x, dx, usualR, List.replicate 400 97, rfl, f1, by decide, by rw [List.length_replicate]; decide, by decide +kernel, fun q1 F2 hq1 s2 an => ?_⟩
    have rd : told3 (readAll usualR (List.replicate 400 97) x) = .ok ([List.replicate 400 97], [(0, 400)]) := by kernel_rfl
    rw [rd] at an
    obtain ⟨d1, w1, w2, ys, a1, a2, a3, a4, fw1, fw2, _⟩ := an
    refine ⟨q1, rfl, _, _, _, a1, T.c_Words.cl, T.n_Words_words, _, lk_WFwE _ _, [97], eA, 400, rfl, by decide, by decide, fun p2 h2 => ?_⟩
    rw [fl1]
    have s3 := same_new (o := HO.lst [V.str (S (List.replicate 400 97))]) h2
    have tm : tame (wsD [List.replicate 400 97]) = true := wsD_tame (o8 400)
    have dd : (wsD [List.replicate 400 97]).depth ≤ 32 := by
      have := wsD_depth [List.replicate 400 97]
      omega
    refine ⟨wsD [List.replicate 400 97], dp_ws (.inl (.inl (s3 _ _ a2))), wsD [List.replicate 400 97], dp_ws (.inl (.inl upd_same)), shaped_of tm dd, shaped_of tm dd, ?_⟩
    rw [eqv_dec (p := True) tm tm (by simp)]
    refine ite2 (fun _ => ?_) (fun z => by simp at z)
    generalize upd F2 p2 (HO.lst [V.str (S (List.replicate 400 97))]) = F3 at *
    intro y dy hy hdy ney
    refine ⟨y, dy, usualR, by kernel_rfl, usualR_ok, upd_same, fun F4 f4 k4 => ⟨rfl, ?_⟩⟩
    refine ⟨[97], eA, 12, rfl, by decide, by decide, ?_⟩
    rw [fl1, show Int.toNat 8 = 8 from rfl, flr]
    walk_at "al"
    rename_i b1 h1 H1 k1' e1
    refine ⟨by omega, by omega, by decide, ?_⟩
    walk_at "al"
    rename_i b2 h3 H2 k2' e2
    have cw : cannotT usualR (List.replicate 12 97) = false := by decide +kernel
    refine ⟨y, dy, usualR, b2, List.replicate 8 (List.replicate 12 97), rfl, k2' _ _ (k1' _ _ f4), usualR_ok, by rw [e2, List.map_replicate], by decide, fun w hw => ?_, fun ts q2 H' dx2 l' xs' wr hq hl' s4 g1 g2 g3 => ?_⟩
    · rw [(List.mem_replicate.mp hw).2]
      exact ⟨by decide +kernel, by decide, cw⟩
    have len := wr_len0 (usualR.breaks.headD 0) wr
    have tot : (((List.replicate 8 (List.replicate 12 97)).map fun w => leastT usualR w + 1).sum - 1) = 103 := by decide +kernel
    rw [tot] at len
    refine ⟨q2, rfl, _, _, _, g1, T.c_Shortest.cl, T.n_Shortest_text, _, rfl, _, rfl, by rw [S_len, len]; decide, ?_⟩
    rw [S_len, len]
    exact q _
end
end Qw

set_option Elab.async false
set_option linter.all false
set_option maxRecDepth 100000
set_option maxHeartbeats 4000000
namespace Qw
open PySem L2 LamX
theorem kit_own {K : PySem.W.Frag} {C D : Addr} {b : Bool} (ne : (C : Nat) ≠ D) (hd : PySem.W.hasDictIn K D = true) (ht : PySem.W.typeIn K (.ref D) = some (.type "type")) (h : PySem.W.mroIn K C (.ref D) = some b) : PySem.W.kitOne K (.ref C) (.ref D) = some b := by
  obtain ⟨cd, hc, _⟩ := PySem.W.any_some hd
  have e2 : ((PySem.W.clsIn K D).isSome && PySem.W.typeIn K (.ref D) == some (.type "type")) = true := by
    rw [hc, ht]
    rfl
  show (if (Value.ref C == Value.ref D) = true then some true else if ((PySem.W.clsIn K D).isSome && PySem.W.typeIn K (.ref D) == some (.type "type")) = true then PySem.W.mroIn K C (.ref D) else none) = some b
  rw [if_neg (fun z => ne (Value.ref.inj (beq_iff_eq.mp z))), if_pos e2]
  exact h
theorem all_mk {P : Program} {w : World} {K : PySem.W.Frag} {h : Heap} {mg : Str → Option Value} {fa : Addr} (X : K.In h) (G : h.Ns mainGlobals mg) (hfa : mg "law" = some (.ref fa))
    {C_QuoteError C_BadRules C_BadText C_BadWords C_Ended C_NoWriting C_Rules C_Machine C_Answer C_Words C_Fault C_Shortest C_Alike C_Parted C_Splitter f_NoWriting_init f_are_signs f_Rules_init T_Rules_init f_Rules_told f_Rules_quotes f_Rules_special f_Machine_init f_Machine_key f_Machine_begin f_Machine_ended f_Machine_plain f_Machine_quoted f_Machine_step f_Machine_fault f_read_all f_states_of f_cost_of f_entered f_cannot f_heights_of f_written_by f_part_of f_few_signs f_read_alike f_trail f_marks_of f_node_of f_first_parted f_Words_init f_Fault_init f_Shortest_init f_Parted_init f_compared f_split f_Splitter_init f_Splitter_take f_Splitter_end f_one_written f_shortest f__law_kinds f__law_refused f__law_all f__law_rules_right kd__law_rules_right p__law_rules_right f__law_texts_right kd__law_texts_right p__law_texts_right f__law_words_right kd__law_words_right p__law_words_right f_law a_MOST : Addr}
    {kV_NoWriting_init dc_NoWriting_init pm_NoWriting_init cd_NoWriting_init ct_NoWriting_init oc_NoWriting_init : Value}
    {od_NoWriting_init an_NoWriting_init : Option Addr}
    {sl_NoWriting_init : Array (Option Value)}
    {kV_are_signs dc_are_signs pm_are_signs cd_are_signs ct_are_signs oc_are_signs : Value}
    {od_are_signs an_are_signs : Option Addr}
    {sl_are_signs : Array (Option Value)}
    {kV_Rules_init dc_Rules_init pm_Rules_init cd_Rules_init ct_Rules_init oc_Rules_init : Value}
    {od_Rules_init an_Rules_init : Option Addr}
    {sl_Rules_init : Array (Option Value)}
    {odT_Rules_init : Option Addr}
    {slT_Rules_init : Array (Option Value)}
    {nT_Rules_init : Nat}
    {t0_Rules_init t1_Rules_init t2_Rules_init t3_Rules_init t4_Rules_init : Tok}
    {kV_Rules_told dc_Rules_told pm_Rules_told cd_Rules_told ct_Rules_told oc_Rules_told : Value}
    {od_Rules_told an_Rules_told : Option Addr}
    {sl_Rules_told : Array (Option Value)}
    {kV_Rules_quotes dc_Rules_quotes pm_Rules_quotes cd_Rules_quotes ct_Rules_quotes oc_Rules_quotes : Value}
    {od_Rules_quotes an_Rules_quotes : Option Addr}
    {sl_Rules_quotes : Array (Option Value)}
    {kV_Rules_special dc_Rules_special pm_Rules_special cd_Rules_special ct_Rules_special oc_Rules_special : Value}
    {od_Rules_special an_Rules_special : Option Addr}
    {sl_Rules_special : Array (Option Value)}
    {kV_Machine_init dc_Machine_init pm_Machine_init cd_Machine_init ct_Machine_init oc_Machine_init : Value}
    {od_Machine_init an_Machine_init : Option Addr}
    {sl_Machine_init : Array (Option Value)}
    {kV_Machine_key dc_Machine_key pm_Machine_key cd_Machine_key ct_Machine_key oc_Machine_key : Value}
    {od_Machine_key an_Machine_key : Option Addr}
    {sl_Machine_key : Array (Option Value)}
    {kV_Machine_begin dc_Machine_begin pm_Machine_begin cd_Machine_begin ct_Machine_begin oc_Machine_begin : Value}
    {od_Machine_begin an_Machine_begin : Option Addr}
    {sl_Machine_begin : Array (Option Value)}
    {kV_Machine_ended dc_Machine_ended pm_Machine_ended cd_Machine_ended ct_Machine_ended oc_Machine_ended : Value}
    {od_Machine_ended an_Machine_ended : Option Addr}
    {sl_Machine_ended : Array (Option Value)}
    {kV_Machine_plain dc_Machine_plain pm_Machine_plain cd_Machine_plain ct_Machine_plain oc_Machine_plain : Value}
    {od_Machine_plain an_Machine_plain : Option Addr}
    {sl_Machine_plain : Array (Option Value)}
    {kV_Machine_quoted dc_Machine_quoted pm_Machine_quoted cd_Machine_quoted ct_Machine_quoted oc_Machine_quoted : Value}
    {od_Machine_quoted an_Machine_quoted : Option Addr}
    {sl_Machine_quoted : Array (Option Value)}
    {kV_Machine_step dc_Machine_step pm_Machine_step cd_Machine_step ct_Machine_step oc_Machine_step : Value}
    {od_Machine_step an_Machine_step : Option Addr}
    {sl_Machine_step : Array (Option Value)}
    {kV_Machine_fault dc_Machine_fault pm_Machine_fault cd_Machine_fault ct_Machine_fault oc_Machine_fault : Value}
    {od_Machine_fault an_Machine_fault : Option Addr}
    {sl_Machine_fault : Array (Option Value)}
    {kV_read_all dc_read_all pm_read_all cd_read_all ct_read_all oc_read_all : Value}
    {od_read_all an_read_all : Option Addr}
    {sl_read_all : Array (Option Value)}
    {kV_states_of dc_states_of pm_states_of cd_states_of ct_states_of oc_states_of : Value}
    {od_states_of an_states_of : Option Addr}
    {sl_states_of : Array (Option Value)}
    {kV_cost_of dc_cost_of pm_cost_of cd_cost_of ct_cost_of oc_cost_of : Value}
    {od_cost_of an_cost_of : Option Addr}
    {sl_cost_of : Array (Option Value)}
    {kV_entered dc_entered pm_entered cd_entered ct_entered oc_entered : Value}
    {od_entered an_entered : Option Addr}
    {sl_entered : Array (Option Value)}
    {kV_cannot dc_cannot pm_cannot cd_cannot ct_cannot oc_cannot : Value}
    {od_cannot an_cannot : Option Addr}
    {sl_cannot : Array (Option Value)}
    {kV_heights_of dc_heights_of pm_heights_of cd_heights_of ct_heights_of oc_heights_of : Value}
    {od_heights_of an_heights_of : Option Addr}
    {sl_heights_of : Array (Option Value)}
    {kV_written_by dc_written_by pm_written_by cd_written_by ct_written_by oc_written_by : Value}
    {od_written_by an_written_by : Option Addr}
    {sl_written_by : Array (Option Value)}
    {kV_part_of dc_part_of pm_part_of cd_part_of ct_part_of oc_part_of : Value}
    {od_part_of an_part_of : Option Addr}
    {sl_part_of : Array (Option Value)}
    {kV_few_signs dc_few_signs pm_few_signs cd_few_signs ct_few_signs oc_few_signs : Value}
    {od_few_signs an_few_signs : Option Addr}
    {sl_few_signs : Array (Option Value)}
    {kV_read_alike dc_read_alike pm_read_alike cd_read_alike ct_read_alike oc_read_alike : Value}
    {od_read_alike an_read_alike : Option Addr}
    {sl_read_alike : Array (Option Value)}
    {kV_trail dc_trail pm_trail cd_trail ct_trail oc_trail : Value}
    {od_trail an_trail : Option Addr}
    {sl_trail : Array (Option Value)}
    {kV_marks_of dc_marks_of pm_marks_of cd_marks_of ct_marks_of oc_marks_of : Value}
    {od_marks_of an_marks_of : Option Addr}
    {sl_marks_of : Array (Option Value)}
    {kV_node_of dc_node_of pm_node_of cd_node_of ct_node_of oc_node_of : Value}
    {od_node_of an_node_of : Option Addr}
    {sl_node_of : Array (Option Value)}
    {kV_first_parted dc_first_parted pm_first_parted cd_first_parted ct_first_parted oc_first_parted : Value}
    {od_first_parted an_first_parted : Option Addr}
    {sl_first_parted : Array (Option Value)}
    {kV_Words_init dc_Words_init pm_Words_init cd_Words_init ct_Words_init oc_Words_init : Value}
    {od_Words_init an_Words_init : Option Addr}
    {sl_Words_init : Array (Option Value)}
    {kV_Fault_init dc_Fault_init pm_Fault_init cd_Fault_init ct_Fault_init oc_Fault_init : Value}
    {od_Fault_init an_Fault_init : Option Addr}
    {sl_Fault_init : Array (Option Value)}
    {kV_Shortest_init dc_Shortest_init pm_Shortest_init cd_Shortest_init ct_Shortest_init oc_Shortest_init : Value}
    {od_Shortest_init an_Shortest_init : Option Addr}
    {sl_Shortest_init : Array (Option Value)}
    {kV_Parted_init dc_Parted_init pm_Parted_init cd_Parted_init ct_Parted_init oc_Parted_init : Value}
    {od_Parted_init an_Parted_init : Option Addr}
    {sl_Parted_init : Array (Option Value)}
    {kV_compared dc_compared pm_compared cd_compared ct_compared oc_compared : Value}
    {od_compared an_compared : Option Addr}
    {sl_compared : Array (Option Value)}
    {kV_split dc_split pm_split cd_split ct_split oc_split : Value}
    {od_split an_split : Option Addr}
    {sl_split : Array (Option Value)}
    {kV_Splitter_init dc_Splitter_init pm_Splitter_init cd_Splitter_init ct_Splitter_init oc_Splitter_init : Value}
    {od_Splitter_init an_Splitter_init : Option Addr}
    {sl_Splitter_init : Array (Option Value)}
    {kV_Splitter_take dc_Splitter_take pm_Splitter_take cd_Splitter_take ct_Splitter_take oc_Splitter_take : Value}
    {od_Splitter_take an_Splitter_take : Option Addr}
    {sl_Splitter_take : Array (Option Value)}
    {kV_Splitter_end dc_Splitter_end pm_Splitter_end cd_Splitter_end ct_Splitter_end oc_Splitter_end : Value}
    {od_Splitter_end an_Splitter_end : Option Addr}
    {sl_Splitter_end : Array (Option Value)}
    {kV_one_written dc_one_written pm_one_written cd_one_written ct_one_written oc_one_written : Value}
    {od_one_written an_one_written : Option Addr}
    {sl_one_written : Array (Option Value)}
    {kV_shortest dc_shortest pm_shortest cd_shortest ct_shortest oc_shortest : Value}
    {od_shortest an_shortest : Option Addr}
    {sl_shortest : Array (Option Value)}
    {kV__law_kinds dc__law_kinds pm__law_kinds cd__law_kinds ct__law_kinds oc__law_kinds : Value}
    {od__law_kinds an__law_kinds : Option Addr}
    {sl__law_kinds : Array (Option Value)}
    {kV__law_refused dc__law_refused pm__law_refused cd__law_refused ct__law_refused oc__law_refused : Value}
    {od__law_refused an__law_refused : Option Addr}
    {sl__law_refused : Array (Option Value)}
    {kV__law_all dc__law_all pm__law_all cd__law_all ct__law_all oc__law_all : Value}
    {od__law_all an__law_all : Option Addr}
    {sl__law_all : Array (Option Value)}
    {kV__law_rules_right dc__law_rules_right pm__law_rules_right ct__law_rules_right oc__law_rules_right : Value}
    {od__law_rules_right an__law_rules_right : Option Addr}
    {sl__law_rules_right : Array (Option Value)}
    {kV__law_texts_right dc__law_texts_right pm__law_texts_right ct__law_texts_right oc__law_texts_right : Value}
    {od__law_texts_right an__law_texts_right : Option Addr}
    {sl__law_texts_right : Array (Option Value)}
    {kV__law_words_right dc__law_words_right pm__law_words_right ct__law_words_right oc__law_words_right : Value}
    {od__law_words_right an__law_words_right : Option Addr}
    {sl__law_words_right : Array (Option Value)}
    {kV_law dc_law pm_law cd_law ct_law oc_law : Value}
    {od_law an_law : Option Addr}
    {sl_law : Array (Option Value)}
    {t_LINE_END : Tok}
    {t0_MOST t1_MOST t2_MOST t3_MOST t4_MOST : Tok}
    {od_MOST : Option Addr}
    {sl_MOST : Array (Option Value)}
    {n_MOST : Nat}
    {t_PLAIN : Tok}
    {t_NOTED : Tok}
    {t_LOOSE : Tok}
    {t_FAR_twins : Tok}
    {t_LETTERS : Tok}
    {t_LONGEST : Tok}
    {t_MOST_WORDS : Tok}
    {t_LONGEST_WORD : Tok}
    {t_FAR_writing : Tok}
    {nmE qE : Str}
    {NE : Addr}
    {bsE subE : List Value}
    {snE : List Str}
    {abE : Bool}
    {colE : Option Bool}
    {ddE : Option Addr}
    {m0E m1E m2E m3E m5E : Option Value}
    (hts : ∀ P ∈ [p__law_words_right, p__law_texts_right, p__law_rules_right], h.get? P = some tab0)
    (aC_QuoteError : PySem.W.nsIn K mainGlobals "QuoteError" = some (some (.ref C_QuoteError)))
    (aC_BadRules : PySem.W.nsIn K mainGlobals "BadRules" = some (some (.ref C_BadRules)))
    (aC_BadText : PySem.W.nsIn K mainGlobals "BadText" = some (some (.ref C_BadText)))
    (aC_BadWords : PySem.W.nsIn K mainGlobals "BadWords" = some (some (.ref C_BadWords)))
    (aC_Ended : PySem.W.nsIn K mainGlobals "Ended" = some (some (.ref C_Ended)))
    (aC_NoWriting : PySem.W.nsIn K mainGlobals "NoWriting" = some (some (.ref C_NoWriting)))
    (aC_Rules : PySem.W.nsIn K mainGlobals "Rules" = some (some (.ref C_Rules)))
    (aC_Machine : PySem.W.nsIn K mainGlobals "Machine" = some (some (.ref C_Machine)))
    (aC_Answer : PySem.W.nsIn K mainGlobals "Answer" = some (some (.ref C_Answer)))
    (aC_Words : PySem.W.nsIn K mainGlobals "Words" = some (some (.ref C_Words)))
    (aC_Fault : PySem.W.nsIn K mainGlobals "Fault" = some (some (.ref C_Fault)))
    (aC_Shortest : PySem.W.nsIn K mainGlobals "Shortest" = some (some (.ref C_Shortest)))
    (aC_Alike : PySem.W.nsIn K mainGlobals "Alike" = some (some (.ref C_Alike)))
    (aC_Parted : PySem.W.nsIn K mainGlobals "Parted" = some (some (.ref C_Parted)))
    (aC_Splitter : PySem.W.nsIn K mainGlobals "Splitter" = some (some (.ref C_Splitter)))
    (a_NoWriting_init : PySem.W.findIn K (.ref C_NoWriting) "__init__" = some (some (.ref f_NoWriting_init)))
    (i_NoWriting_init : PySem.W.isFn K (.ref f_NoWriting_init) = true)
    (l_NoWriting_init : K.lookup f_NoWriting_init = some ⟨oc_NoWriting_init, od_NoWriting_init, .func (PySem.W.fnOf "__init__" "NoWriting.__init__" (defArgs st_NoWriting_init) (defBody st_NoWriting_init) (defScope st_NoWriting_init) .none kV_NoWriting_init dc_NoWriting_init pm_NoWriting_init an_NoWriting_init cd_NoWriting_init ct_NoWriting_init), sl_NoWriting_init⟩)
    (c_NoWriting_init : PySem.W.codeIn K cd_NoWriting_init "NoWriting.__init__" = true)
    (k_NoWriting_init : PySem.W.keepIn K (.ref f_NoWriting_init) = true)
    (a_are_signs : PySem.W.nsIn K mainGlobals "are_signs" = some (some (.ref f_are_signs)))
    (l_are_signs : K.lookup f_are_signs = some ⟨oc_are_signs, od_are_signs, .func (PySem.W.fnOf "are_signs" "are_signs" (defArgs st_are_signs) (defBody st_are_signs) (defScope st_are_signs) .none kV_are_signs dc_are_signs pm_are_signs an_are_signs cd_are_signs ct_are_signs), sl_are_signs⟩)
    (c_are_signs : PySem.W.codeIn K cd_are_signs "are_signs" = true)
    (k_are_signs : PySem.W.keepIn K (.ref f_are_signs) = true)
    (a_Rules_init : PySem.W.findIn K (.ref C_Rules) "__init__" = some (some (.ref f_Rules_init)))
    (i_Rules_init : PySem.W.isFn K (.ref f_Rules_init) = true)
    (l_Rules_init : K.lookup f_Rules_init = some ⟨oc_Rules_init, od_Rules_init, .func (PySem.W.fnOf "__init__" "Rules.__init__" (defArgs st_Rules_init) (defBody st_Rules_init) (defScope st_Rules_init) (.ref T_Rules_init) kV_Rules_init dc_Rules_init pm_Rules_init an_Rules_init cd_Rules_init ct_Rules_init), sl_Rules_init⟩)
    (d_Rules_init : K.lookup T_Rules_init = some ⟨.type "tuple", odT_Rules_init, .seq #[Value.str (" " : Str) t0_Rules_init, Value.str ("'" : Str) t1_Rules_init, Value.str ("\"" : Str) t2_Rules_init, Value.str ("\\" : Str) t3_Rules_init, Value.str ("#" : Str) t4_Rules_init] nT_Rules_init, slT_Rules_init⟩)
    (c_Rules_init : PySem.W.codeIn K cd_Rules_init "Rules.__init__" = true)
    (k_Rules_init : PySem.W.keepIn K (.ref f_Rules_init) = true)
    (a_Rules_told : PySem.W.findIn K (.ref C_Rules) "told" = some (some (.ref f_Rules_told)))
    (i_Rules_told : PySem.W.isFn K (.ref f_Rules_told) = true)
    (l_Rules_told : K.lookup f_Rules_told = some ⟨oc_Rules_told, od_Rules_told, .func (PySem.W.fnOf "told" "Rules.told" (defArgs st_Rules_told) (defBody st_Rules_told) (defScope st_Rules_told) .none kV_Rules_told dc_Rules_told pm_Rules_told an_Rules_told cd_Rules_told ct_Rules_told), sl_Rules_told⟩)
    (c_Rules_told : PySem.W.codeIn K cd_Rules_told "Rules.told" = true)
    (k_Rules_told : PySem.W.keepIn K (.ref f_Rules_told) = true)
    (a_Rules_quotes : PySem.W.findIn K (.ref C_Rules) "quotes" = some (some (.ref f_Rules_quotes)))
    (i_Rules_quotes : PySem.W.isFn K (.ref f_Rules_quotes) = true)
    (l_Rules_quotes : K.lookup f_Rules_quotes = some ⟨oc_Rules_quotes, od_Rules_quotes, .func (PySem.W.fnOf "quotes" "Rules.quotes" (defArgs st_Rules_quotes) (defBody st_Rules_quotes) (defScope st_Rules_quotes) .none kV_Rules_quotes dc_Rules_quotes pm_Rules_quotes an_Rules_quotes cd_Rules_quotes ct_Rules_quotes), sl_Rules_quotes⟩)
    (c_Rules_quotes : PySem.W.codeIn K cd_Rules_quotes "Rules.quotes" = true)
    (k_Rules_quotes : PySem.W.keepIn K (.ref f_Rules_quotes) = true)
    (a_Rules_special : PySem.W.findIn K (.ref C_Rules) "special" = some (some (.ref f_Rules_special)))
    (i_Rules_special : PySem.W.isFn K (.ref f_Rules_special) = true)
    (l_Rules_special : K.lookup f_Rules_special = some ⟨oc_Rules_special, od_Rules_special, .func (PySem.W.fnOf "special" "Rules.special" (defArgs st_Rules_special) (defBody st_Rules_special) (defScope st_Rules_special) .none kV_Rules_special dc_Rules_special pm_Rules_special an_Rules_special cd_Rules_special ct_Rules_special), sl_Rules_special⟩)
    (c_Rules_special : PySem.W.codeIn K cd_Rules_special "Rules.special" = true)
    (k_Rules_special : PySem.W.keepIn K (.ref f_Rules_special) = true)
    (a_Machine_init : PySem.W.findIn K (.ref C_Machine) "__init__" = some (some (.ref f_Machine_init)))
    (i_Machine_init : PySem.W.isFn K (.ref f_Machine_init) = true)
    (l_Machine_init : K.lookup f_Machine_init = some ⟨oc_Machine_init, od_Machine_init, .func (PySem.W.fnOf "__init__" "Machine.__init__" (defArgs st_Machine_init) (defBody st_Machine_init) (defScope st_Machine_init) .none kV_Machine_init dc_Machine_init pm_Machine_init an_Machine_init cd_Machine_init ct_Machine_init), sl_Machine_init⟩)
    (c_Machine_init : PySem.W.codeIn K cd_Machine_init "Machine.__init__" = true)
    (k_Machine_init : PySem.W.keepIn K (.ref f_Machine_init) = true)
    (a_Machine_key : PySem.W.findIn K (.ref C_Machine) "key" = some (some (.ref f_Machine_key)))
    (i_Machine_key : PySem.W.isFn K (.ref f_Machine_key) = true)
    (l_Machine_key : K.lookup f_Machine_key = some ⟨oc_Machine_key, od_Machine_key, .func (PySem.W.fnOf "key" "Machine.key" (defArgs st_Machine_key) (defBody st_Machine_key) (defScope st_Machine_key) .none kV_Machine_key dc_Machine_key pm_Machine_key an_Machine_key cd_Machine_key ct_Machine_key), sl_Machine_key⟩)
    (c_Machine_key : PySem.W.codeIn K cd_Machine_key "Machine.key" = true)
    (k_Machine_key : PySem.W.keepIn K (.ref f_Machine_key) = true)
    (a_Machine_begin : PySem.W.findIn K (.ref C_Machine) "begin" = some (some (.ref f_Machine_begin)))
    (i_Machine_begin : PySem.W.isFn K (.ref f_Machine_begin) = true)
    (l_Machine_begin : K.lookup f_Machine_begin = some ⟨oc_Machine_begin, od_Machine_begin, .func (PySem.W.fnOf "begin" "Machine.begin" (defArgs st_Machine_begin) (defBody st_Machine_begin) (defScope st_Machine_begin) .none kV_Machine_begin dc_Machine_begin pm_Machine_begin an_Machine_begin cd_Machine_begin ct_Machine_begin), sl_Machine_begin⟩)
    (c_Machine_begin : PySem.W.codeIn K cd_Machine_begin "Machine.begin" = true)
    (k_Machine_begin : PySem.W.keepIn K (.ref f_Machine_begin) = true)
    (a_Machine_ended : PySem.W.findIn K (.ref C_Machine) "ended" = some (some (.ref f_Machine_ended)))
    (i_Machine_ended : PySem.W.isFn K (.ref f_Machine_ended) = true)
    (l_Machine_ended : K.lookup f_Machine_ended = some ⟨oc_Machine_ended, od_Machine_ended, .func (PySem.W.fnOf "ended" "Machine.ended" (defArgs st_Machine_ended) (defBody st_Machine_ended) (defScope st_Machine_ended) .none kV_Machine_ended dc_Machine_ended pm_Machine_ended an_Machine_ended cd_Machine_ended ct_Machine_ended), sl_Machine_ended⟩)
    (c_Machine_ended : PySem.W.codeIn K cd_Machine_ended "Machine.ended" = true)
    (k_Machine_ended : PySem.W.keepIn K (.ref f_Machine_ended) = true)
    (a_Machine_plain : PySem.W.findIn K (.ref C_Machine) "plain" = some (some (.ref f_Machine_plain)))
    (i_Machine_plain : PySem.W.isFn K (.ref f_Machine_plain) = true)
    (l_Machine_plain : K.lookup f_Machine_plain = some ⟨oc_Machine_plain, od_Machine_plain, .func (PySem.W.fnOf "plain" "Machine.plain" (defArgs st_Machine_plain) (defBody st_Machine_plain) (defScope st_Machine_plain) .none kV_Machine_plain dc_Machine_plain pm_Machine_plain an_Machine_plain cd_Machine_plain ct_Machine_plain), sl_Machine_plain⟩)
    (c_Machine_plain : PySem.W.codeIn K cd_Machine_plain "Machine.plain" = true)
    (k_Machine_plain : PySem.W.keepIn K (.ref f_Machine_plain) = true)
    (a_Machine_quoted : PySem.W.findIn K (.ref C_Machine) "quoted" = some (some (.ref f_Machine_quoted)))
    (i_Machine_quoted : PySem.W.isFn K (.ref f_Machine_quoted) = true)
    (l_Machine_quoted : K.lookup f_Machine_quoted = some ⟨oc_Machine_quoted, od_Machine_quoted, .func (PySem.W.fnOf "quoted" "Machine.quoted" (defArgs st_Machine_quoted) (defBody st_Machine_quoted) (defScope st_Machine_quoted) .none kV_Machine_quoted dc_Machine_quoted pm_Machine_quoted an_Machine_quoted cd_Machine_quoted ct_Machine_quoted), sl_Machine_quoted⟩)
    (c_Machine_quoted : PySem.W.codeIn K cd_Machine_quoted "Machine.quoted" = true)
    (k_Machine_quoted : PySem.W.keepIn K (.ref f_Machine_quoted) = true)
    (a_Machine_step : PySem.W.findIn K (.ref C_Machine) "step" = some (some (.ref f_Machine_step)))
    (i_Machine_step : PySem.W.isFn K (.ref f_Machine_step) = true)
    (l_Machine_step : K.lookup f_Machine_step = some ⟨oc_Machine_step, od_Machine_step, .func (PySem.W.fnOf "step" "Machine.step" (defArgs st_Machine_step) (defBody st_Machine_step) (defScope st_Machine_step) .none kV_Machine_step dc_Machine_step pm_Machine_step an_Machine_step cd_Machine_step ct_Machine_step), sl_Machine_step⟩)
    (c_Machine_step : PySem.W.codeIn K cd_Machine_step "Machine.step" = true)
    (k_Machine_step : PySem.W.keepIn K (.ref f_Machine_step) = true)
    (a_Machine_fault : PySem.W.findIn K (.ref C_Machine) "fault" = some (some (.ref f_Machine_fault)))
    (i_Machine_fault : PySem.W.isFn K (.ref f_Machine_fault) = true)
    (l_Machine_fault : K.lookup f_Machine_fault = some ⟨oc_Machine_fault, od_Machine_fault, .func (PySem.W.fnOf "fault" "Machine.fault" (defArgs st_Machine_fault) (defBody st_Machine_fault) (defScope st_Machine_fault) .none kV_Machine_fault dc_Machine_fault pm_Machine_fault an_Machine_fault cd_Machine_fault ct_Machine_fault), sl_Machine_fault⟩)
    (c_Machine_fault : PySem.W.codeIn K cd_Machine_fault "Machine.fault" = true)
    (k_Machine_fault : PySem.W.keepIn K (.ref f_Machine_fault) = true)
    (a_read_all : PySem.W.nsIn K mainGlobals "read_all" = some (some (.ref f_read_all)))
    (l_read_all : K.lookup f_read_all = some ⟨oc_read_all, od_read_all, .func (PySem.W.fnOf "read_all" "read_all" (defArgs st_read_all) (defBody st_read_all) (defScope st_read_all) .none kV_read_all dc_read_all pm_read_all an_read_all cd_read_all ct_read_all), sl_read_all⟩)
    (c_read_all : PySem.W.codeIn K cd_read_all "read_all" = true)
    (k_read_all : PySem.W.keepIn K (.ref f_read_all) = true)
    (a_states_of : PySem.W.nsIn K mainGlobals "states_of" = some (some (.ref f_states_of)))
    (l_states_of : K.lookup f_states_of = some ⟨oc_states_of, od_states_of, .func (PySem.W.fnOf "states_of" "states_of" (defArgs st_states_of) (defBody st_states_of) (defScope st_states_of) .none kV_states_of dc_states_of pm_states_of an_states_of cd_states_of ct_states_of), sl_states_of⟩)
    (c_states_of : PySem.W.codeIn K cd_states_of "states_of" = true)
    (k_states_of : PySem.W.keepIn K (.ref f_states_of) = true)
    (a_cost_of : PySem.W.nsIn K mainGlobals "cost_of" = some (some (.ref f_cost_of)))
    (l_cost_of : K.lookup f_cost_of = some ⟨oc_cost_of, od_cost_of, .func (PySem.W.fnOf "cost_of" "cost_of" (defArgs st_cost_of) (defBody st_cost_of) (defScope st_cost_of) .none kV_cost_of dc_cost_of pm_cost_of an_cost_of cd_cost_of ct_cost_of), sl_cost_of⟩)
    (c_cost_of : PySem.W.codeIn K cd_cost_of "cost_of" = true)
    (k_cost_of : PySem.W.keepIn K (.ref f_cost_of) = true)
    (a_entered : PySem.W.nsIn K mainGlobals "entered" = some (some (.ref f_entered)))
    (l_entered : K.lookup f_entered = some ⟨oc_entered, od_entered, .func (PySem.W.fnOf "entered" "entered" (defArgs st_entered) (defBody st_entered) (defScope st_entered) .none kV_entered dc_entered pm_entered an_entered cd_entered ct_entered), sl_entered⟩)
    (c_entered : PySem.W.codeIn K cd_entered "entered" = true)
    (k_entered : PySem.W.keepIn K (.ref f_entered) = true)
    (a_cannot : PySem.W.nsIn K mainGlobals "cannot" = some (some (.ref f_cannot)))
    (l_cannot : K.lookup f_cannot = some ⟨oc_cannot, od_cannot, .func (PySem.W.fnOf "cannot" "cannot" (defArgs st_cannot) (defBody st_cannot) (defScope st_cannot) .none kV_cannot dc_cannot pm_cannot an_cannot cd_cannot ct_cannot), sl_cannot⟩)
    (c_cannot : PySem.W.codeIn K cd_cannot "cannot" = true)
    (k_cannot : PySem.W.keepIn K (.ref f_cannot) = true)
    (a_heights_of : PySem.W.nsIn K mainGlobals "heights_of" = some (some (.ref f_heights_of)))
    (l_heights_of : K.lookup f_heights_of = some ⟨oc_heights_of, od_heights_of, .func (PySem.W.fnOf "heights_of" "heights_of" (defArgs st_heights_of) (defBody st_heights_of) (defScope st_heights_of) .none kV_heights_of dc_heights_of pm_heights_of an_heights_of cd_heights_of ct_heights_of), sl_heights_of⟩)
    (c_heights_of : PySem.W.codeIn K cd_heights_of "heights_of" = true)
    (k_heights_of : PySem.W.keepIn K (.ref f_heights_of) = true)
    (a_written_by : PySem.W.nsIn K mainGlobals "written_by" = some (some (.ref f_written_by)))
    (l_written_by : K.lookup f_written_by = some ⟨oc_written_by, od_written_by, .func (PySem.W.fnOf "written_by" "written_by" (defArgs st_written_by) (defBody st_written_by) (defScope st_written_by) .none kV_written_by dc_written_by pm_written_by an_written_by cd_written_by ct_written_by), sl_written_by⟩)
    (c_written_by : PySem.W.codeIn K cd_written_by "written_by" = true)
    (k_written_by : PySem.W.keepIn K (.ref f_written_by) = true)
    (a_part_of : PySem.W.nsIn K mainGlobals "part_of" = some (some (.ref f_part_of)))
    (l_part_of : K.lookup f_part_of = some ⟨oc_part_of, od_part_of, .func (PySem.W.fnOf "part_of" "part_of" (defArgs st_part_of) (defBody st_part_of) (defScope st_part_of) .none kV_part_of dc_part_of pm_part_of an_part_of cd_part_of ct_part_of), sl_part_of⟩)
    (c_part_of : PySem.W.codeIn K cd_part_of "part_of" = true)
    (k_part_of : PySem.W.keepIn K (.ref f_part_of) = true)
    (a_few_signs : PySem.W.nsIn K mainGlobals "few_signs" = some (some (.ref f_few_signs)))
    (l_few_signs : K.lookup f_few_signs = some ⟨oc_few_signs, od_few_signs, .func (PySem.W.fnOf "few_signs" "few_signs" (defArgs st_few_signs) (defBody st_few_signs) (defScope st_few_signs) .none kV_few_signs dc_few_signs pm_few_signs an_few_signs cd_few_signs ct_few_signs), sl_few_signs⟩)
    (c_few_signs : PySem.W.codeIn K cd_few_signs "few_signs" = true)
    (k_few_signs : PySem.W.keepIn K (.ref f_few_signs) = true)
    (a_read_alike : PySem.W.nsIn K mainGlobals "read_alike" = some (some (.ref f_read_alike)))
    (l_read_alike : K.lookup f_read_alike = some ⟨oc_read_alike, od_read_alike, .func (PySem.W.fnOf "read_alike" "read_alike" (defArgs st_read_alike) (defBody st_read_alike) (defScope st_read_alike) .none kV_read_alike dc_read_alike pm_read_alike an_read_alike cd_read_alike ct_read_alike), sl_read_alike⟩)
    (c_read_alike : PySem.W.codeIn K cd_read_alike "read_alike" = true)
    (k_read_alike : PySem.W.keepIn K (.ref f_read_alike) = true)
    (a_trail : PySem.W.nsIn K mainGlobals "trail" = some (some (.ref f_trail)))
    (l_trail : K.lookup f_trail = some ⟨oc_trail, od_trail, .func (PySem.W.fnOf "trail" "trail" (defArgs st_trail) (defBody st_trail) (defScope st_trail) .none kV_trail dc_trail pm_trail an_trail cd_trail ct_trail), sl_trail⟩)
    (c_trail : PySem.W.codeIn K cd_trail "trail" = true)
    (k_trail : PySem.W.keepIn K (.ref f_trail) = true)
    (a_marks_of : PySem.W.nsIn K mainGlobals "marks_of" = some (some (.ref f_marks_of)))
    (l_marks_of : K.lookup f_marks_of = some ⟨oc_marks_of, od_marks_of, .func (PySem.W.fnOf "marks_of" "marks_of" (defArgs st_marks_of) (defBody st_marks_of) (defScope st_marks_of) .none kV_marks_of dc_marks_of pm_marks_of an_marks_of cd_marks_of ct_marks_of), sl_marks_of⟩)
    (c_marks_of : PySem.W.codeIn K cd_marks_of "marks_of" = true)
    (k_marks_of : PySem.W.keepIn K (.ref f_marks_of) = true)
    (a_node_of : PySem.W.nsIn K mainGlobals "node_of" = some (some (.ref f_node_of)))
    (l_node_of : K.lookup f_node_of = some ⟨oc_node_of, od_node_of, .func (PySem.W.fnOf "node_of" "node_of" (defArgs st_node_of) (defBody st_node_of) (defScope st_node_of) .none kV_node_of dc_node_of pm_node_of an_node_of cd_node_of ct_node_of), sl_node_of⟩)
    (c_node_of : PySem.W.codeIn K cd_node_of "node_of" = true)
    (k_node_of : PySem.W.keepIn K (.ref f_node_of) = true)
    (a_first_parted : PySem.W.nsIn K mainGlobals "first_parted" = some (some (.ref f_first_parted)))
    (l_first_parted : K.lookup f_first_parted = some ⟨oc_first_parted, od_first_parted, .func (PySem.W.fnOf "first_parted" "first_parted" (defArgs st_first_parted) (defBody st_first_parted) (defScope st_first_parted) .none kV_first_parted dc_first_parted pm_first_parted an_first_parted cd_first_parted ct_first_parted), sl_first_parted⟩)
    (c_first_parted : PySem.W.codeIn K cd_first_parted "first_parted" = true)
    (k_first_parted : PySem.W.keepIn K (.ref f_first_parted) = true)
    (a_Words_init : PySem.W.findIn K (.ref C_Words) "__init__" = some (some (.ref f_Words_init)))
    (i_Words_init : PySem.W.isFn K (.ref f_Words_init) = true)
    (l_Words_init : K.lookup f_Words_init = some ⟨oc_Words_init, od_Words_init, .func (PySem.W.fnOf "__init__" "Words.__init__" (defArgs st_Words_init) (defBody st_Words_init) (defScope st_Words_init) .none kV_Words_init dc_Words_init pm_Words_init an_Words_init cd_Words_init ct_Words_init), sl_Words_init⟩)
    (c_Words_init : PySem.W.codeIn K cd_Words_init "Words.__init__" = true)
    (k_Words_init : PySem.W.keepIn K (.ref f_Words_init) = true)
    (a_Fault_init : PySem.W.findIn K (.ref C_Fault) "__init__" = some (some (.ref f_Fault_init)))
    (i_Fault_init : PySem.W.isFn K (.ref f_Fault_init) = true)
    (l_Fault_init : K.lookup f_Fault_init = some ⟨oc_Fault_init, od_Fault_init, .func (PySem.W.fnOf "__init__" "Fault.__init__" (defArgs st_Fault_init) (defBody st_Fault_init) (defScope st_Fault_init) .none kV_Fault_init dc_Fault_init pm_Fault_init an_Fault_init cd_Fault_init ct_Fault_init), sl_Fault_init⟩)
    (c_Fault_init : PySem.W.codeIn K cd_Fault_init "Fault.__init__" = true)
    (k_Fault_init : PySem.W.keepIn K (.ref f_Fault_init) = true)
    (a_Shortest_init : PySem.W.findIn K (.ref C_Shortest) "__init__" = some (some (.ref f_Shortest_init)))
    (i_Shortest_init : PySem.W.isFn K (.ref f_Shortest_init) = true)
    (l_Shortest_init : K.lookup f_Shortest_init = some ⟨oc_Shortest_init, od_Shortest_init, .func (PySem.W.fnOf "__init__" "Shortest.__init__" (defArgs st_Shortest_init) (defBody st_Shortest_init) (defScope st_Shortest_init) .none kV_Shortest_init dc_Shortest_init pm_Shortest_init an_Shortest_init cd_Shortest_init ct_Shortest_init), sl_Shortest_init⟩)
    (c_Shortest_init : PySem.W.codeIn K cd_Shortest_init "Shortest.__init__" = true)
    (k_Shortest_init : PySem.W.keepIn K (.ref f_Shortest_init) = true)
    (a_Parted_init : PySem.W.findIn K (.ref C_Parted) "__init__" = some (some (.ref f_Parted_init)))
    (i_Parted_init : PySem.W.isFn K (.ref f_Parted_init) = true)
    (l_Parted_init : K.lookup f_Parted_init = some ⟨oc_Parted_init, od_Parted_init, .func (PySem.W.fnOf "__init__" "Parted.__init__" (defArgs st_Parted_init) (defBody st_Parted_init) (defScope st_Parted_init) .none kV_Parted_init dc_Parted_init pm_Parted_init an_Parted_init cd_Parted_init ct_Parted_init), sl_Parted_init⟩)
    (c_Parted_init : PySem.W.codeIn K cd_Parted_init "Parted.__init__" = true)
    (k_Parted_init : PySem.W.keepIn K (.ref f_Parted_init) = true)
    (a_compared : PySem.W.nsIn K mainGlobals "compared" = some (some (.ref f_compared)))
    (l_compared : K.lookup f_compared = some ⟨oc_compared, od_compared, .func (PySem.W.fnOf "compared" "compared" (defArgs st_compared) (defBody st_compared) (defScope st_compared) .none kV_compared dc_compared pm_compared an_compared cd_compared ct_compared), sl_compared⟩)
    (c_compared : PySem.W.codeIn K cd_compared "compared" = true)
    (k_compared : PySem.W.keepIn K (.ref f_compared) = true)
    (a_split : PySem.W.nsIn K mainGlobals "split" = some (some (.ref f_split)))
    (l_split : K.lookup f_split = some ⟨oc_split, od_split, .func (PySem.W.fnOf "split" "split" (defArgs st_split) (defBody st_split) (defScope st_split) .none kV_split dc_split pm_split an_split cd_split ct_split), sl_split⟩)
    (c_split : PySem.W.codeIn K cd_split "split" = true)
    (k_split : PySem.W.keepIn K (.ref f_split) = true)
    (a_Splitter_init : PySem.W.findIn K (.ref C_Splitter) "__init__" = some (some (.ref f_Splitter_init)))
    (i_Splitter_init : PySem.W.isFn K (.ref f_Splitter_init) = true)
    (l_Splitter_init : K.lookup f_Splitter_init = some ⟨oc_Splitter_init, od_Splitter_init, .func (PySem.W.fnOf "__init__" "Splitter.__init__" (defArgs st_Splitter_init) (defBody st_Splitter_init) (defScope st_Splitter_init) .none kV_Splitter_init dc_Splitter_init pm_Splitter_init an_Splitter_init cd_Splitter_init ct_Splitter_init), sl_Splitter_init⟩)
    (c_Splitter_init : PySem.W.codeIn K cd_Splitter_init "Splitter.__init__" = true)
    (k_Splitter_init : PySem.W.keepIn K (.ref f_Splitter_init) = true)
    (a_Splitter_take : PySem.W.findIn K (.ref C_Splitter) "take" = some (some (.ref f_Splitter_take)))
    (i_Splitter_take : PySem.W.isFn K (.ref f_Splitter_take) = true)
    (l_Splitter_take : K.lookup f_Splitter_take = some ⟨oc_Splitter_take, od_Splitter_take, .func (PySem.W.fnOf "take" "Splitter.take" (defArgs st_Splitter_take) (defBody st_Splitter_take) (defScope st_Splitter_take) .none kV_Splitter_take dc_Splitter_take pm_Splitter_take an_Splitter_take cd_Splitter_take ct_Splitter_take), sl_Splitter_take⟩)
    (c_Splitter_take : PySem.W.codeIn K cd_Splitter_take "Splitter.take" = true)
    (k_Splitter_take : PySem.W.keepIn K (.ref f_Splitter_take) = true)
    (a_Splitter_end : PySem.W.findIn K (.ref C_Splitter) "end" = some (some (.ref f_Splitter_end)))
    (i_Splitter_end : PySem.W.isFn K (.ref f_Splitter_end) = true)
    (l_Splitter_end : K.lookup f_Splitter_end = some ⟨oc_Splitter_end, od_Splitter_end, .func (PySem.W.fnOf "end" "Splitter.end" (defArgs st_Splitter_end) (defBody st_Splitter_end) (defScope st_Splitter_end) .none kV_Splitter_end dc_Splitter_end pm_Splitter_end an_Splitter_end cd_Splitter_end ct_Splitter_end), sl_Splitter_end⟩)
    (c_Splitter_end : PySem.W.codeIn K cd_Splitter_end "Splitter.end" = true)
    (k_Splitter_end : PySem.W.keepIn K (.ref f_Splitter_end) = true)
    (a_one_written : PySem.W.nsIn K mainGlobals "one_written" = some (some (.ref f_one_written)))
    (l_one_written : K.lookup f_one_written = some ⟨oc_one_written, od_one_written, .func (PySem.W.fnOf "one_written" "one_written" (defArgs st_one_written) (defBody st_one_written) (defScope st_one_written) .none kV_one_written dc_one_written pm_one_written an_one_written cd_one_written ct_one_written), sl_one_written⟩)
    (c_one_written : PySem.W.codeIn K cd_one_written "one_written" = true)
    (k_one_written : PySem.W.keepIn K (.ref f_one_written) = true)
    (a_shortest : PySem.W.nsIn K mainGlobals "shortest" = some (some (.ref f_shortest)))
    (l_shortest : K.lookup f_shortest = some ⟨oc_shortest, od_shortest, .func (PySem.W.fnOf "shortest" "shortest" (defArgs st_shortest) (defBody st_shortest) (defScope st_shortest) .none kV_shortest dc_shortest pm_shortest an_shortest cd_shortest ct_shortest), sl_shortest⟩)
    (c_shortest : PySem.W.codeIn K cd_shortest "shortest" = true)
    (k_shortest : PySem.W.keepIn K (.ref f_shortest) = true)
    (a__law_kinds : PySem.W.nsIn K mainGlobals "_law_kinds" = some (some (.ref f__law_kinds)))
    (l__law_kinds : K.lookup f__law_kinds = some ⟨oc__law_kinds, od__law_kinds, .func (PySem.W.fnOf "_law_kinds" "_law_kinds" (defArgs st__law_kinds) (defBody st__law_kinds) (defScope st__law_kinds) .none kV__law_kinds dc__law_kinds pm__law_kinds an__law_kinds cd__law_kinds ct__law_kinds), sl__law_kinds⟩)
    (c__law_kinds : PySem.W.codeIn K cd__law_kinds "_law_kinds" = true)
    (k__law_kinds : PySem.W.keepIn K (.ref f__law_kinds) = true)
    (a__law_refused : PySem.W.nsIn K mainGlobals "_law_refused" = some (some (.ref f__law_refused)))
    (l__law_refused : K.lookup f__law_refused = some ⟨oc__law_refused, od__law_refused, .func (PySem.W.fnOf "_law_refused" "_law_refused" (defArgs st__law_refused) (defBody st__law_refused) (defScope st__law_refused) .none kV__law_refused dc__law_refused pm__law_refused an__law_refused cd__law_refused ct__law_refused), sl__law_refused⟩)
    (c__law_refused : PySem.W.codeIn K cd__law_refused "_law_refused" = true)
    (k__law_refused : PySem.W.keepIn K (.ref f__law_refused) = true)
    (a__law_all : PySem.W.nsIn K mainGlobals "_law_all" = some (some (.ref f__law_all)))
    (l__law_all : K.lookup f__law_all = some ⟨oc__law_all, od__law_all, .func (PySem.W.fnOf "_law_all" "_law_all" (defArgs st__law_all) (defBody st__law_all) (defScope st__law_all) .none kV__law_all dc__law_all pm__law_all an__law_all cd__law_all ct__law_all), sl__law_all⟩)
    (c__law_all : PySem.W.codeIn K cd__law_all "_law_all" = true)
    (k__law_all : PySem.W.keepIn K (.ref f__law_all) = true)
    (a__law_rules_right : PySem.W.nsIn K mainGlobals "_law_rules_right" = some (some (.ref f__law_rules_right)))
    (l__law_rules_right : K.lookup f__law_rules_right = some ⟨oc__law_rules_right, od__law_rules_right, .func (PySem.W.fnOf "_law_rules_right" "_law_rules_right" (defArgs st__law_rules_right) (defBody st__law_rules_right) (defScope st__law_rules_right) .none kV__law_rules_right dc__law_rules_right pm__law_rules_right an__law_rules_right (.ref kd__law_rules_right) ct__law_rules_right), sl__law_rules_right⟩)
    (c__law_rules_right : PySem.W.codeIn K (.ref kd__law_rules_right) "_law_rules_right" = true)
    (hK__law_rules_right : PySem.W.codeHdIn K kd__law_rules_right p__law_rules_right = true)
    (nK__law_rules_right : K.lookup p__law_rules_right = none)
    (k__law_rules_right : PySem.W.keepIn K (.ref f__law_rules_right) = true)
    (a__law_texts_right : PySem.W.nsIn K mainGlobals "_law_texts_right" = some (some (.ref f__law_texts_right)))
    (l__law_texts_right : K.lookup f__law_texts_right = some ⟨oc__law_texts_right, od__law_texts_right, .func (PySem.W.fnOf "_law_texts_right" "_law_texts_right" (defArgs st__law_texts_right) (defBody st__law_texts_right) (defScope st__law_texts_right) .none kV__law_texts_right dc__law_texts_right pm__law_texts_right an__law_texts_right (.ref kd__law_texts_right) ct__law_texts_right), sl__law_texts_right⟩)
    (c__law_texts_right : PySem.W.codeIn K (.ref kd__law_texts_right) "_law_texts_right" = true)
    (hK__law_texts_right : PySem.W.codeHdIn K kd__law_texts_right p__law_texts_right = true)
    (nK__law_texts_right : K.lookup p__law_texts_right = none)
    (k__law_texts_right : PySem.W.keepIn K (.ref f__law_texts_right) = true)
    (a__law_words_right : PySem.W.nsIn K mainGlobals "_law_words_right" = some (some (.ref f__law_words_right)))
    (l__law_words_right : K.lookup f__law_words_right = some ⟨oc__law_words_right, od__law_words_right, .func (PySem.W.fnOf "_law_words_right" "_law_words_right" (defArgs st__law_words_right) (defBody st__law_words_right) (defScope st__law_words_right) .none kV__law_words_right dc__law_words_right pm__law_words_right an__law_words_right (.ref kd__law_words_right) ct__law_words_right), sl__law_words_right⟩)
    (c__law_words_right : PySem.W.codeIn K (.ref kd__law_words_right) "_law_words_right" = true)
    (hK__law_words_right : PySem.W.codeHdIn K kd__law_words_right p__law_words_right = true)
    (nK__law_words_right : K.lookup p__law_words_right = none)
    (k__law_words_right : PySem.W.keepIn K (.ref f__law_words_right) = true)
    (a_law : PySem.W.nsIn K mainGlobals "law" = some (some (.ref f_law)))
    (l_law : K.lookup f_law = some ⟨oc_law, od_law, .func (PySem.W.fnOf "law" "law" (defArgs st_law) (defBody st_law) (defScope st_law) .none kV_law dc_law pm_law an_law cd_law ct_law), sl_law⟩)
    (c_law : PySem.W.codeIn K cd_law "law" = true)
    (k_law : PySem.W.keepIn K (.ref f_law) = true)
    (pg_Rules : PySem.W.plainGet K C_Rules Str.empty = true)
    (hd_Rules : PySem.W.hasDictIn K C_Rules = true)
    (po_Rules : PySem.W.plainOver K C_Rules = true)
    (sa_Rules : PySem.W.findIn K (.ref C_Rules) "__setattr__" = some (some (.builtin "object.__setattr__")))
    (mk_Rules : PySem.W.makesIn K C_Rules = true)
    (kc_Rules : PySem.W.keepIn K (.ref C_Rules) = true)
    (n_Rules_breaks : PySem.W.findIn K (.ref C_Rules) "breaks" = some none)
    (n_Rules_hard : PySem.W.findIn K (.ref C_Rules) "hard" = some none)
    (n_Rules_soft : PySem.W.findIn K (.ref C_Rules) "soft" = some none)
    (n_Rules_bend : PySem.W.findIn K (.ref C_Rules) "bend" = some none)
    (n_Rules_note : PySem.W.findIn K (.ref C_Rules) "note" = some none)
    (pg_Machine : PySem.W.plainGet K C_Machine Str.empty = true)
    (hd_Machine : PySem.W.hasDictIn K C_Machine = true)
    (po_Machine : PySem.W.plainOver K C_Machine = true)
    (sa_Machine : PySem.W.findIn K (.ref C_Machine) "__setattr__" = some (some (.builtin "object.__setattr__")))
    (mk_Machine : PySem.W.makesIn K C_Machine = true)
    (kc_Machine : PySem.W.keepIn K (.ref C_Machine) = true)
    (n_Machine_rules : PySem.W.findIn K (.ref C_Machine) "rules" = some none)
    (n_Machine_state : PySem.W.findIn K (.ref C_Machine) "state" = some none)
    (n_Machine_bent : PySem.W.findIn K (.ref C_Machine) "bent" = some none)
    (n_Machine_word : PySem.W.findIn K (.ref C_Machine) "word" = some none)
    (n_Machine_begun : PySem.W.findIn K (.ref C_Machine) "begun" = some none)
    (n_Machine_opened : PySem.W.findIn K (.ref C_Machine) "opened" = some none)
    (n_Machine_place : PySem.W.findIn K (.ref C_Machine) "place" = some none)
    (pg_Words : PySem.W.plainGet K C_Words Str.empty = true)
    (hd_Words : PySem.W.hasDictIn K C_Words = true)
    (po_Words : PySem.W.plainOver K C_Words = true)
    (sa_Words : PySem.W.findIn K (.ref C_Words) "__setattr__" = some (some (.builtin "object.__setattr__")))
    (mk_Words : PySem.W.makesIn K C_Words = true)
    (kc_Words : PySem.W.keepIn K (.ref C_Words) = true)
    (n_Words_words : PySem.W.findIn K (.ref C_Words) "words" = some none)
    (n_Words_places : PySem.W.findIn K (.ref C_Words) "places" = some none)
    (pg_Fault : PySem.W.plainGet K C_Fault Str.empty = true)
    (hd_Fault : PySem.W.hasDictIn K C_Fault = true)
    (po_Fault : PySem.W.plainOver K C_Fault = true)
    (sa_Fault : PySem.W.findIn K (.ref C_Fault) "__setattr__" = some (some (.builtin "object.__setattr__")))
    (mk_Fault : PySem.W.makesIn K C_Fault = true)
    (kc_Fault : PySem.W.keepIn K (.ref C_Fault) = true)
    (n_Fault_place : PySem.W.findIn K (.ref C_Fault) "place" = some none)
    (pg_Shortest : PySem.W.plainGet K C_Shortest Str.empty = true)
    (hd_Shortest : PySem.W.hasDictIn K C_Shortest = true)
    (po_Shortest : PySem.W.plainOver K C_Shortest = true)
    (sa_Shortest : PySem.W.findIn K (.ref C_Shortest) "__setattr__" = some (some (.builtin "object.__setattr__")))
    (mk_Shortest : PySem.W.makesIn K C_Shortest = true)
    (kc_Shortest : PySem.W.keepIn K (.ref C_Shortest) = true)
    (n_Shortest_text : PySem.W.findIn K (.ref C_Shortest) "text" = some none)
    (n_Shortest_heights : PySem.W.findIn K (.ref C_Shortest) "heights" = some none)
    (pg_Parted : PySem.W.plainGet K C_Parted Str.empty = true)
    (hd_Parted : PySem.W.hasDictIn K C_Parted = true)
    (po_Parted : PySem.W.plainOver K C_Parted = true)
    (sa_Parted : PySem.W.findIn K (.ref C_Parted) "__setattr__" = some (some (.builtin "object.__setattr__")))
    (mk_Parted : PySem.W.makesIn K C_Parted = true)
    (kc_Parted : PySem.W.keepIn K (.ref C_Parted) = true)
    (n_Parted_text : PySem.W.findIn K (.ref C_Parted) "text" = some none)
    (pg_Splitter : PySem.W.plainGet K C_Splitter Str.empty = true)
    (hd_Splitter : PySem.W.hasDictIn K C_Splitter = true)
    (po_Splitter : PySem.W.plainOver K C_Splitter = true)
    (sa_Splitter : PySem.W.findIn K (.ref C_Splitter) "__setattr__" = some (some (.builtin "object.__setattr__")))
    (mk_Splitter : PySem.W.makesIn K C_Splitter = true)
    (kc_Splitter : PySem.W.keepIn K (.ref C_Splitter) = true)
    (n_Splitter_machine : PySem.W.findIn K (.ref C_Splitter) "machine" = some none)
    (n_Splitter_found : PySem.W.findIn K (.ref C_Splitter) "found" = some none)
    (n_Splitter_over : PySem.W.findIn K (.ref C_Splitter) "over" = some none)
    (g_LINE_END : PySem.W.nsIn K mainGlobals "LINE_END" = some (some (Value.str ("\n" : Str) t_LINE_END)))
    (g_MOST : PySem.W.nsIn K mainGlobals "MOST" = some (some (.ref a_MOST)))
    (s_MOST : K.lookup a_MOST = some ⟨.type "tuple", od_MOST, .seq #[.int 4 t0_MOST, .int 2 t1_MOST, .int 2 t2_MOST, .int 1 t3_MOST, .int 1 t4_MOST] n_MOST, sl_MOST⟩)
    (g_PLAIN : PySem.W.nsIn K mainGlobals "PLAIN" = some (some (Value.str ("" : Str) t_PLAIN)))
    (g_NOTED : PySem.W.nsIn K mainGlobals "NOTED" = some (some (Value.str ("note" : Str) t_NOTED)))
    (g_LOOSE : PySem.W.nsIn K mainGlobals "LOOSE" = some (some (Value.str ("" : Str) t_LOOSE)))
    (g_FAR_twins : PySem.W.nsIn K mainGlobals "FAR_twins" = some (some (Value.int 8 t_FAR_twins)))
    (g_LETTERS : PySem.W.nsIn K mainGlobals "LETTERS" = some (some (Value.str ("abcdefghijklmnopqrstuvwxyz0123456789" : Str) t_LETTERS)))
    (g_LONGEST : PySem.W.nsIn K mainGlobals "LONGEST" = some (some (Value.int 400 t_LONGEST)))
    (g_MOST_WORDS : PySem.W.nsIn K mainGlobals "MOST_WORDS" = some (some (Value.int 8 t_MOST_WORDS)))
    (g_LONGEST_WORD : PySem.W.nsIn K mainGlobals "LONGEST_WORD" = some (some (Value.int 12 t_LONGEST_WORD)))
    (g_FAR_writing : PySem.W.nsIn K mainGlobals "FAR_writing" = some (some (Value.int 99 t_FAR_writing)))
    (b_ValueError : PySem.W.nsIn K mainGlobals "ValueError" = some none)
    (b_isinstance : PySem.W.nsIn K mainGlobals "isinstance" = some none)
    (b_all : PySem.W.nsIn K mainGlobals "all" = some none)
    (b_any : PySem.W.nsIn K mainGlobals "any" = some none)
    (b_zip : PySem.W.nsIn K mainGlobals "zip" = some none)
    (b_len : PySem.W.nsIn K mainGlobals "len" = some none)
    (b_set : PySem.W.nsIn K mainGlobals "set" = some none)
    (b_str : PySem.W.nsIn K mainGlobals "str" = some none)
    (b_list : PySem.W.nsIn K mainGlobals "list" = some none)
    (b_range : PySem.W.nsIn K mainGlobals "range" = some none)
    (b_max : PySem.W.nsIn K mainGlobals "max" = some none)
    (b_min : PySem.W.nsIn K mainGlobals "min" = some none)
    (b_enumerate : PySem.W.nsIn K mainGlobals "enumerate" = some none)
    (b_abs : PySem.W.nsIn K mainGlobals "abs" = some none)
    (i_Wordsha : PySem.W.findIn K (.ref C_Words) "__class__" = some (some (.builtin "object.__class__")))
    (i_Wordshm : PySem.W.mroIn K C_Words (.type "object") = some true)
    (objGet : PySem.W.specialIn K (.builtin "object.__class__") "__get__" = some (some (.builtin "getset_descriptor.__get__")))
    (objTak : PySem.W.takesIn K (.builtin "object.__class__") = some true)
    (i_Faultha : PySem.W.findIn K (.ref C_Fault) "__class__" = some (some (.builtin "object.__class__")))
    (i_Faulthm : PySem.W.mroIn K C_Fault (.type "object") = some true)
    (m_k_WF : PySem.W.mroIn K C_Words (.ref C_Fault) = some false)
    (ty_Fault : PySem.W.typeIn K (.ref C_Fault) = some (.type "type"))
    (ne_k_WF : (C_Words : Nat) ≠ C_Fault)
    (m_k_WA : PySem.W.mroIn K C_Words (.ref C_Answer) = some true)
    (ty_Answer : PySem.W.typeIn K (.ref C_Answer) = some (.type "type"))
    (hd_Answer : PySem.W.hasDictIn K C_Answer = true)
    (ne_k_WA : (C_Words : Nat) ≠ C_Answer)
    (m_k_FW : PySem.W.mroIn K C_Fault (.ref C_Words) = some false)
    (ty_Words : PySem.W.typeIn K (.ref C_Words) = some (.type "type"))
    (ne_k_FW : (C_Fault : Nat) ≠ C_Words)
    (m_k_FA : PySem.W.mroIn K C_Fault (.ref C_Answer) = some true)
    (ne_k_FA : (C_Fault : Nat) ≠ C_Answer)
    (ea_QuoteError : PySem.W.findIn K (.ref C_QuoteError) "__getattribute__" = some (some (.builtin "BaseException.__getattribute__")))
    (eb_QuoteError : PySem.W.findIn K (.ref C_QuoteError) "__getattr__" = some none)
    (ec_QuoteError : PySem.W.subIn K (.ref C_QuoteError) (.type "BaseException") = some true)
    (ed_QuoteError : PySem.W.hasDictIn K C_QuoteError = true)
    (ee_QuoteError : PySem.W.findIn K (.ref C_QuoteError) "__class__" = some (some (.builtin "object.__class__")))
    (ef_QuoteError : PySem.W.mroIn K C_QuoteError (.type "object") = some true)
    (eh_QuoteError : PySem.W.typeIn K (.ref C_QuoteError) = some (.type "type"))
    (ei_QuoteError : PySem.W.keepIn K (.ref C_QuoteError) = true)
    (es_QuoteError_QuoteError : PySem.W.subIn K (.ref C_QuoteError) (.ref C_QuoteError) = some true)
    (ea_BadRules : PySem.W.findIn K (.ref C_BadRules) "__getattribute__" = some (some (.builtin "BaseException.__getattribute__")))
    (eb_BadRules : PySem.W.findIn K (.ref C_BadRules) "__getattr__" = some none)
    (ec_BadRules : PySem.W.subIn K (.ref C_BadRules) (.type "BaseException") = some true)
    (ed_BadRules : PySem.W.hasDictIn K C_BadRules = true)
    (ee_BadRules : PySem.W.findIn K (.ref C_BadRules) "__class__" = some (some (.builtin "object.__class__")))
    (ef_BadRules : PySem.W.mroIn K C_BadRules (.type "object") = some true)
    (eh_BadRules : PySem.W.typeIn K (.ref C_BadRules) = some (.type "type"))
    (ei_BadRules : PySem.W.keepIn K (.ref C_BadRules) = true)
    (es_BadRules_QuoteError : PySem.W.subIn K (.ref C_BadRules) (.ref C_QuoteError) = some true)
    (es_BadRules_BadText : PySem.W.subIn K (.ref C_BadRules) (.ref C_BadText) = some false)
    (es_BadRules_BadWords : PySem.W.subIn K (.ref C_BadRules) (.ref C_BadWords) = some false)
    (es_BadRules_NoWriting : PySem.W.subIn K (.ref C_BadRules) (.ref C_NoWriting) = some false)
    (es_BadRules_Ended : PySem.W.subIn K (.ref C_BadRules) (.ref C_Ended) = some false)
    (ex_BadRules : PySem.W.excIn K C_BadRules [.type "ValueError", .type "Exception", .type "BaseException", .type "object"] "ValueError.__new__" = true)
    (ea_BadText : PySem.W.findIn K (.ref C_BadText) "__getattribute__" = some (some (.builtin "BaseException.__getattribute__")))
    (eb_BadText : PySem.W.findIn K (.ref C_BadText) "__getattr__" = some none)
    (ec_BadText : PySem.W.subIn K (.ref C_BadText) (.type "BaseException") = some true)
    (ed_BadText : PySem.W.hasDictIn K C_BadText = true)
    (ee_BadText : PySem.W.findIn K (.ref C_BadText) "__class__" = some (some (.builtin "object.__class__")))
    (ef_BadText : PySem.W.mroIn K C_BadText (.type "object") = some true)
    (eh_BadText : PySem.W.typeIn K (.ref C_BadText) = some (.type "type"))
    (ei_BadText : PySem.W.keepIn K (.ref C_BadText) = true)
    (es_BadText_QuoteError : PySem.W.subIn K (.ref C_BadText) (.ref C_QuoteError) = some true)
    (es_BadText_BadRules : PySem.W.subIn K (.ref C_BadText) (.ref C_BadRules) = some false)
    (es_BadText_BadWords : PySem.W.subIn K (.ref C_BadText) (.ref C_BadWords) = some false)
    (es_BadText_NoWriting : PySem.W.subIn K (.ref C_BadText) (.ref C_NoWriting) = some false)
    (es_BadText_Ended : PySem.W.subIn K (.ref C_BadText) (.ref C_Ended) = some false)
    (ex_BadText : PySem.W.excIn K C_BadText [.type "ValueError", .type "Exception", .type "BaseException", .type "object"] "ValueError.__new__" = true)
    (ea_BadWords : PySem.W.findIn K (.ref C_BadWords) "__getattribute__" = some (some (.builtin "BaseException.__getattribute__")))
    (eb_BadWords : PySem.W.findIn K (.ref C_BadWords) "__getattr__" = some none)
    (ec_BadWords : PySem.W.subIn K (.ref C_BadWords) (.type "BaseException") = some true)
    (ed_BadWords : PySem.W.hasDictIn K C_BadWords = true)
    (ee_BadWords : PySem.W.findIn K (.ref C_BadWords) "__class__" = some (some (.builtin "object.__class__")))
    (ef_BadWords : PySem.W.mroIn K C_BadWords (.type "object") = some true)
    (eh_BadWords : PySem.W.typeIn K (.ref C_BadWords) = some (.type "type"))
    (ei_BadWords : PySem.W.keepIn K (.ref C_BadWords) = true)
    (es_BadWords_QuoteError : PySem.W.subIn K (.ref C_BadWords) (.ref C_QuoteError) = some true)
    (es_BadWords_BadRules : PySem.W.subIn K (.ref C_BadWords) (.ref C_BadRules) = some false)
    (es_BadWords_BadText : PySem.W.subIn K (.ref C_BadWords) (.ref C_BadText) = some false)
    (es_BadWords_NoWriting : PySem.W.subIn K (.ref C_BadWords) (.ref C_NoWriting) = some false)
    (es_BadWords_Ended : PySem.W.subIn K (.ref C_BadWords) (.ref C_Ended) = some false)
    (ex_BadWords : PySem.W.excIn K C_BadWords [.type "ValueError", .type "Exception", .type "BaseException", .type "object"] "ValueError.__new__" = true)
    (ea_NoWriting : PySem.W.findIn K (.ref C_NoWriting) "__getattribute__" = some (some (.builtin "BaseException.__getattribute__")))
    (eb_NoWriting : PySem.W.findIn K (.ref C_NoWriting) "__getattr__" = some none)
    (ec_NoWriting : PySem.W.subIn K (.ref C_NoWriting) (.type "BaseException") = some true)
    (ed_NoWriting : PySem.W.hasDictIn K C_NoWriting = true)
    (ee_NoWriting : PySem.W.findIn K (.ref C_NoWriting) "__class__" = some (some (.builtin "object.__class__")))
    (ef_NoWriting : PySem.W.mroIn K C_NoWriting (.type "object") = some true)
    (eh_NoWriting : PySem.W.typeIn K (.ref C_NoWriting) = some (.type "type"))
    (ei_NoWriting : PySem.W.keepIn K (.ref C_NoWriting) = true)
    (es_NoWriting_QuoteError : PySem.W.subIn K (.ref C_NoWriting) (.ref C_QuoteError) = some true)
    (es_NoWriting_BadRules : PySem.W.subIn K (.ref C_NoWriting) (.ref C_BadRules) = some false)
    (es_NoWriting_BadText : PySem.W.subIn K (.ref C_NoWriting) (.ref C_BadText) = some false)
    (es_NoWriting_BadWords : PySem.W.subIn K (.ref C_NoWriting) (.ref C_BadWords) = some false)
    (es_NoWriting_Ended : PySem.W.subIn K (.ref C_NoWriting) (.ref C_Ended) = some false)
    (xL_NoWriting : K.lookup C_NoWriting = some (PySem.excClassObj nmE qE C_NoWriting NE bsE [.ref C_QuoteError, .type "ValueError", .type "Exception", .type "BaseException", .type "object"] true snE subE abE colE ddE m0E m1E m2E m3E m5E "ValueError.__new__"))
    (sa_NoWriting : PySem.W.findIn K (.ref C_NoWriting) "__setattr__" = some (some (.builtin "object.__setattr__")))
    (at_NoWriting : PySem.W.findIn K (.ref C_NoWriting) "at" = some none)
    (ti_NoWriting : PySem.W.typeIn K (.ref f_NoWriting_init) = some (.type "function"))
    (ui_NoWriting : PySem.W.findIn K (.ref C_NoWriting) "__init__" = some (some (.ref f_NoWriting_init)))
    (qr_QuoteError : PySem.W.readsIn K C_QuoteError (.type "type") = true)
    (qg_QuoteError : PySem.W.specialIn K (.ref C_QuoteError) "__getattribute__" = some (some (.builtin "type.__getattribute__")))
    (qv_QuoteError : PySem.W.findCls K (.ref C_QuoteError) (.type "type") "__init__" = some (.val (.builtin "ValueError.__init__")))
    (ea_Ended : PySem.W.findIn K (.ref C_Ended) "__getattribute__" = some (some (.builtin "BaseException.__getattribute__")))
    (eb_Ended : PySem.W.findIn K (.ref C_Ended) "__getattr__" = some none)
    (ec_Ended : PySem.W.subIn K (.ref C_Ended) (.type "BaseException") = some true)
    (ed_Ended : PySem.W.hasDictIn K C_Ended = true)
    (ee_Ended : PySem.W.findIn K (.ref C_Ended) "__class__" = some (some (.builtin "object.__class__")))
    (ef_Ended : PySem.W.mroIn K C_Ended (.type "object") = some true)
    (eh_Ended : PySem.W.typeIn K (.ref C_Ended) = some (.type "type"))
    (ei_Ended : PySem.W.keepIn K (.ref C_Ended) = true)
    (es_Ended_QuoteError : PySem.W.subIn K (.ref C_Ended) (.ref C_QuoteError) = some true)
    (es_Ended_BadRules : PySem.W.subIn K (.ref C_Ended) (.ref C_BadRules) = some false)
    (es_Ended_BadText : PySem.W.subIn K (.ref C_Ended) (.ref C_BadText) = some false)
    (es_Ended_BadWords : PySem.W.subIn K (.ref C_Ended) (.ref C_BadWords) = some false)
    (es_Ended_NoWriting : PySem.W.subIn K (.ref C_Ended) (.ref C_NoWriting) = some false)
    (ex_Ended : PySem.W.excIn K C_Ended [.type "ValueError", .type "Exception", .type "BaseException", .type "object"] "ValueError.__new__" = true)
    (i_Rulesha : PySem.W.findIn K (.ref C_Rules) "__class__" = some (some (.builtin "object.__class__")))
    (i_Ruleshm : PySem.W.mroIn K C_Rules (.type "object") = some true)
    (ne_tab12 : (p__law_rules_right : Nat) ≠ p__law_texts_right)
    (ne_tab13 : (p__law_rules_right : Nat) ≠ p__law_words_right)
    (ne_tab23 : (p__law_texts_right : Nat) ≠ p__law_words_right)
    (xt_Rules : PySem.W.typeIn K (.ref C_Rules) = some (.type "type"))
    (xh_Rules : PySem.W.hasDictIn K C_Rules = true)
    (sv_BadRules : PySem.W.subIn K (.ref C_BadRules) (.type "ValueError") = some true)
    (m_k_e01 : PySem.W.mroIn K C_BadRules (.ref C_BadText) = some false)
    (ty_BadText : PySem.W.typeIn K (.ref C_BadText) = some (.type "type"))
    (hd_BadText : PySem.W.hasDictIn K C_BadText = true)
    (ne_k_e01 : (C_BadRules : Nat) ≠ C_BadText)
    (m_k_e02 : PySem.W.mroIn K C_BadRules (.ref C_BadWords) = some false)
    (ty_BadWords : PySem.W.typeIn K (.ref C_BadWords) = some (.type "type"))
    (hd_BadWords : PySem.W.hasDictIn K C_BadWords = true)
    (ne_k_e02 : (C_BadRules : Nat) ≠ C_BadWords)
    (m_k_e03 : PySem.W.mroIn K C_BadRules (.ref C_NoWriting) = some false)
    (ty_NoWriting : PySem.W.typeIn K (.ref C_NoWriting) = some (.type "type"))
    (hd_NoWriting : PySem.W.hasDictIn K C_NoWriting = true)
    (ne_k_e03 : (C_BadRules : Nat) ≠ C_NoWriting)
    (m_k_e04 : PySem.W.mroIn K C_BadRules (.ref C_Ended) = some false)
    (ty_Ended : PySem.W.typeIn K (.ref C_Ended) = some (.type "type"))
    (hd_Ended : PySem.W.hasDictIn K C_Ended = true)
    (ne_k_e04 : (C_BadRules : Nat) ≠ C_Ended)
    (sv_BadText : PySem.W.subIn K (.ref C_BadText) (.type "ValueError") = some true)
    (m_k_e10 : PySem.W.mroIn K C_BadText (.ref C_BadRules) = some false)
    (ty_BadRules : PySem.W.typeIn K (.ref C_BadRules) = some (.type "type"))
    (hd_BadRules : PySem.W.hasDictIn K C_BadRules = true)
    (ne_k_e10 : (C_BadText : Nat) ≠ C_BadRules)
    (m_k_e12 : PySem.W.mroIn K C_BadText (.ref C_BadWords) = some false)
    (ne_k_e12 : (C_BadText : Nat) ≠ C_BadWords)
    (m_k_e13 : PySem.W.mroIn K C_BadText (.ref C_NoWriting) = some false)
    (ne_k_e13 : (C_BadText : Nat) ≠ C_NoWriting)
    (m_k_e14 : PySem.W.mroIn K C_BadText (.ref C_Ended) = some false)
    (ne_k_e14 : (C_BadText : Nat) ≠ C_Ended)
    (sv_BadWords : PySem.W.subIn K (.ref C_BadWords) (.type "ValueError") = some true)
    (m_k_e20 : PySem.W.mroIn K C_BadWords (.ref C_BadRules) = some false)
    (ne_k_e20 : (C_BadWords : Nat) ≠ C_BadRules)
    (m_k_e21 : PySem.W.mroIn K C_BadWords (.ref C_BadText) = some false)
    (ne_k_e21 : (C_BadWords : Nat) ≠ C_BadText)
    (m_k_e23 : PySem.W.mroIn K C_BadWords (.ref C_NoWriting) = some false)
    (ne_k_e23 : (C_BadWords : Nat) ≠ C_NoWriting)
    (m_k_e24 : PySem.W.mroIn K C_BadWords (.ref C_Ended) = some false)
    (ne_k_e24 : (C_BadWords : Nat) ≠ C_Ended)
    (sv_NoWriting : PySem.W.subIn K (.ref C_NoWriting) (.type "ValueError") = some true)
    (m_k_e30 : PySem.W.mroIn K C_NoWriting (.ref C_BadRules) = some false)
    (ne_k_e30 : (C_NoWriting : Nat) ≠ C_BadRules)
    (m_k_e31 : PySem.W.mroIn K C_NoWriting (.ref C_BadText) = some false)
    (ne_k_e31 : (C_NoWriting : Nat) ≠ C_BadText)
    (m_k_e32 : PySem.W.mroIn K C_NoWriting (.ref C_BadWords) = some false)
    (ne_k_e32 : (C_NoWriting : Nat) ≠ C_BadWords)
    (m_k_e34 : PySem.W.mroIn K C_NoWriting (.ref C_Ended) = some false)
    (ne_k_e34 : (C_NoWriting : Nat) ≠ C_Ended)
    (sv_Ended : PySem.W.subIn K (.ref C_Ended) (.type "ValueError") = some true)
    (m_k_e40 : PySem.W.mroIn K C_Ended (.ref C_BadRules) = some false)
    (ne_k_e40 : (C_Ended : Nat) ≠ C_BadRules)
    (m_k_e41 : PySem.W.mroIn K C_Ended (.ref C_BadText) = some false)
    (ne_k_e41 : (C_Ended : Nat) ≠ C_BadText)
    (m_k_e42 : PySem.W.mroIn K C_Ended (.ref C_BadWords) = some false)
    (ne_k_e42 : (C_Ended : Nat) ≠ C_BadWords)
    (m_k_e43 : PySem.W.mroIn K C_Ended (.ref C_NoWriting) = some false)
    (ne_k_e43 : (C_Ended : Nat) ≠ C_NoWriting)
    : ∃ (fd : FuncData) (sp : Sp) (cs : List (Addr × Addr)), (∀ p ∈ cs, h.get? p.2 = some tab0 ∧ K.lookup p.2 = none ∧ PySem.W.CodeHd h p.1 p.2) ∧ (∀ (s : Shared) (v : Value), BindsTo s fd ⟨[v], []⟩ [("_law_script", v)]) ∧
      (∀ (H : Hp) (a : Addr) (ns : List Int), ns.length ≤ 63 → (∀ p ∈ cs, H p.2 = some (.tbl #[])) → ((∃ o, H a = some (.frz o (.lst (ns.map V.int)))) ∨ SqL K (fun _ => none) a (ns.map V.int)) → sp [.ref a] H (fun v _ => v = .bl true) E0) ∧
      ∀ base : Heap, K.In base → base.Ns mainGlobals mg → (∀ p ∈ cs, TabB base mg p.1 p.2) → FnG P w K mg base 12 fa fd ["_law_script"] sp := by
  have e := hfa.symm.trans (PySem.W.mg_of X G a_law)
  cases e
  have T : Txt K mg { c_QuoteError := C_QuoteError, c_BadRules := C_BadRules, c_BadText := C_BadText, c_BadWords := C_BadWords, c_Ended := C_Ended, c_NoWriting := C_NoWriting, c_Rules := C_Rules, c_Machine := C_Machine, c_Answer := C_Answer, c_Words := C_Words, c_Fault := C_Fault, c_Shortest := C_Shortest, c_Alike := C_Alike, c_Parted := C_Parted, c_Splitter := C_Splitter, f_NoWriting_init := f_NoWriting_init, d_NoWriting_init := PySem.W.fnOf "__init__" "NoWriting.__init__" (defArgs st_NoWriting_init) (defBody st_NoWriting_init) (defScope st_NoWriting_init) .none kV_NoWriting_init dc_NoWriting_init pm_NoWriting_init an_NoWriting_init cd_NoWriting_init ct_NoWriting_init, f_are_signs := f_are_signs, d_are_signs := PySem.W.fnOf "are_signs" "are_signs" (defArgs st_are_signs) (defBody st_are_signs) (defScope st_are_signs) .none kV_are_signs dc_are_signs pm_are_signs an_are_signs cd_are_signs ct_are_signs, f_Rules_init := f_Rules_init, d_Rules_init := PySem.W.fnOf "__init__" "Rules.__init__" (defArgs st_Rules_init) (defBody st_Rules_init) (defScope st_Rules_init) (.ref T_Rules_init) kV_Rules_init dc_Rules_init pm_Rules_init an_Rules_init cd_Rules_init ct_Rules_init, f_Rules_told := f_Rules_told, d_Rules_told := PySem.W.fnOf "told" "Rules.told" (defArgs st_Rules_told) (defBody st_Rules_told) (defScope st_Rules_told) .none kV_Rules_told dc_Rules_told pm_Rules_told an_Rules_told cd_Rules_told ct_Rules_told, f_Rules_quotes := f_Rules_quotes, d_Rules_quotes := PySem.W.fnOf "quotes" "Rules.quotes" (defArgs st_Rules_quotes) (defBody st_Rules_quotes) (defScope st_Rules_quotes) .none kV_Rules_quotes dc_Rules_quotes pm_Rules_quotes an_Rules_quotes cd_Rules_quotes ct_Rules_quotes, f_Rules_special := f_Rules_special, d_Rules_special := PySem.W.fnOf "special" "Rules.special" (defArgs st_Rules_special) (defBody st_Rules_special) (defScope st_Rules_special) .none kV_Rules_special dc_Rules_special pm_Rules_special an_Rules_special cd_Rules_special ct_Rules_special, f_Machine_init := f_Machine_init, d_Machine_init := PySem.W.fnOf "__init__" "Machine.__init__" (defArgs st_Machine_init) (defBody st_Machine_init) (defScope st_Machine_init) .none kV_Machine_init dc_Machine_init pm_Machine_init an_Machine_init cd_Machine_init ct_Machine_init, f_Machine_key := f_Machine_key, d_Machine_key := PySem.W.fnOf "key" "Machine.key" (defArgs st_Machine_key) (defBody st_Machine_key) (defScope st_Machine_key) .none kV_Machine_key dc_Machine_key pm_Machine_key an_Machine_key cd_Machine_key ct_Machine_key, f_Machine_begin := f_Machine_begin, d_Machine_begin := PySem.W.fnOf "begin" "Machine.begin" (defArgs st_Machine_begin) (defBody st_Machine_begin) (defScope st_Machine_begin) .none kV_Machine_begin dc_Machine_begin pm_Machine_begin an_Machine_begin cd_Machine_begin ct_Machine_begin, f_Machine_ended := f_Machine_ended, d_Machine_ended := PySem.W.fnOf "ended" "Machine.ended" (defArgs st_Machine_ended) (defBody st_Machine_ended) (defScope st_Machine_ended) .none kV_Machine_ended dc_Machine_ended pm_Machine_ended an_Machine_ended cd_Machine_ended ct_Machine_ended, f_Machine_plain := f_Machine_plain, d_Machine_plain := PySem.W.fnOf "plain" "Machine.plain" (defArgs st_Machine_plain) (defBody st_Machine_plain) (defScope st_Machine_plain) .none kV_Machine_plain dc_Machine_plain pm_Machine_plain an_Machine_plain cd_Machine_plain ct_Machine_plain, f_Machine_quoted := f_Machine_quoted, d_Machine_quoted := PySem.W.fnOf "quoted" "Machine.quoted" (defArgs st_Machine_quoted) (defBody st_Machine_quoted) (defScope st_Machine_quoted) .none kV_Machine_quoted dc_Machine_quoted pm_Machine_quoted an_Machine_quoted cd_Machine_quoted ct_Machine_quoted, f_Machine_step := f_Machine_step, d_Machine_step := PySem.W.fnOf "step" "Machine.step" (defArgs st_Machine_step) (defBody st_Machine_step) (defScope st_Machine_step) .none kV_Machine_step dc_Machine_step pm_Machine_step an_Machine_step cd_Machine_step ct_Machine_step, f_Machine_fault := f_Machine_fault, d_Machine_fault := PySem.W.fnOf "fault" "Machine.fault" (defArgs st_Machine_fault) (defBody st_Machine_fault) (defScope st_Machine_fault) .none kV_Machine_fault dc_Machine_fault pm_Machine_fault an_Machine_fault cd_Machine_fault ct_Machine_fault, f_read_all := f_read_all, d_read_all := PySem.W.fnOf "read_all" "read_all" (defArgs st_read_all) (defBody st_read_all) (defScope st_read_all) .none kV_read_all dc_read_all pm_read_all an_read_all cd_read_all ct_read_all, f_states_of := f_states_of, d_states_of := PySem.W.fnOf "states_of" "states_of" (defArgs st_states_of) (defBody st_states_of) (defScope st_states_of) .none kV_states_of dc_states_of pm_states_of an_states_of cd_states_of ct_states_of, f_cost_of := f_cost_of, d_cost_of := PySem.W.fnOf "cost_of" "cost_of" (defArgs st_cost_of) (defBody st_cost_of) (defScope st_cost_of) .none kV_cost_of dc_cost_of pm_cost_of an_cost_of cd_cost_of ct_cost_of, f_entered := f_entered, d_entered := PySem.W.fnOf "entered" "entered" (defArgs st_entered) (defBody st_entered) (defScope st_entered) .none kV_entered dc_entered pm_entered an_entered cd_entered ct_entered, f_cannot := f_cannot, d_cannot := PySem.W.fnOf "cannot" "cannot" (defArgs st_cannot) (defBody st_cannot) (defScope st_cannot) .none kV_cannot dc_cannot pm_cannot an_cannot cd_cannot ct_cannot, f_heights_of := f_heights_of, d_heights_of := PySem.W.fnOf "heights_of" "heights_of" (defArgs st_heights_of) (defBody st_heights_of) (defScope st_heights_of) .none kV_heights_of dc_heights_of pm_heights_of an_heights_of cd_heights_of ct_heights_of, f_written_by := f_written_by, d_written_by := PySem.W.fnOf "written_by" "written_by" (defArgs st_written_by) (defBody st_written_by) (defScope st_written_by) .none kV_written_by dc_written_by pm_written_by an_written_by cd_written_by ct_written_by, f_part_of := f_part_of, d_part_of := PySem.W.fnOf "part_of" "part_of" (defArgs st_part_of) (defBody st_part_of) (defScope st_part_of) .none kV_part_of dc_part_of pm_part_of an_part_of cd_part_of ct_part_of, f_few_signs := f_few_signs, d_few_signs := PySem.W.fnOf "few_signs" "few_signs" (defArgs st_few_signs) (defBody st_few_signs) (defScope st_few_signs) .none kV_few_signs dc_few_signs pm_few_signs an_few_signs cd_few_signs ct_few_signs, f_read_alike := f_read_alike, d_read_alike := PySem.W.fnOf "read_alike" "read_alike" (defArgs st_read_alike) (defBody st_read_alike) (defScope st_read_alike) .none kV_read_alike dc_read_alike pm_read_alike an_read_alike cd_read_alike ct_read_alike, f_trail := f_trail, d_trail := PySem.W.fnOf "trail" "trail" (defArgs st_trail) (defBody st_trail) (defScope st_trail) .none kV_trail dc_trail pm_trail an_trail cd_trail ct_trail, f_marks_of := f_marks_of, d_marks_of := PySem.W.fnOf "marks_of" "marks_of" (defArgs st_marks_of) (defBody st_marks_of) (defScope st_marks_of) .none kV_marks_of dc_marks_of pm_marks_of an_marks_of cd_marks_of ct_marks_of, f_node_of := f_node_of, d_node_of := PySem.W.fnOf "node_of" "node_of" (defArgs st_node_of) (defBody st_node_of) (defScope st_node_of) .none kV_node_of dc_node_of pm_node_of an_node_of cd_node_of ct_node_of, f_first_parted := f_first_parted, d_first_parted := PySem.W.fnOf "first_parted" "first_parted" (defArgs st_first_parted) (defBody st_first_parted) (defScope st_first_parted) .none kV_first_parted dc_first_parted pm_first_parted an_first_parted cd_first_parted ct_first_parted, f_Words_init := f_Words_init, d_Words_init := PySem.W.fnOf "__init__" "Words.__init__" (defArgs st_Words_init) (defBody st_Words_init) (defScope st_Words_init) .none kV_Words_init dc_Words_init pm_Words_init an_Words_init cd_Words_init ct_Words_init, f_Fault_init := f_Fault_init, d_Fault_init := PySem.W.fnOf "__init__" "Fault.__init__" (defArgs st_Fault_init) (defBody st_Fault_init) (defScope st_Fault_init) .none kV_Fault_init dc_Fault_init pm_Fault_init an_Fault_init cd_Fault_init ct_Fault_init, f_Shortest_init := f_Shortest_init, d_Shortest_init := PySem.W.fnOf "__init__" "Shortest.__init__" (defArgs st_Shortest_init) (defBody st_Shortest_init) (defScope st_Shortest_init) .none kV_Shortest_init dc_Shortest_init pm_Shortest_init an_Shortest_init cd_Shortest_init ct_Shortest_init, f_Parted_init := f_Parted_init, d_Parted_init := PySem.W.fnOf "__init__" "Parted.__init__" (defArgs st_Parted_init) (defBody st_Parted_init) (defScope st_Parted_init) .none kV_Parted_init dc_Parted_init pm_Parted_init an_Parted_init cd_Parted_init ct_Parted_init, f_compared := f_compared, d_compared := PySem.W.fnOf "compared" "compared" (defArgs st_compared) (defBody st_compared) (defScope st_compared) .none kV_compared dc_compared pm_compared an_compared cd_compared ct_compared, f_split := f_split, d_split := PySem.W.fnOf "split" "split" (defArgs st_split) (defBody st_split) (defScope st_split) .none kV_split dc_split pm_split an_split cd_split ct_split, f_Splitter_init := f_Splitter_init, d_Splitter_init := PySem.W.fnOf "__init__" "Splitter.__init__" (defArgs st_Splitter_init) (defBody st_Splitter_init) (defScope st_Splitter_init) .none kV_Splitter_init dc_Splitter_init pm_Splitter_init an_Splitter_init cd_Splitter_init ct_Splitter_init, f_Splitter_take := f_Splitter_take, d_Splitter_take := PySem.W.fnOf "take" "Splitter.take" (defArgs st_Splitter_take) (defBody st_Splitter_take) (defScope st_Splitter_take) .none kV_Splitter_take dc_Splitter_take pm_Splitter_take an_Splitter_take cd_Splitter_take ct_Splitter_take, f_Splitter_end := f_Splitter_end, d_Splitter_end := PySem.W.fnOf "end" "Splitter.end" (defArgs st_Splitter_end) (defBody st_Splitter_end) (defScope st_Splitter_end) .none kV_Splitter_end dc_Splitter_end pm_Splitter_end an_Splitter_end cd_Splitter_end ct_Splitter_end, f_one_written := f_one_written, d_one_written := PySem.W.fnOf "one_written" "one_written" (defArgs st_one_written) (defBody st_one_written) (defScope st_one_written) .none kV_one_written dc_one_written pm_one_written an_one_written cd_one_written ct_one_written, f_shortest := f_shortest, d_shortest := PySem.W.fnOf "shortest" "shortest" (defArgs st_shortest) (defBody st_shortest) (defScope st_shortest) .none kV_shortest dc_shortest pm_shortest an_shortest cd_shortest ct_shortest, f__law_kinds := f__law_kinds, d__law_kinds := PySem.W.fnOf "_law_kinds" "_law_kinds" (defArgs st__law_kinds) (defBody st__law_kinds) (defScope st__law_kinds) .none kV__law_kinds dc__law_kinds pm__law_kinds an__law_kinds cd__law_kinds ct__law_kinds, f__law_refused := f__law_refused, d__law_refused := PySem.W.fnOf "_law_refused" "_law_refused" (defArgs st__law_refused) (defBody st__law_refused) (defScope st__law_refused) .none kV__law_refused dc__law_refused pm__law_refused an__law_refused cd__law_refused ct__law_refused, f__law_all := f__law_all, d__law_all := PySem.W.fnOf "_law_all" "_law_all" (defArgs st__law_all) (defBody st__law_all) (defScope st__law_all) .none kV__law_all dc__law_all pm__law_all an__law_all cd__law_all ct__law_all, f__law_rules_right := f__law_rules_right, k__law_rules_right := kd__law_rules_right, p__law_rules_right := p__law_rules_right, d__law_rules_right := PySem.W.fnOf "_law_rules_right" "_law_rules_right" (defArgs st__law_rules_right) (defBody st__law_rules_right) (defScope st__law_rules_right) .none kV__law_rules_right dc__law_rules_right pm__law_rules_right an__law_rules_right (.ref kd__law_rules_right) ct__law_rules_right, f__law_texts_right := f__law_texts_right, k__law_texts_right := kd__law_texts_right, p__law_texts_right := p__law_texts_right, d__law_texts_right := PySem.W.fnOf "_law_texts_right" "_law_texts_right" (defArgs st__law_texts_right) (defBody st__law_texts_right) (defScope st__law_texts_right) .none kV__law_texts_right dc__law_texts_right pm__law_texts_right an__law_texts_right (.ref kd__law_texts_right) ct__law_texts_right, f__law_words_right := f__law_words_right, k__law_words_right := kd__law_words_right, p__law_words_right := p__law_words_right, d__law_words_right := PySem.W.fnOf "_law_words_right" "_law_words_right" (defArgs st__law_words_right) (defBody st__law_words_right) (defScope st__law_words_right) .none kV__law_words_right dc__law_words_right pm__law_words_right an__law_words_right (.ref kd__law_words_right) ct__law_words_right, f_law := fa, d_law := PySem.W.fnOf "law" "law" (defArgs st_law) (defBody st_law) (defScope st_law) .none kV_law dc_law pm_law an_law cd_law ct_law, t_LINE_END := t_LINE_END, a_MOST := a_MOST, t_PLAIN := t_PLAIN, t_NOTED := t_NOTED, t_LOOSE := t_LOOSE, t_FAR_twins := t_FAR_twins, t_LETTERS := t_LETTERS, t_LONGEST := t_LONGEST, t_MOST_WORDS := t_MOST_WORDS, t_LONGEST_WORD := t_LONGEST_WORD, t_FAR_writing := t_FAR_writing } := {
    F_NoWriting_init := fun_mk (st := st_NoWriting_init) l_NoWriting_init c_NoWriting_init k_NoWriting_init,
    F_are_signs := fun_mk (st := st_are_signs) l_are_signs c_are_signs k_are_signs,
    f_are_signs := ⟨PySem.W.mg_of X G a_are_signs, k_are_signs⟩,
    F_Rules_init := ⟨⟨_, _, _, _, _, _, _, _, _, _, rfl, l_Rules_init, c_Rules_init, .inr ⟨by decide, T_Rules_init, _, _, _, rfl, d_Rules_init, rfl, .cons ⟨_, rfl⟩ (.cons ⟨_, rfl⟩ (.cons ⟨_, rfl⟩ (.cons ⟨_, rfl⟩ (.cons ⟨_, rfl⟩ (.nil)))))⟩, .inl rfl⟩, k_Rules_init⟩,
    F_Rules_told := fun_mk (st := st_Rules_told) l_Rules_told c_Rules_told k_Rules_told,
    m_Rules_told := ⟨a_Rules_told, i_Rules_told, k_Rules_told⟩,
    F_Rules_quotes := fun_mk (st := st_Rules_quotes) l_Rules_quotes c_Rules_quotes k_Rules_quotes,
    m_Rules_quotes := ⟨a_Rules_quotes, i_Rules_quotes, k_Rules_quotes⟩,
    F_Rules_special := fun_mk (st := st_Rules_special) l_Rules_special c_Rules_special k_Rules_special,
    m_Rules_special := ⟨a_Rules_special, i_Rules_special, k_Rules_special⟩,
    F_Machine_init := fun_mk (st := st_Machine_init) l_Machine_init c_Machine_init k_Machine_init,
    F_Machine_key := fun_mk (st := st_Machine_key) l_Machine_key c_Machine_key k_Machine_key,
    m_Machine_key := ⟨a_Machine_key, i_Machine_key, k_Machine_key⟩,
    F_Machine_begin := fun_mk (st := st_Machine_begin) l_Machine_begin c_Machine_begin k_Machine_begin,
    m_Machine_begin := ⟨a_Machine_begin, i_Machine_begin, k_Machine_begin⟩,
    F_Machine_ended := fun_mk (st := st_Machine_ended) l_Machine_ended c_Machine_ended k_Machine_ended,
    m_Machine_ended := ⟨a_Machine_ended, i_Machine_ended, k_Machine_ended⟩,
    F_Machine_plain := fun_mk (st := st_Machine_plain) l_Machine_plain c_Machine_plain k_Machine_plain,
    m_Machine_plain := ⟨a_Machine_plain, i_Machine_plain, k_Machine_plain⟩,
    F_Machine_quoted := fun_mk (st := st_Machine_quoted) l_Machine_quoted c_Machine_quoted k_Machine_quoted,
    m_Machine_quoted := ⟨a_Machine_quoted, i_Machine_quoted, k_Machine_quoted⟩,
    F_Machine_step := fun_mk (st := st_Machine_step) l_Machine_step c_Machine_step k_Machine_step,
    m_Machine_step := ⟨a_Machine_step, i_Machine_step, k_Machine_step⟩,
    F_Machine_fault := fun_mk (st := st_Machine_fault) l_Machine_fault c_Machine_fault k_Machine_fault,
    m_Machine_fault := ⟨a_Machine_fault, i_Machine_fault, k_Machine_fault⟩,
    F_read_all := fun_mk (st := st_read_all) l_read_all c_read_all k_read_all,
    f_read_all := ⟨PySem.W.mg_of X G a_read_all, k_read_all⟩,
    F_states_of := fun_mk (st := st_states_of) l_states_of c_states_of k_states_of,
    f_states_of := ⟨PySem.W.mg_of X G a_states_of, k_states_of⟩,
    F_cost_of := fun_mk (st := st_cost_of) l_cost_of c_cost_of k_cost_of,
    f_cost_of := ⟨PySem.W.mg_of X G a_cost_of, k_cost_of⟩,
    F_entered := fun_mk (st := st_entered) l_entered c_entered k_entered,
    f_entered := ⟨PySem.W.mg_of X G a_entered, k_entered⟩,
    F_cannot := fun_mk (st := st_cannot) l_cannot c_cannot k_cannot,
    f_cannot := ⟨PySem.W.mg_of X G a_cannot, k_cannot⟩,
    F_heights_of := fun_mk (st := st_heights_of) l_heights_of c_heights_of k_heights_of,
    f_heights_of := ⟨PySem.W.mg_of X G a_heights_of, k_heights_of⟩,
    F_written_by := fun_mk (st := st_written_by) l_written_by c_written_by k_written_by,
    f_written_by := ⟨PySem.W.mg_of X G a_written_by, k_written_by⟩,
    F_part_of := fun_mk (st := st_part_of) l_part_of c_part_of k_part_of,
    f_part_of := ⟨PySem.W.mg_of X G a_part_of, k_part_of⟩,
    F_few_signs := fun_mk (st := st_few_signs) l_few_signs c_few_signs k_few_signs,
    f_few_signs := ⟨PySem.W.mg_of X G a_few_signs, k_few_signs⟩,
    F_read_alike := fun_mk (st := st_read_alike) l_read_alike c_read_alike k_read_alike,
    f_read_alike := ⟨PySem.W.mg_of X G a_read_alike, k_read_alike⟩,
    F_trail := fun_mk (st := st_trail) l_trail c_trail k_trail,
    f_trail := ⟨PySem.W.mg_of X G a_trail, k_trail⟩,
    F_marks_of := fun_mk (st := st_marks_of) l_marks_of c_marks_of k_marks_of,
    f_marks_of := ⟨PySem.W.mg_of X G a_marks_of, k_marks_of⟩,
    F_node_of := fun_mk (st := st_node_of) l_node_of c_node_of k_node_of,
    f_node_of := ⟨PySem.W.mg_of X G a_node_of, k_node_of⟩,
    F_first_parted := fun_mk (st := st_first_parted) l_first_parted c_first_parted k_first_parted,
    f_first_parted := ⟨PySem.W.mg_of X G a_first_parted, k_first_parted⟩,
    F_Words_init := fun_mk (st := st_Words_init) l_Words_init c_Words_init k_Words_init,
    F_Fault_init := fun_mk (st := st_Fault_init) l_Fault_init c_Fault_init k_Fault_init,
    F_Shortest_init := fun_mk (st := st_Shortest_init) l_Shortest_init c_Shortest_init k_Shortest_init,
    F_Parted_init := fun_mk (st := st_Parted_init) l_Parted_init c_Parted_init k_Parted_init,
    F_compared := fun_mk (st := st_compared) l_compared c_compared k_compared,
    f_compared := ⟨PySem.W.mg_of X G a_compared, k_compared⟩,
    F_split := fun_mk (st := st_split) l_split c_split k_split,
    f_split := ⟨PySem.W.mg_of X G a_split, k_split⟩,
    F_Splitter_init := fun_mk (st := st_Splitter_init) l_Splitter_init c_Splitter_init k_Splitter_init,
    F_Splitter_take := fun_mk (st := st_Splitter_take) l_Splitter_take c_Splitter_take k_Splitter_take,
    m_Splitter_take := ⟨a_Splitter_take, i_Splitter_take, k_Splitter_take⟩,
    F_Splitter_end := fun_mk (st := st_Splitter_end) l_Splitter_end c_Splitter_end k_Splitter_end,
    m_Splitter_end := ⟨a_Splitter_end, i_Splitter_end, k_Splitter_end⟩,
    F_one_written := fun_mk (st := st_one_written) l_one_written c_one_written k_one_written,
    f_one_written := ⟨PySem.W.mg_of X G a_one_written, k_one_written⟩,
    F_shortest := fun_mk (st := st_shortest) l_shortest c_shortest k_shortest,
    f_shortest := ⟨PySem.W.mg_of X G a_shortest, k_shortest⟩,
    F__law_kinds := fun_mk (st := st__law_kinds) l__law_kinds c__law_kinds k__law_kinds,
    f__law_kinds := ⟨PySem.W.mg_of X G a__law_kinds, k__law_kinds⟩,
    F__law_refused := fun_mk (st := st__law_refused) l__law_refused c__law_refused k__law_refused,
    f__law_refused := ⟨PySem.W.mg_of X G a__law_refused, k__law_refused⟩,
    F__law_all := fun_mk (st := st__law_all) l__law_all c__law_all k__law_all,
    f__law_all := ⟨PySem.W.mg_of X G a__law_all, k__law_all⟩,
    K__law_rules_right := ⟨_, _, _, _, _, _, _, _, rfl, l__law_rules_right, c__law_rules_right⟩,
    F__law_rules_right := fun_mk (st := st__law_rules_right) l__law_rules_right c__law_rules_right k__law_rules_right,
    f__law_rules_right := ⟨PySem.W.mg_of X G a__law_rules_right, k__law_rules_right⟩,
    K__law_texts_right := ⟨_, _, _, _, _, _, _, _, rfl, l__law_texts_right, c__law_texts_right⟩,
    F__law_texts_right := fun_mk (st := st__law_texts_right) l__law_texts_right c__law_texts_right k__law_texts_right,
    f__law_texts_right := ⟨PySem.W.mg_of X G a__law_texts_right, k__law_texts_right⟩,
    K__law_words_right := ⟨_, _, _, _, _, _, _, _, rfl, l__law_words_right, c__law_words_right⟩,
    F__law_words_right := fun_mk (st := st__law_words_right) l__law_words_right c__law_words_right k__law_words_right,
    f__law_words_right := ⟨PySem.W.mg_of X G a__law_words_right, k__law_words_right⟩,
    F_law := fun_mk (st := st_law) l_law c_law k_law,
    f_law := ⟨PySem.W.mg_of X G a_law, k_law⟩,
    c_Rules := ⟨PySem.W.mg_of X G aC_Rules, ⟨pg_Rules, hd_Rules, po_Rules, sa_Rules⟩, ⟨mk_Rules, a_Rules_init, i_Rules_init, kc_Rules⟩⟩,
    n_Rules_breaks := n_Rules_breaks,
    n_Rules_hard := n_Rules_hard,
    n_Rules_soft := n_Rules_soft,
    n_Rules_bend := n_Rules_bend,
    n_Rules_note := n_Rules_note,
    c_Machine := ⟨PySem.W.mg_of X G aC_Machine, ⟨pg_Machine, hd_Machine, po_Machine, sa_Machine⟩, ⟨mk_Machine, a_Machine_init, i_Machine_init, kc_Machine⟩⟩,
    n_Machine_rules := n_Machine_rules,
    n_Machine_state := n_Machine_state,
    n_Machine_bent := n_Machine_bent,
    n_Machine_word := n_Machine_word,
    n_Machine_begun := n_Machine_begun,
    n_Machine_opened := n_Machine_opened,
    n_Machine_place := n_Machine_place,
    c_Words := ⟨PySem.W.mg_of X G aC_Words, ⟨pg_Words, hd_Words, po_Words, sa_Words⟩, ⟨mk_Words, a_Words_init, i_Words_init, kc_Words⟩⟩,
    n_Words_words := n_Words_words,
    n_Words_places := n_Words_places,
    c_Fault := ⟨PySem.W.mg_of X G aC_Fault, ⟨pg_Fault, hd_Fault, po_Fault, sa_Fault⟩, ⟨mk_Fault, a_Fault_init, i_Fault_init, kc_Fault⟩⟩,
    n_Fault_place := n_Fault_place,
    c_Shortest := ⟨PySem.W.mg_of X G aC_Shortest, ⟨pg_Shortest, hd_Shortest, po_Shortest, sa_Shortest⟩, ⟨mk_Shortest, a_Shortest_init, i_Shortest_init, kc_Shortest⟩⟩,
    n_Shortest_text := n_Shortest_text,
    n_Shortest_heights := n_Shortest_heights,
    c_Parted := ⟨PySem.W.mg_of X G aC_Parted, ⟨pg_Parted, hd_Parted, po_Parted, sa_Parted⟩, ⟨mk_Parted, a_Parted_init, i_Parted_init, kc_Parted⟩⟩,
    n_Parted_text := n_Parted_text,
    c_Splitter := ⟨PySem.W.mg_of X G aC_Splitter, ⟨pg_Splitter, hd_Splitter, po_Splitter, sa_Splitter⟩, ⟨mk_Splitter, a_Splitter_init, i_Splitter_init, kc_Splitter⟩⟩,
    n_Splitter_machine := n_Splitter_machine,
    n_Splitter_found := n_Splitter_found,
    n_Splitter_over := n_Splitter_over,
    g_LINE_END := PySem.W.mg_of X G g_LINE_END,
    g_MOST := PySem.W.mg_of X G g_MOST,
    s_MOST := fun H => .inr ⟨_, _, _, s_MOST, rfl, rfl, (show 5 ≤ sizeLine by decide), .cons ⟨_, rfl⟩ (.cons ⟨_, rfl⟩ (.cons ⟨_, rfl⟩ (.cons ⟨_, rfl⟩ (.cons ⟨_, rfl⟩ (.nil)))))⟩,
    g_PLAIN := PySem.W.mg_of X G g_PLAIN,
    g_NOTED := PySem.W.mg_of X G g_NOTED,
    g_LOOSE := PySem.W.mg_of X G g_LOOSE,
    g_FAR_twins := PySem.W.mg_of X G g_FAR_twins,
    g_LETTERS := PySem.W.mg_of X G g_LETTERS,
    g_LONGEST := PySem.W.mg_of X G g_LONGEST,
    g_MOST_WORDS := PySem.W.mg_of X G g_MOST_WORDS,
    g_LONGEST_WORD := PySem.W.mg_of X G g_LONGEST_WORD,
    g_FAR_writing := PySem.W.mg_of X G g_FAR_writing,
    b_ValueError := PySem.W.mg_none_of X G b_ValueError,
    b_isinstance := PySem.W.mg_none_of X G b_isinstance,
    b_all := PySem.W.mg_none_of X G b_all,
    b_any := PySem.W.mg_none_of X G b_any,
    b_zip := PySem.W.mg_none_of X G b_zip,
    b_len := PySem.W.mg_none_of X G b_len,
    b_set := PySem.W.mg_none_of X G b_set,
    b_str := PySem.W.mg_none_of X G b_str,
    b_list := PySem.W.mg_none_of X G b_list,
    b_range := PySem.W.mg_none_of X G b_range,
    b_max := PySem.W.mg_none_of X G b_max,
    b_min := PySem.W.mg_none_of X G b_min,
    b_enumerate := PySem.W.mg_none_of X G b_enumerate,
    b_abs := PySem.W.mg_none_of X G b_abs,
    c_Answer := ⟨PySem.W.mg_of X G aC_Answer⟩,
    i_Words := ⟨i_Wordsha, objGet, objTak, i_Wordshm⟩,
    i_Fault := ⟨i_Faultha, objGet, objTak, i_Faulthm⟩,
    k_WW := if_pos (beq_self_eq_true _),
    k_WF := kit_own ne_k_WF hd_Fault ty_Fault m_k_WF,
    k_WA := kit_own ne_k_WA hd_Answer ty_Answer m_k_WA,
    k_FF := if_pos (beq_self_eq_true _),
    k_FW := kit_own ne_k_FW hd_Words ty_Words m_k_FW,
    k_FA := kit_own ne_k_FA hd_Answer ty_Answer m_k_FA,
    eg_QuoteError := ⟨PySem.W.mg_of X G aC_QuoteError⟩,
    ea_QuoteError := ea_QuoteError,
    eb_QuoteError := eb_QuoteError,
    ec_QuoteError := ec_QuoteError,
    ed_QuoteError := ed_QuoteError,
    ee_QuoteError := ee_QuoteError,
    ef_QuoteError := ef_QuoteError,
    eh_QuoteError := eh_QuoteError,
    ei_QuoteError := ei_QuoteError,
    es_QuoteError_QuoteError := es_QuoteError_QuoteError,
    eg_BadRules := ⟨PySem.W.mg_of X G aC_BadRules⟩,
    ea_BadRules := ea_BadRules,
    eb_BadRules := eb_BadRules,
    ec_BadRules := ec_BadRules,
    ed_BadRules := ed_BadRules,
    ee_BadRules := ee_BadRules,
    ef_BadRules := ef_BadRules,
    eh_BadRules := eh_BadRules,
    ei_BadRules := ei_BadRules,
    es_BadRules_QuoteError := es_BadRules_QuoteError,
    es_BadRules_BadText := es_BadRules_BadText,
    es_BadRules_BadWords := es_BadRules_BadWords,
    es_BadRules_NoWriting := es_BadRules_NoWriting,
    es_BadRules_Ended := es_BadRules_Ended,
    ex_BadRules := ex_BadRules,
    eg_BadText := ⟨PySem.W.mg_of X G aC_BadText⟩,
    ea_BadText := ea_BadText,
    eb_BadText := eb_BadText,
    ec_BadText := ec_BadText,
    ed_BadText := ed_BadText,
    ee_BadText := ee_BadText,
    ef_BadText := ef_BadText,
    eh_BadText := eh_BadText,
    ei_BadText := ei_BadText,
    es_BadText_QuoteError := es_BadText_QuoteError,
    es_BadText_BadRules := es_BadText_BadRules,
    es_BadText_BadWords := es_BadText_BadWords,
    es_BadText_NoWriting := es_BadText_NoWriting,
    es_BadText_Ended := es_BadText_Ended,
    ex_BadText := ex_BadText,
    eg_BadWords := ⟨PySem.W.mg_of X G aC_BadWords⟩,
    ea_BadWords := ea_BadWords,
    eb_BadWords := eb_BadWords,
    ec_BadWords := ec_BadWords,
    ed_BadWords := ed_BadWords,
    ee_BadWords := ee_BadWords,
    ef_BadWords := ef_BadWords,
    eh_BadWords := eh_BadWords,
    ei_BadWords := ei_BadWords,
    es_BadWords_QuoteError := es_BadWords_QuoteError,
    es_BadWords_BadRules := es_BadWords_BadRules,
    es_BadWords_BadText := es_BadWords_BadText,
    es_BadWords_NoWriting := es_BadWords_NoWriting,
    es_BadWords_Ended := es_BadWords_Ended,
    ex_BadWords := ex_BadWords,
    eg_NoWriting := ⟨PySem.W.mg_of X G aC_NoWriting⟩,
    ea_NoWriting := ea_NoWriting,
    eb_NoWriting := eb_NoWriting,
    ec_NoWriting := ec_NoWriting,
    ed_NoWriting := ed_NoWriting,
    ee_NoWriting := ee_NoWriting,
    ef_NoWriting := ef_NoWriting,
    eh_NoWriting := eh_NoWriting,
    ei_NoWriting := ei_NoWriting,
    es_NoWriting_QuoteError := es_NoWriting_QuoteError,
    es_NoWriting_BadRules := es_NoWriting_BadRules,
    es_NoWriting_BadText := es_NoWriting_BadText,
    es_NoWriting_BadWords := es_NoWriting_BadWords,
    es_NoWriting_Ended := es_NoWriting_Ended,
    xc_NoWriting := ⟨nmE, qE, NE, bsE, _, snE, subE, abE, colE, ddE, m0E, m1E, m2E, m3E, m5E, xL_NoWriting, by first | rfl | kernel_rfl⟩,
    sa_NoWriting := sa_NoWriting,
    at_NoWriting := at_NoWriting,
    ti_NoWriting := ti_NoWriting,
    ui_NoWriting := ui_NoWriting,
    qr_QuoteError := qr_QuoteError,
    qg_QuoteError := qg_QuoteError,
    qv_QuoteError := qv_QuoteError,
    eg_Ended := ⟨PySem.W.mg_of X G aC_Ended⟩,
    ea_Ended := ea_Ended,
    eb_Ended := eb_Ended,
    ec_Ended := ec_Ended,
    ed_Ended := ed_Ended,
    ee_Ended := ee_Ended,
    ef_Ended := ef_Ended,
    eh_Ended := eh_Ended,
    ei_Ended := ei_Ended,
    es_Ended_QuoteError := es_Ended_QuoteError,
    es_Ended_BadRules := es_Ended_BadRules,
    es_Ended_BadText := es_Ended_BadText,
    es_Ended_BadWords := es_Ended_BadWords,
    es_Ended_NoWriting := es_Ended_NoWriting,
    ex_Ended := ex_Ended,
    i_Rules := ⟨i_Rulesha, objGet, objTak, i_Ruleshm⟩,
    ne_tab12 := ne_tab12,
    ne_tab13 := ne_tab13,
    ne_tab23 := ne_tab23,
    xt_Rules := xt_Rules,
    xh_Rules := xh_Rules,
    k_RR := if_pos (beq_self_eq_true _),
    sv_BadRules := sv_BadRules,
    k_e00 := if_pos (beq_self_eq_true _),
    k_e01 := kit_own ne_k_e01 hd_BadText ty_BadText m_k_e01,
    k_e02 := kit_own ne_k_e02 hd_BadWords ty_BadWords m_k_e02,
    k_e03 := kit_own ne_k_e03 hd_NoWriting ty_NoWriting m_k_e03,
    k_e04 := kit_own ne_k_e04 hd_Ended ty_Ended m_k_e04,
    sv_BadText := sv_BadText,
    k_e10 := kit_own ne_k_e10 hd_BadRules ty_BadRules m_k_e10,
    k_e11 := if_pos (beq_self_eq_true _),
    k_e12 := kit_own ne_k_e12 hd_BadWords ty_BadWords m_k_e12,
    k_e13 := kit_own ne_k_e13 hd_NoWriting ty_NoWriting m_k_e13,
    k_e14 := kit_own ne_k_e14 hd_Ended ty_Ended m_k_e14,
    sv_BadWords := sv_BadWords,
    k_e20 := kit_own ne_k_e20 hd_BadRules ty_BadRules m_k_e20,
    k_e21 := kit_own ne_k_e21 hd_BadText ty_BadText m_k_e21,
    k_e22 := if_pos (beq_self_eq_true _),
    k_e23 := kit_own ne_k_e23 hd_NoWriting ty_NoWriting m_k_e23,
    k_e24 := kit_own ne_k_e24 hd_Ended ty_Ended m_k_e24,
    sv_NoWriting := sv_NoWriting,
    k_e30 := kit_own ne_k_e30 hd_BadRules ty_BadRules m_k_e30,
    k_e31 := kit_own ne_k_e31 hd_BadText ty_BadText m_k_e31,
    k_e32 := kit_own ne_k_e32 hd_BadWords ty_BadWords m_k_e32,
    k_e33 := if_pos (beq_self_eq_true _),
    k_e34 := kit_own ne_k_e34 hd_Ended ty_Ended m_k_e34,
    sv_Ended := sv_Ended,
    k_e40 := kit_own ne_k_e40 hd_BadRules ty_BadRules m_k_e40,
    k_e41 := kit_own ne_k_e41 hd_BadText ty_BadText m_k_e41,
    k_e42 := kit_own ne_k_e42 hd_BadWords ty_BadWords m_k_e42,
    k_e43 := kit_own ne_k_e43 hd_NoWriting ty_NoWriting m_k_e43,
    k_e44 := if_pos (beq_self_eq_true _) }
  refine ⟨_, sp_law K { c_QuoteError := C_QuoteError, c_BadRules := C_BadRules, c_BadText := C_BadText, c_BadWords := C_BadWords, c_Ended := C_Ended, c_NoWriting := C_NoWriting, c_Rules := C_Rules, c_Machine := C_Machine, c_Answer := C_Answer, c_Words := C_Words, c_Fault := C_Fault, c_Shortest := C_Shortest, c_Alike := C_Alike, c_Parted := C_Parted, c_Splitter := C_Splitter, f_NoWriting_init := f_NoWriting_init, d_NoWriting_init := PySem.W.fnOf "__init__" "NoWriting.__init__" (defArgs st_NoWriting_init) (defBody st_NoWriting_init) (defScope st_NoWriting_init) .none kV_NoWriting_init dc_NoWriting_init pm_NoWriting_init an_NoWriting_init cd_NoWriting_init ct_NoWriting_init, f_are_signs := f_are_signs, d_are_signs := PySem.W.fnOf "are_signs" "are_signs" (defArgs st_are_signs) (defBody st_are_signs) (defScope st_are_signs) .none kV_are_signs dc_are_signs pm_are_signs an_are_signs cd_are_signs ct_are_signs, f_Rules_init := f_Rules_init, d_Rules_init := PySem.W.fnOf "__init__" "Rules.__init__" (defArgs st_Rules_init) (defBody st_Rules_init) (defScope st_Rules_init) (.ref T_Rules_init) kV_Rules_init dc_Rules_init pm_Rules_init an_Rules_init cd_Rules_init ct_Rules_init, f_Rules_told := f_Rules_told, d_Rules_told := PySem.W.fnOf "told" "Rules.told" (defArgs st_Rules_told) (defBody st_Rules_told) (defScope st_Rules_told) .none kV_Rules_told dc_Rules_told pm_Rules_told an_Rules_told cd_Rules_told ct_Rules_told, f_Rules_quotes := f_Rules_quotes, d_Rules_quotes := PySem.W.fnOf "quotes" "Rules.quotes" (defArgs st_Rules_quotes) (defBody st_Rules_quotes) (defScope st_Rules_quotes) .none kV_Rules_quotes dc_Rules_quotes pm_Rules_quotes an_Rules_quotes cd_Rules_quotes ct_Rules_quotes, f_Rules_special := f_Rules_special, d_Rules_special := PySem.W.fnOf "special" "Rules.special" (defArgs st_Rules_special) (defBody st_Rules_special) (defScope st_Rules_special) .none kV_Rules_special dc_Rules_special pm_Rules_special an_Rules_special cd_Rules_special ct_Rules_special, f_Machine_init := f_Machine_init, d_Machine_init := PySem.W.fnOf "__init__" "Machine.__init__" (defArgs st_Machine_init) (defBody st_Machine_init) (defScope st_Machine_init) .none kV_Machine_init dc_Machine_init pm_Machine_init an_Machine_init cd_Machine_init ct_Machine_init, f_Machine_key := f_Machine_key, d_Machine_key := PySem.W.fnOf "key" "Machine.key" (defArgs st_Machine_key) (defBody st_Machine_key) (defScope st_Machine_key) .none kV_Machine_key dc_Machine_key pm_Machine_key an_Machine_key cd_Machine_key ct_Machine_key, f_Machine_begin := f_Machine_begin, d_Machine_begin := PySem.W.fnOf "begin" "Machine.begin" (defArgs st_Machine_begin) (defBody st_Machine_begin) (defScope st_Machine_begin) .none kV_Machine_begin dc_Machine_begin pm_Machine_begin an_Machine_begin cd_Machine_begin ct_Machine_begin, f_Machine_ended := f_Machine_ended, d_Machine_ended := PySem.W.fnOf "ended" "Machine.ended" (defArgs st_Machine_ended) (defBody st_Machine_ended) (defScope st_Machine_ended) .none kV_Machine_ended dc_Machine_ended pm_Machine_ended an_Machine_ended cd_Machine_ended ct_Machine_ended, f_Machine_plain := f_Machine_plain, d_Machine_plain := PySem.W.fnOf "plain" "Machine.plain" (defArgs st_Machine_plain) (defBody st_Machine_plain) (defScope st_Machine_plain) .none kV_Machine_plain dc_Machine_plain pm_Machine_plain an_Machine_plain cd_Machine_plain ct_Machine_plain, f_Machine_quoted := f_Machine_quoted, d_Machine_quoted := PySem.W.fnOf "quoted" "Machine.quoted" (defArgs st_Machine_quoted) (defBody st_Machine_quoted) (defScope st_Machine_quoted) .none kV_Machine_quoted dc_Machine_quoted pm_Machine_quoted an_Machine_quoted cd_Machine_quoted ct_Machine_quoted, f_Machine_step := f_Machine_step, d_Machine_step := PySem.W.fnOf "step" "Machine.step" (defArgs st_Machine_step) (defBody st_Machine_step) (defScope st_Machine_step) .none kV_Machine_step dc_Machine_step pm_Machine_step an_Machine_step cd_Machine_step ct_Machine_step, f_Machine_fault := f_Machine_fault, d_Machine_fault := PySem.W.fnOf "fault" "Machine.fault" (defArgs st_Machine_fault) (defBody st_Machine_fault) (defScope st_Machine_fault) .none kV_Machine_fault dc_Machine_fault pm_Machine_fault an_Machine_fault cd_Machine_fault ct_Machine_fault, f_read_all := f_read_all, d_read_all := PySem.W.fnOf "read_all" "read_all" (defArgs st_read_all) (defBody st_read_all) (defScope st_read_all) .none kV_read_all dc_read_all pm_read_all an_read_all cd_read_all ct_read_all, f_states_of := f_states_of, d_states_of := PySem.W.fnOf "states_of" "states_of" (defArgs st_states_of) (defBody st_states_of) (defScope st_states_of) .none kV_states_of dc_states_of pm_states_of an_states_of cd_states_of ct_states_of, f_cost_of := f_cost_of, d_cost_of := PySem.W.fnOf "cost_of" "cost_of" (defArgs st_cost_of) (defBody st_cost_of) (defScope st_cost_of) .none kV_cost_of dc_cost_of pm_cost_of an_cost_of cd_cost_of ct_cost_of, f_entered := f_entered, d_entered := PySem.W.fnOf "entered" "entered" (defArgs st_entered) (defBody st_entered) (defScope st_entered) .none kV_entered dc_entered pm_entered an_entered cd_entered ct_entered, f_cannot := f_cannot, d_cannot := PySem.W.fnOf "cannot" "cannot" (defArgs st_cannot) (defBody st_cannot) (defScope st_cannot) .none kV_cannot dc_cannot pm_cannot an_cannot cd_cannot ct_cannot, f_heights_of := f_heights_of, d_heights_of := PySem.W.fnOf "heights_of" "heights_of" (defArgs st_heights_of) (defBody st_heights_of) (defScope st_heights_of) .none kV_heights_of dc_heights_of pm_heights_of an_heights_of cd_heights_of ct_heights_of, f_written_by := f_written_by, d_written_by := PySem.W.fnOf "written_by" "written_by" (defArgs st_written_by) (defBody st_written_by) (defScope st_written_by) .none kV_written_by dc_written_by pm_written_by an_written_by cd_written_by ct_written_by, f_part_of := f_part_of, d_part_of := PySem.W.fnOf "part_of" "part_of" (defArgs st_part_of) (defBody st_part_of) (defScope st_part_of) .none kV_part_of dc_part_of pm_part_of an_part_of cd_part_of ct_part_of, f_few_signs := f_few_signs, d_few_signs := PySem.W.fnOf "few_signs" "few_signs" (defArgs st_few_signs) (defBody st_few_signs) (defScope st_few_signs) .none kV_few_signs dc_few_signs pm_few_signs an_few_signs cd_few_signs ct_few_signs, f_read_alike := f_read_alike, d_read_alike := PySem.W.fnOf "read_alike" "read_alike" (defArgs st_read_alike) (defBody st_read_alike) (defScope st_read_alike) .none kV_read_alike dc_read_alike pm_read_alike an_read_alike cd_read_alike ct_read_alike, f_trail := f_trail, d_trail := PySem.W.fnOf "trail" "trail" (defArgs st_trail) (defBody st_trail) (defScope st_trail) .none kV_trail dc_trail pm_trail an_trail cd_trail ct_trail, f_marks_of := f_marks_of, d_marks_of := PySem.W.fnOf "marks_of" "marks_of" (defArgs st_marks_of) (defBody st_marks_of) (defScope st_marks_of) .none kV_marks_of dc_marks_of pm_marks_of an_marks_of cd_marks_of ct_marks_of, f_node_of := f_node_of, d_node_of := PySem.W.fnOf "node_of" "node_of" (defArgs st_node_of) (defBody st_node_of) (defScope st_node_of) .none kV_node_of dc_node_of pm_node_of an_node_of cd_node_of ct_node_of, f_first_parted := f_first_parted, d_first_parted := PySem.W.fnOf "first_parted" "first_parted" (defArgs st_first_parted) (defBody st_first_parted) (defScope st_first_parted) .none kV_first_parted dc_first_parted pm_first_parted an_first_parted cd_first_parted ct_first_parted, f_Words_init := f_Words_init, d_Words_init := PySem.W.fnOf "__init__" "Words.__init__" (defArgs st_Words_init) (defBody st_Words_init) (defScope st_Words_init) .none kV_Words_init dc_Words_init pm_Words_init an_Words_init cd_Words_init ct_Words_init, f_Fault_init := f_Fault_init, d_Fault_init := PySem.W.fnOf "__init__" "Fault.__init__" (defArgs st_Fault_init) (defBody st_Fault_init) (defScope st_Fault_init) .none kV_Fault_init dc_Fault_init pm_Fault_init an_Fault_init cd_Fault_init ct_Fault_init, f_Shortest_init := f_Shortest_init, d_Shortest_init := PySem.W.fnOf "__init__" "Shortest.__init__" (defArgs st_Shortest_init) (defBody st_Shortest_init) (defScope st_Shortest_init) .none kV_Shortest_init dc_Shortest_init pm_Shortest_init an_Shortest_init cd_Shortest_init ct_Shortest_init, f_Parted_init := f_Parted_init, d_Parted_init := PySem.W.fnOf "__init__" "Parted.__init__" (defArgs st_Parted_init) (defBody st_Parted_init) (defScope st_Parted_init) .none kV_Parted_init dc_Parted_init pm_Parted_init an_Parted_init cd_Parted_init ct_Parted_init, f_compared := f_compared, d_compared := PySem.W.fnOf "compared" "compared" (defArgs st_compared) (defBody st_compared) (defScope st_compared) .none kV_compared dc_compared pm_compared an_compared cd_compared ct_compared, f_split := f_split, d_split := PySem.W.fnOf "split" "split" (defArgs st_split) (defBody st_split) (defScope st_split) .none kV_split dc_split pm_split an_split cd_split ct_split, f_Splitter_init := f_Splitter_init, d_Splitter_init := PySem.W.fnOf "__init__" "Splitter.__init__" (defArgs st_Splitter_init) (defBody st_Splitter_init) (defScope st_Splitter_init) .none kV_Splitter_init dc_Splitter_init pm_Splitter_init an_Splitter_init cd_Splitter_init ct_Splitter_init, f_Splitter_take := f_Splitter_take, d_Splitter_take := PySem.W.fnOf "take" "Splitter.take" (defArgs st_Splitter_take) (defBody st_Splitter_take) (defScope st_Splitter_take) .none kV_Splitter_take dc_Splitter_take pm_Splitter_take an_Splitter_take cd_Splitter_take ct_Splitter_take, f_Splitter_end := f_Splitter_end, d_Splitter_end := PySem.W.fnOf "end" "Splitter.end" (defArgs st_Splitter_end) (defBody st_Splitter_end) (defScope st_Splitter_end) .none kV_Splitter_end dc_Splitter_end pm_Splitter_end an_Splitter_end cd_Splitter_end ct_Splitter_end, f_one_written := f_one_written, d_one_written := PySem.W.fnOf "one_written" "one_written" (defArgs st_one_written) (defBody st_one_written) (defScope st_one_written) .none kV_one_written dc_one_written pm_one_written an_one_written cd_one_written ct_one_written, f_shortest := f_shortest, d_shortest := PySem.W.fnOf "shortest" "shortest" (defArgs st_shortest) (defBody st_shortest) (defScope st_shortest) .none kV_shortest dc_shortest pm_shortest an_shortest cd_shortest ct_shortest, f__law_kinds := f__law_kinds, d__law_kinds := PySem.W.fnOf "_law_kinds" "_law_kinds" (defArgs st__law_kinds) (defBody st__law_kinds) (defScope st__law_kinds) .none kV__law_kinds dc__law_kinds pm__law_kinds an__law_kinds cd__law_kinds ct__law_kinds, f__law_refused := f__law_refused, d__law_refused := PySem.W.fnOf "_law_refused" "_law_refused" (defArgs st__law_refused) (defBody st__law_refused) (defScope st__law_refused) .none kV__law_refused dc__law_refused pm__law_refused an__law_refused cd__law_refused ct__law_refused, f__law_all := f__law_all, d__law_all := PySem.W.fnOf "_law_all" "_law_all" (defArgs st__law_all) (defBody st__law_all) (defScope st__law_all) .none kV__law_all dc__law_all pm__law_all an__law_all cd__law_all ct__law_all, f__law_rules_right := f__law_rules_right, k__law_rules_right := kd__law_rules_right, p__law_rules_right := p__law_rules_right, d__law_rules_right := PySem.W.fnOf "_law_rules_right" "_law_rules_right" (defArgs st__law_rules_right) (defBody st__law_rules_right) (defScope st__law_rules_right) .none kV__law_rules_right dc__law_rules_right pm__law_rules_right an__law_rules_right (.ref kd__law_rules_right) ct__law_rules_right, f__law_texts_right := f__law_texts_right, k__law_texts_right := kd__law_texts_right, p__law_texts_right := p__law_texts_right, d__law_texts_right := PySem.W.fnOf "_law_texts_right" "_law_texts_right" (defArgs st__law_texts_right) (defBody st__law_texts_right) (defScope st__law_texts_right) .none kV__law_texts_right dc__law_texts_right pm__law_texts_right an__law_texts_right (.ref kd__law_texts_right) ct__law_texts_right, f__law_words_right := f__law_words_right, k__law_words_right := kd__law_words_right, p__law_words_right := p__law_words_right, d__law_words_right := PySem.W.fnOf "_law_words_right" "_law_words_right" (defArgs st__law_words_right) (defBody st__law_words_right) (defScope st__law_words_right) .none kV__law_words_right dc__law_words_right pm__law_words_right an__law_words_right (.ref kd__law_words_right) ct__law_words_right, f_law := fa, d_law := PySem.W.fnOf "law" "law" (defArgs st_law) (defBody st_law) (defScope st_law) .none kV_law dc_law pm_law an_law cd_law ct_law, t_LINE_END := t_LINE_END, a_MOST := a_MOST, t_PLAIN := t_PLAIN, t_NOTED := t_NOTED, t_LOOSE := t_LOOSE, t_FAR_twins := t_FAR_twins, t_LETTERS := t_LETTERS, t_LONGEST := t_LONGEST, t_MOST_WORDS := t_MOST_WORDS, t_LONGEST_WORD := t_LONGEST_WORD, t_FAR_writing := t_FAR_writing }, [(kd__law_rules_right, p__law_rules_right), (kd__law_texts_right, p__law_texts_right), (kd__law_words_right, p__law_words_right)], ?_, fun s v => .of_eq rfl, fun H a ns hl ht hs => ⟨ns, a, rfl, hs, TabS.nil (ht (kd__law_rules_right, p__law_rules_right) (by simp)), TabS.nil (ht (kd__law_texts_right, p__law_texts_right) (by simp)), TabS.nil (ht (kd__law_words_right, p__law_words_right) (by simp)), hl, fun _ => rfl⟩, fun base _ _ TB => ok_law T (TB (kd__law_rules_right, p__law_rules_right) (by simp)) (TB (kd__law_texts_right, p__law_texts_right) (by simp)) (TB (kd__law_words_right, p__law_words_right) (by simp))⟩
  intro p hp
  simp only [List.mem_cons, List.not_mem_nil, or_false] at hp
  rcases hp with rfl | rfl | rfl
  · exact ⟨hts _ (by simp), nK__law_rules_right, PySem.W.codeHd_of_K X hK__law_rules_right⟩
  · exact ⟨hts _ (by simp), nK__law_texts_right, PySem.W.codeHd_of_K X hK__law_texts_right⟩
  · exact ⟨hts _ (by simp), nK__law_words_right, PySem.W.codeHd_of_K X hK__law_words_right⟩
theorem walk {l : PySem.W.OpenLaw} {q : Program} {loose : List Str} {XP : (Str → Option Value) → Heap → Prop} {YP : World → Heap → Prop} {d : DefRec} {K : Params → PySem.W.Frag} {ts : List Addr} (hn : l.most = some 63)
    (hdf : d.params.defaults = []) (hY : ∀ (w : World) (h : Heap), YP w h → (K w.params).In h) (hT : ∀ (w : World) (h : Heap), YP w h → ∀ P ∈ ts, h.get? P = some tab0)
    (F : ∀ (w : World) (mg : Str → Option Value) (fa : Addr) (h : Heap), (K w.params).In h → (∀ P ∈ ts, h.get? P = some tab0) → h.Ns mainGlobals mg → mg d.name = some (.ref fa) →
      ∃ (fd : FuncData) (sp : Sp) (cs : List (Addr × Addr)), (∀ p ∈ cs, h.get? p.2 = some tab0 ∧ (K w.params).lookup p.2 = none ∧ PySem.W.CodeHd h p.1 p.2) ∧ (∀ (s : Shared) (v : Value), BindsTo s fd ⟨[v], []⟩ [("_law_script", v)]) ∧
      (∀ (H : Hp) (a : Addr) (ns : List Int), ns.length ≤ 63 → (∀ p ∈ cs, H p.2 = some (.tbl #[])) → ((∃ o, H a = some (.frz o (.lst (ns.map V.int)))) ∨ SqL (K w.params) (fun _ => none) a (ns.map V.int)) → sp [.ref a] H (fun v _ => v = .bl true) E0) ∧
      ∀ base : Heap, (K w.params).In base → base.Ns mainGlobals mg → (∀ p ∈ cs, TabB base mg p.1 p.2) → FnG l.prog w (K w.params) mg base 12 fa fd ["_law_script"] sp) :
    PySem.W.WalkO q loose XP YP l.row.toRowW d [] (fun f vs => PySem.call f vs) :=
  walk_ofGT (n := 63) (k := 12) (x := "_law_script") hn (by decide) hdf ⟨rfl, by decide, by decide⟩ fun w mg fa h Y G hm => by
    obtain ⟨fd, sp, cs, h1, h2, h3, h4⟩ := F w mg fa h (hY w h Y) (hT w h Y) G hm
    exact ⟨K w.params, fd, sp, cs, hY w h Y, h1, h2, h3, h4⟩
end Qw

set_option Elab.async false
set_option linter.all false
set_option maxRecDepth 100000
open PySem PySem.W PyProof.Rows
set_option pp.maxSteps 300
set_option pp.deepTerms false
set_option maxHeartbeats 0 in
theorem PySem.Challenge.cw_quotewords_k08_refused_holds : PySem.Challenge.rw_quotewords_k08_refused.Holds := by
  w_on; o_law; k_head; (case hw => w_witness2)
  k_fill
  refine Qw.walk (l := PySem.Challenge.rw_quotewords_k08_refused) rfl rfl (fun w h Y => PySem.W.km_in_of Y) (fun w h Y => PySem.W.km_tabs_of Y) ?F
  case F =>
    intro w mg fa h KX hts G hmg
    refine' Qw.all_mk (P := PySem.Challenge.rw_quotewords_k08_refused.prog) KX G hmg hts ?aC_QuoteError ?aC_BadRules ?aC_BadText ?aC_BadWords ?aC_Ended ?aC_NoWriting ?aC_Rules ?aC_Machine ?aC_Answer ?aC_Words ?aC_Fault ?aC_Shortest ?aC_Alike ?aC_Parted ?aC_Splitter ?a_NoWriting_init ?i_NoWriting_init ?l_NoWriting_init ?c_NoWriting_init ?k_NoWriting_init ?a_are_signs ?l_are_signs ?c_are_signs ?k_are_signs ?a_Rules_init ?i_Rules_init ?l_Rules_init ?d_Rules_init ?c_Rules_init ?k_Rules_init ?a_Rules_told ?i_Rules_told ?l_Rules_told ?c_Rules_told ?k_Rules_told ?a_Rules_quotes ?i_Rules_quotes ?l_Rules_quotes ?c_Rules_quotes ?k_Rules_quotes ?a_Rules_special ?i_Rules_special ?l_Rules_special ?c_Rules_special ?k_Rules_special ?a_Machine_init ?i_Machine_init ?l_Machine_init ?c_Machine_init ?k_Machine_init ?a_Machine_key ?i_Machine_key ?l_Machine_key ?c_Machine_key ?k_Machine_key ?a_Machine_begin ?i_Machine_begin ?l_Machine_begin ?c_Machine_begin ?k_Machine_begin ?a_Machine_ended ?i_Machine_ended ?l_Machine_ended ?c_Machine_ended ?k_Machine_ended ?a_Machine_plain ?i_Machine_plain ?l_Machine_plain ?c_Machine_plain ?k_Machine_plain ?a_Machine_quoted ?i_Machine_quoted ?l_Machine_quoted ?c_Machine_quoted ?k_Machine_quoted ?a_Machine_step ?i_Machine_step ?l_Machine_step ?c_Machine_step ?k_Machine_step ?a_Machine_fault ?i_Machine_fault ?l_Machine_fault ?c_Machine_fault ?k_Machine_fault ?a_read_all ?l_read_all ?c_read_all ?k_read_all ?a_states_of ?l_states_of ?c_states_of ?k_states_of ?a_cost_of ?l_cost_of ?c_cost_of ?k_cost_of ?a_entered ?l_entered ?c_entered ?k_entered ?a_cannot ?l_cannot ?c_cannot ?k_cannot ?a_heights_of ?l_heights_of ?c_heights_of ?k_heights_of ?a_written_by ?l_written_by ?c_written_by ?k_written_by ?a_part_of ?l_part_of ?c_part_of ?k_part_of ?a_few_signs ?l_few_signs ?c_few_signs ?k_few_signs ?a_read_alike ?l_read_alike ?c_read_alike ?k_read_alike ?a_trail ?l_trail ?c_trail ?k_trail ?a_marks_of ?l_marks_of ?c_marks_of ?k_marks_of ?a_node_of ?l_node_of ?c_node_of ?k_node_of ?a_first_parted ?l_first_parted ?c_first_parted ?k_first_parted ?a_Words_init ?i_Words_init ?l_Words_init ?c_Words_init ?k_Words_init ?a_Fault_init ?i_Fault_init ?l_Fault_init ?c_Fault_init ?k_Fault_init ?a_Shortest_init ?i_Shortest_init ?l_Shortest_init ?c_Shortest_init ?k_Shortest_init ?a_Parted_init ?i_Parted_init ?l_Parted_init ?c_Parted_init ?k_Parted_init ?a_compared ?l_compared ?c_compared ?k_compared ?a_split ?l_split ?c_split ?k_split ?a_Splitter_init ?i_Splitter_init ?l_Splitter_init ?c_Splitter_init ?k_Splitter_init ?a_Splitter_take ?i_Splitter_take ?l_Splitter_take ?c_Splitter_take ?k_Splitter_take ?a_Splitter_end ?i_Splitter_end ?l_Splitter_end ?c_Splitter_end ?k_Splitter_end ?a_one_written ?l_one_written ?c_one_written ?k_one_written ?a_shortest ?l_shortest ?c_shortest ?k_shortest ?a__law_kinds ?l__law_kinds ?c__law_kinds ?k__law_kinds ?a__law_refused ?l__law_refused ?c__law_refused ?k__law_refused ?a__law_all ?l__law_all ?c__law_all ?k__law_all ?a__law_rules_right ?l__law_rules_right ?c__law_rules_right ?hK__law_rules_right ?nK__law_rules_right ?k__law_rules_right ?a__law_texts_right ?l__law_texts_right ?c__law_texts_right ?hK__law_texts_right ?nK__law_texts_right ?k__law_texts_right ?a__law_words_right ?l__law_words_right ?c__law_words_right ?hK__law_words_right ?nK__law_words_right ?k__law_words_right ?a_law ?l_law ?c_law ?k_law ?pg_Rules ?hd_Rules ?po_Rules ?sa_Rules ?mk_Rules ?kc_Rules ?n_Rules_breaks ?n_Rules_hard ?n_Rules_soft ?n_Rules_bend ?n_Rules_note ?pg_Machine ?hd_Machine ?po_Machine ?sa_Machine ?mk_Machine ?kc_Machine ?n_Machine_rules ?n_Machine_state ?n_Machine_bent ?n_Machine_word ?n_Machine_begun ?n_Machine_opened ?n_Machine_place ?pg_Words ?hd_Words ?po_Words ?sa_Words ?mk_Words ?kc_Words ?n_Words_words ?n_Words_places ?pg_Fault ?hd_Fault ?po_Fault ?sa_Fault ?mk_Fault ?kc_Fault ?n_Fault_place ?pg_Shortest ?hd_Shortest ?po_Shortest ?sa_Shortest ?mk_Shortest ?kc_Shortest ?n_Shortest_text ?n_Shortest_heights ?pg_Parted ?hd_Parted ?po_Parted ?sa_Parted ?mk_Parted ?kc_Parted ?n_Parted_text ?pg_Splitter ?hd_Splitter ?po_Splitter ?sa_Splitter ?mk_Splitter ?kc_Splitter ?n_Splitter_machine ?n_Splitter_found ?n_Splitter_over ?g_LINE_END ?g_MOST ?s_MOST ?g_PLAIN ?g_NOTED ?g_LOOSE ?g_FAR_twins ?g_LETTERS ?g_LONGEST ?g_MOST_WORDS ?g_LONGEST_WORD ?g_FAR_writing ?b_ValueError ?b_isinstance ?b_all ?b_any ?b_zip ?b_len ?b_set ?b_str ?b_list ?b_range ?b_max ?b_min ?b_enumerate ?b_abs ?i_Wordsha ?i_Wordshm ?objGet ?objTak ?i_Faultha ?i_Faulthm ?m_k_WF ?ty_Fault ?ne_k_WF ?m_k_WA ?ty_Answer ?hd_Answer ?ne_k_WA ?m_k_FW ?ty_Words ?ne_k_FW ?m_k_FA ?ne_k_FA ?ea_QuoteError ?eb_QuoteError ?ec_QuoteError ?ed_QuoteError ?ee_QuoteError ?ef_QuoteError ?eh_QuoteError ?ei_QuoteError ?es_QuoteError_QuoteError ?ea_BadRules ?eb_BadRules ?ec_BadRules ?ed_BadRules ?ee_BadRules ?ef_BadRules ?eh_BadRules ?ei_BadRules ?es_BadRules_QuoteError ?es_BadRules_BadText ?es_BadRules_BadWords ?es_BadRules_NoWriting ?es_BadRules_Ended ?ex_BadRules ?ea_BadText ?eb_BadText ?ec_BadText ?ed_BadText ?ee_BadText ?ef_BadText ?eh_BadText ?ei_BadText ?es_BadText_QuoteError ?es_BadText_BadRules ?es_BadText_BadWords ?es_BadText_NoWriting ?es_BadText_Ended ?ex_BadText ?ea_BadWords ?eb_BadWords ?ec_BadWords ?ed_BadWords ?ee_BadWords ?ef_BadWords ?eh_BadWords ?ei_BadWords ?es_BadWords_QuoteError ?es_BadWords_BadRules ?es_BadWords_BadText ?es_BadWords_NoWriting ?es_BadWords_Ended ?ex_BadWords ?ea_NoWriting ?eb_NoWriting ?ec_NoWriting ?ed_NoWriting ?ee_NoWriting ?ef_NoWriting ?eh_NoWriting ?ei_NoWriting ?es_NoWriting_QuoteError ?es_NoWriting_BadRules ?es_NoWriting_BadText ?es_NoWriting_BadWords ?es_NoWriting_Ended ?xL_NoWriting ?sa_NoWriting ?at_NoWriting ?ti_NoWriting ?ui_NoWriting ?qr_QuoteError ?qg_QuoteError ?qv_QuoteError ?ea_Ended ?eb_Ended ?ec_Ended ?ed_Ended ?ee_Ended ?ef_Ended ?eh_Ended ?ei_Ended ?es_Ended_QuoteError ?es_Ended_BadRules ?es_Ended_BadText ?es_Ended_BadWords ?es_Ended_NoWriting ?ex_Ended ?i_Rulesha ?i_Ruleshm ?ne_tab12 ?ne_tab13 ?ne_tab23 ?xt_Rules ?xh_Rules ?sv_BadRules ?m_k_e01 ?ty_BadText ?hd_BadText ?ne_k_e01 ?m_k_e02 ?ty_BadWords ?hd_BadWords ?ne_k_e02 ?m_k_e03 ?ty_NoWriting ?hd_NoWriting ?ne_k_e03 ?m_k_e04 ?ty_Ended ?hd_Ended ?ne_k_e04 ?sv_BadText ?m_k_e10 ?ty_BadRules ?hd_BadRules ?ne_k_e10 ?m_k_e12 ?ne_k_e12 ?m_k_e13 ?ne_k_e13 ?m_k_e14 ?ne_k_e14 ?sv_BadWords ?m_k_e20 ?ne_k_e20 ?m_k_e21 ?ne_k_e21 ?m_k_e23 ?ne_k_e23 ?m_k_e24 ?ne_k_e24 ?sv_NoWriting ?m_k_e30 ?ne_k_e30 ?m_k_e31 ?ne_k_e31 ?m_k_e32 ?ne_k_e32 ?m_k_e34 ?ne_k_e34 ?sv_Ended ?m_k_e40 ?ne_k_e40 ?m_k_e41 ?ne_k_e41 ?m_k_e42 ?ne_k_e42 ?m_k_e43 ?ne_k_e43
    (case aC_QuoteError => k_is)
    (case aC_BadRules => k_is)
    (case aC_BadText => k_is)
    (case aC_BadWords => k_is)
    (case aC_Ended => k_is)
    (case aC_NoWriting => k_is)
    (case aC_Rules => k_is)
    (case aC_Machine => k_is)
    (case aC_Answer => k_is)
    (case aC_Words => k_is)
    (case aC_Fault => k_is)
    (case aC_Shortest => k_is)
    (case aC_Alike => k_is)
    (case aC_Parted => k_is)
    (case aC_Splitter => k_is)
    (case a_NoWriting_init => k_is)
    (case i_NoWriting_init => k_is)
    (case l_NoWriting_init => k_is)
    (case c_NoWriting_init => k_is)
    (case k_NoWriting_init => k_is)
    (case a_are_signs => k_is)
    (case l_are_signs => k_is)
    (case c_are_signs => k_is)
    (case k_are_signs => k_is)
    (case a_Rules_init => k_is)
    (case i_Rules_init => k_is)
    (case l_Rules_init => k_is)
    (case d_Rules_init => k_is)
    (case c_Rules_init => k_is)
    (case k_Rules_init => k_is)
    (case a_Rules_told => k_is)
    (case i_Rules_told => k_is)
    (case l_Rules_told => k_is)
    (case c_Rules_told => k_is)
    (case k_Rules_told => k_is)
    (case a_Rules_quotes => k_is)
    (case i_Rules_quotes => k_is)
    (case l_Rules_quotes => k_is)
    (case c_Rules_quotes => k_is)
    (case k_Rules_quotes => k_is)
    (case a_Rules_special => k_is)
    (case i_Rules_special => k_is)
    (case l_Rules_special => k_is)
    (case c_Rules_special => k_is)
    (case k_Rules_special => k_is)
    (case a_Machine_init => k_is)
    (case i_Machine_init => k_is)
    (case l_Machine_init => k_is)
    (case c_Machine_init => k_is)
    (case k_Machine_init => k_is)
    (case a_Machine_key => k_is)
    (case i_Machine_key => k_is)
    (case l_Machine_key => k_is)
    (case c_Machine_key => k_is)
    (case k_Machine_key => k_is)
    (case a_Machine_begin => k_is)
    (case i_Machine_begin => k_is)
    (case l_Machine_begin => k_is)
    (case c_Machine_begin => k_is)
    (case k_Machine_begin => k_is)
    (case a_Machine_ended => k_is)
    (case i_Machine_ended => k_is)
    (case l_Machine_ended => k_is)
    (case c_Machine_ended => k_is)
    (case k_Machine_ended => k_is)
    (case a_Machine_plain => k_is)
    (case i_Machine_plain => k_is)
    (case l_Machine_plain => k_is)
    (case c_Machine_plain => k_is)
    (case k_Machine_plain => k_is)
    (case a_Machine_quoted => k_is)
    (case i_Machine_quoted => k_is)
    (case l_Machine_quoted => k_is)
    (case c_Machine_quoted => k_is)
    (case k_Machine_quoted => k_is)
    (case a_Machine_step => k_is)
    (case i_Machine_step => k_is)
    (case l_Machine_step => k_is)
    (case c_Machine_step => k_is)
    (case k_Machine_step => k_is)
    (case a_Machine_fault => k_is)
    (case i_Machine_fault => k_is)
    (case l_Machine_fault => k_is)
    (case c_Machine_fault => k_is)
    (case k_Machine_fault => k_is)
    (case a_read_all => k_is)
    (case l_read_all => k_is)
    (case c_read_all => k_is)
    (case k_read_all => k_is)
    (case a_states_of => k_is)
    (case l_states_of => k_is)
    (case c_states_of => k_is)
    (case k_states_of => k_is)
    (case a_cost_of => k_is)
    (case l_cost_of => k_is)
    (case c_cost_of => k_is)
    (case k_cost_of => k_is)
    (case a_entered => k_is)
    (case l_entered => k_is)
    (case c_entered => k_is)
    (case k_entered => k_is)
    (case a_cannot => k_is)
    (case l_cannot => k_is)
    (case c_cannot => k_is)
    (case k_cannot => k_is)
    (case a_heights_of => k_is)
    (case l_heights_of => k_is)
    (case c_heights_of => k_is)
    (case k_heights_of => k_is)
    (case a_written_by => k_is)
    (case l_written_by => k_is)
    (case c_written_by => k_is)
    (case k_written_by => k_is)
    (case a_part_of => k_is)
    (case l_part_of => k_is)
    (case c_part_of => k_is)
    (case k_part_of => k_is)
    (case a_few_signs => k_is)
    (case l_few_signs => k_is)
    (case c_few_signs => k_is)
    (case k_few_signs => k_is)
    (case a_read_alike => k_is)
    (case l_read_alike => k_is)
    (case c_read_alike => k_is)
    (case k_read_alike => k_is)
    (case a_trail => k_is)
    (case l_trail => k_is)
    (case c_trail => k_is)
    (case k_trail => k_is)
    (case a_marks_of => k_is)
    (case l_marks_of => k_is)
    (case c_marks_of => k_is)
    (case k_marks_of => k_is)
    (case a_node_of => k_is)
    (case l_node_of => k_is)
    (case c_node_of => k_is)
    (case k_node_of => k_is)
    (case a_first_parted => k_is)
    (case l_first_parted => k_is)
    (case c_first_parted => k_is)
    (case k_first_parted => k_is)
    (case a_Words_init => k_is)
    (case i_Words_init => k_is)
    (case l_Words_init => k_is)
    (case c_Words_init => k_is)
    (case k_Words_init => k_is)
    (case a_Fault_init => k_is)
    (case i_Fault_init => k_is)
    (case l_Fault_init => k_is)
    (case c_Fault_init => k_is)
    (case k_Fault_init => k_is)
    (case a_Shortest_init => k_is)
    (case i_Shortest_init => k_is)
    (case l_Shortest_init => k_is)
    (case c_Shortest_init => k_is)
    (case k_Shortest_init => k_is)
    (case a_Parted_init => k_is)
    (case i_Parted_init => k_is)
    (case l_Parted_init => k_is)
    (case c_Parted_init => k_is)
    (case k_Parted_init => k_is)
    (case a_compared => k_is)
    (case l_compared => k_is)
    (case c_compared => k_is)
    (case k_compared => k_is)
    (case a_split => k_is)
    (case l_split => k_is)
    (case c_split => k_is)
    (case k_split => k_is)
    (case a_Splitter_init => k_is)
    (case i_Splitter_init => k_is)
    (case l_Splitter_init => k_is)
    (case c_Splitter_init => k_is)
    (case k_Splitter_init => k_is)
    (case a_Splitter_take => k_is)
    (case i_Splitter_take => k_is)
    (case l_Splitter_take => k_is)
    (case c_Splitter_take => k_is)
    (case k_Splitter_take => k_is)
    (case a_Splitter_end => k_is)
    (case i_Splitter_end => k_is)
    (case l_Splitter_end => k_is)
    (case c_Splitter_end => k_is)
    (case k_Splitter_end => k_is)
    (case a_one_written => k_is)
    (case l_one_written => k_is)
    (case c_one_written => k_is)
    (case k_one_written => k_is)
    (case a_shortest => k_is)
    (case l_shortest => k_is)
    (case c_shortest => k_is)
    (case k_shortest => k_is)
    (case a__law_kinds => k_is)
    (case l__law_kinds => k_is)
    (case c__law_kinds => k_is)
    (case k__law_kinds => k_is)
    (case a__law_refused => k_is)
    (case l__law_refused => k_is)
    (case c__law_refused => k_is)
    (case k__law_refused => k_is)
    (case a__law_all => k_is)
    (case l__law_all => k_is)
    (case c__law_all => k_is)
    (case k__law_all => k_is)
    (case a__law_rules_right => k_is)
    (case l__law_rules_right => k_is)
    (case c__law_rules_right => k_is)
    (case hK__law_rules_right => first | k_is | kernel_rfl)
    (case nK__law_rules_right => first | k_is | kernel_rfl)
    (case k__law_rules_right => k_is)
    (case a__law_texts_right => k_is)
    (case l__law_texts_right => k_is)
    (case c__law_texts_right => k_is)
    (case hK__law_texts_right => first | k_is | kernel_rfl)
    (case nK__law_texts_right => first | k_is | kernel_rfl)
    (case k__law_texts_right => k_is)
    (case a__law_words_right => k_is)
    (case l__law_words_right => k_is)
    (case c__law_words_right => k_is)
    (case hK__law_words_right => first | k_is | kernel_rfl)
    (case nK__law_words_right => first | k_is | kernel_rfl)
    (case k__law_words_right => k_is)
    (case a_law => k_is)
    (case l_law => k_is)
    (case c_law => k_is)
    (case k_law => k_is)
    (case pg_Rules => k_is)
    (case hd_Rules => k_is)
    (case po_Rules => k_is)
    (case sa_Rules => k_is)
    (case mk_Rules => k_is)
    (case kc_Rules => k_is)
    (case n_Rules_breaks => k_is)
    (case n_Rules_hard => k_is)
    (case n_Rules_soft => k_is)
    (case n_Rules_bend => k_is)
    (case n_Rules_note => k_is)
    (case pg_Machine => k_is)
    (case hd_Machine => k_is)
    (case po_Machine => k_is)
    (case sa_Machine => k_is)
    (case mk_Machine => k_is)
    (case kc_Machine => k_is)
    (case n_Machine_rules => k_is)
    (case n_Machine_state => k_is)
    (case n_Machine_bent => k_is)
    (case n_Machine_word => k_is)
    (case n_Machine_begun => k_is)
    (case n_Machine_opened => k_is)
    (case n_Machine_place => k_is)
    (case pg_Words => k_is)
    (case hd_Words => k_is)
    (case po_Words => k_is)
    (case sa_Words => k_is)
    (case mk_Words => k_is)
    (case kc_Words => k_is)
    (case n_Words_words => k_is)
    (case n_Words_places => k_is)
    (case pg_Fault => k_is)
    (case hd_Fault => k_is)
    (case po_Fault => k_is)
    (case sa_Fault => k_is)
    (case mk_Fault => k_is)
    (case kc_Fault => k_is)
    (case n_Fault_place => k_is)
    (case pg_Shortest => k_is)
    (case hd_Shortest => k_is)
    (case po_Shortest => k_is)
    (case sa_Shortest => k_is)
    (case mk_Shortest => k_is)
    (case kc_Shortest => k_is)
    (case n_Shortest_text => k_is)
    (case n_Shortest_heights => k_is)
    (case pg_Parted => k_is)
    (case hd_Parted => k_is)
    (case po_Parted => k_is)
    (case sa_Parted => k_is)
    (case mk_Parted => k_is)
    (case kc_Parted => k_is)
    (case n_Parted_text => k_is)
    (case pg_Splitter => k_is)
    (case hd_Splitter => k_is)
    (case po_Splitter => k_is)
    (case sa_Splitter => k_is)
    (case mk_Splitter => k_is)
    (case kc_Splitter => k_is)
    (case n_Splitter_machine => k_is)
    (case n_Splitter_found => k_is)
    (case n_Splitter_over => k_is)
    (case g_LINE_END => k_is)
    (case g_MOST => k_is)
    (case s_MOST => k_is)
    (case g_PLAIN => k_is)
    (case g_NOTED => k_is)
    (case g_LOOSE => k_is)
    (case g_FAR_twins => k_is)
    (case g_LETTERS => k_is)
    (case g_LONGEST => k_is)
    (case g_MOST_WORDS => k_is)
    (case g_LONGEST_WORD => k_is)
    (case g_FAR_writing => k_is)
    (case b_ValueError => k_is)
    (case b_isinstance => k_is)
    (case b_all => k_is)
    (case b_any => k_is)
    (case b_zip => k_is)
    (case b_len => k_is)
    (case b_set => k_is)
    (case b_str => k_is)
    (case b_list => k_is)
    (case b_range => k_is)
    (case b_max => k_is)
    (case b_min => k_is)
    (case b_enumerate => k_is)
    (case b_abs => k_is)
    (case i_Wordsha => k_is)
    (case i_Wordshm => k_is)
    (case objGet => k_is)
    (case objTak => k_is)
    (case i_Faultha => k_is)
    (case i_Faulthm => k_is)
    (case m_k_WF => k_is)
    (case ty_Fault => k_is)
    (case ne_k_WF => decide)
    (case m_k_WA => k_is)
    (case ty_Answer => k_is)
    (case hd_Answer => k_is)
    (case ne_k_WA => decide)
    (case m_k_FW => k_is)
    (case ty_Words => k_is)
    (case ne_k_FW => decide)
    (case m_k_FA => k_is)
    (case ne_k_FA => decide)
    (case ea_QuoteError => k_is)
    (case eb_QuoteError => k_is)
    (case ec_QuoteError => k_is)
    (case ed_QuoteError => k_is)
    (case ee_QuoteError => k_is)
    (case ef_QuoteError => k_is)
    (case eh_QuoteError => k_is)
    (case ei_QuoteError => k_is)
    (case es_QuoteError_QuoteError => k_is)
    (case ea_BadRules => k_is)
    (case eb_BadRules => k_is)
    (case ec_BadRules => k_is)
    (case ed_BadRules => k_is)
    (case ee_BadRules => k_is)
    (case ef_BadRules => k_is)
    (case eh_BadRules => k_is)
    (case ei_BadRules => k_is)
    (case es_BadRules_QuoteError => k_is)
    (case es_BadRules_BadText => k_is)
    (case es_BadRules_BadWords => k_is)
    (case es_BadRules_NoWriting => k_is)
    (case es_BadRules_Ended => k_is)
    (case ex_BadRules => first | k_is | kernel_rfl)
    (case ea_BadText => k_is)
    (case eb_BadText => k_is)
    (case ec_BadText => k_is)
    (case ed_BadText => k_is)
    (case ee_BadText => k_is)
    (case ef_BadText => k_is)
    (case eh_BadText => k_is)
    (case ei_BadText => k_is)
    (case es_BadText_QuoteError => k_is)
    (case es_BadText_BadRules => k_is)
    (case es_BadText_BadWords => k_is)
    (case es_BadText_NoWriting => k_is)
    (case es_BadText_Ended => k_is)
    (case ex_BadText => first | k_is | kernel_rfl)
    (case ea_BadWords => k_is)
    (case eb_BadWords => k_is)
    (case ec_BadWords => k_is)
    (case ed_BadWords => k_is)
    (case ee_BadWords => k_is)
    (case ef_BadWords => k_is)
    (case eh_BadWords => k_is)
    (case ei_BadWords => k_is)
    (case es_BadWords_QuoteError => k_is)
    (case es_BadWords_BadRules => k_is)
    (case es_BadWords_BadText => k_is)
    (case es_BadWords_NoWriting => k_is)
    (case es_BadWords_Ended => k_is)
    (case ex_BadWords => first | k_is | kernel_rfl)
    (case ea_NoWriting => k_is)
    (case eb_NoWriting => k_is)
    (case ec_NoWriting => k_is)
    (case ed_NoWriting => k_is)
    (case ee_NoWriting => k_is)
    (case ef_NoWriting => k_is)
    (case eh_NoWriting => k_is)
    (case ei_NoWriting => k_is)
    (case es_NoWriting_QuoteError => k_is)
    (case es_NoWriting_BadRules => k_is)
    (case es_NoWriting_BadText => k_is)
    (case es_NoWriting_BadWords => k_is)
    (case es_NoWriting_Ended => k_is)
    (case xL_NoWriting => k_is)
    (case sa_NoWriting => k_is)
    (case at_NoWriting => k_is)
    (case ti_NoWriting => k_is)
    (case ui_NoWriting => k_is)
    (case qr_QuoteError => k_is)
    (case qg_QuoteError => k_is)
    (case qv_QuoteError => k_is)
    (case ea_Ended => k_is)
    (case eb_Ended => k_is)
    (case ec_Ended => k_is)
    (case ed_Ended => k_is)
    (case ee_Ended => k_is)
    (case ef_Ended => k_is)
    (case eh_Ended => k_is)
    (case ei_Ended => k_is)
    (case es_Ended_QuoteError => k_is)
    (case es_Ended_BadRules => k_is)
    (case es_Ended_BadText => k_is)
    (case es_Ended_BadWords => k_is)
    (case es_Ended_NoWriting => k_is)
    (case ex_Ended => first | k_is | kernel_rfl)
    (case i_Rulesha => k_is)
    (case i_Ruleshm => k_is)
    (case ne_tab12 => decide)
    (case ne_tab13 => decide)
    (case ne_tab23 => decide)
    (case xt_Rules => k_is)
    (case xh_Rules => k_is)
    (case sv_BadRules => k_is)
    (case m_k_e01 => k_is)
    (case ty_BadText => k_is)
    (case hd_BadText => k_is)
    (case ne_k_e01 => decide)
    (case m_k_e02 => k_is)
    (case ty_BadWords => k_is)
    (case hd_BadWords => k_is)
    (case ne_k_e02 => decide)
    (case m_k_e03 => k_is)
    (case ty_NoWriting => k_is)
    (case hd_NoWriting => k_is)
    (case ne_k_e03 => decide)
    (case m_k_e04 => k_is)
    (case ty_Ended => k_is)
    (case hd_Ended => k_is)
    (case ne_k_e04 => decide)
    (case sv_BadText => k_is)
    (case m_k_e10 => k_is)
    (case ty_BadRules => k_is)
    (case hd_BadRules => k_is)
    (case ne_k_e10 => decide)
    (case m_k_e12 => k_is)
    (case ne_k_e12 => decide)
    (case m_k_e13 => k_is)
    (case ne_k_e13 => decide)
    (case m_k_e14 => k_is)
    (case ne_k_e14 => decide)
    (case sv_BadWords => k_is)
    (case m_k_e20 => k_is)
    (case ne_k_e20 => decide)
    (case m_k_e21 => k_is)
    (case ne_k_e21 => decide)
    (case m_k_e23 => k_is)
    (case ne_k_e23 => decide)
    (case m_k_e24 => k_is)
    (case ne_k_e24 => decide)
    (case sv_NoWriting => k_is)
    (case m_k_e30 => k_is)
    (case ne_k_e30 => decide)
    (case m_k_e31 => k_is)
    (case ne_k_e31 => decide)
    (case m_k_e32 => k_is)
    (case ne_k_e32 => decide)
    (case m_k_e34 => k_is)
    (case ne_k_e34 => decide)
    (case sv_Ended => k_is)
    (case m_k_e40 => k_is)
    (case ne_k_e40 => decide)
    (case m_k_e41 => k_is)
    (case ne_k_e41 => decide)
    (case m_k_e42 => k_is)
    (case ne_k_e42 => decide)
    (case m_k_e43 => k_is)
    (case ne_k_e43 => decide)

