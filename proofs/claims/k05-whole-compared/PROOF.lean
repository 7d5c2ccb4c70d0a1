import PyProof.Rows.All
import Wide.All
import OpenK.AllK
import Wide.FinOn
import HandS.ForMost
import HandS.Style
import HandS.TupAny
import HandS.IsInst
import HandS.Steps
import HandS.Walk
import HandS.Zip
import HandS.StrMore
import HandS.Defaults
import HandS.Flow
import PySem.Challenge.RW_quotewords_k05_whole_compared
import HandS.EndBits
import HandS.HeadEnd
import PyProof.StrLawsFrom
import HandS.Conv
import PyProof.ListStr
import PyProof.StrOps2
import PyProof.SliceStr2
import KE.KRevSl
import KE.GoesZip
import KE.GoesMore
import PyProof.ReprReads
import PyProof.CollectStr
import PyProof.Rows.SortStr
import PyProof.Rows.SortWalk
import HandS.ExcValue
import HandS.MakeKw
import HandS.MakeKwOnly
set_option Elab.async false
set_option linter.all false
set_option maxRecDepth 100000
set_option maxHeartbeats 4000000
namespace Qw
open PySem L2

/-! ### texts as lists of codes -/
abbrev Tx := List Nat
def S (l : Tx) : Str := ⟨l.toArray⟩
theorem S_tl (l : Tx) : (S l).cps.toList = l := rfl
theorem S_size (l : Tx) : (S l).cps.size = l.length := by simp [S]
theorem S_len (l : Tx) : (S l).length = l.length := by simp [S, Str.length]
theorem S_of (x : Str) : S x.cps.toList = x := by cases x; simp [S]
theorem S_app (a b : Tx) : S a ++ S b = S (a ++ b) := by
  show Str.append (S a) (S b) = _
  simp [S, Str.append]
theorem S_inj {a b : Tx} : S a = S b ↔ a = b := by
  constructor
  · intro h
    have := congrArg (fun x : Str => x.cps.toList) h
    simpa [S] using this
  · intro h; rw [h]
theorem S_beq (x y : Tx) : (S x == S y) = decide (x = y) := by
  by_cases h : x = y
  · subst h; simp
  · simp [h, S_inj]
theorem scal_ss (x y : Str) : scal (.str x) (.str y) = true := rfl
theorem scal_ii (x y : Int) : scal (.int x) (.int y) = true := rfl
theorem scal_bb (x y : Bool) : scal (.bl x) (.bl y) = true := rfl
theorem scal_nn : scal .non .non = true := rfl
theorem scal_in (x : Int) : scal (.int x) .non = true := rfl
theorem scal_ni (x : Int) : scal .non (.int x) = true := rfl
theorem S_one (c : Nat) : (⟨#[c]⟩ : Str) = S [c] := rfl

/-! ### heaps: what is kept -/
/-- all that was tracked, but at p, is as it was -/
def Kp (p : Addr) (H H' : Hp) : Prop := ∀ b o, H b = some o → b ≠ p → H' b = some o
theorem _root_.L2.Same.kp {H H' : Hp} (p : Addr) (h : Same H H') : Kp p H H' := fun b o e _ => h b o e
theorem Kp.trans {p : Addr} {H H1 H2 : Hp} (a : Kp p H H1) (b : Kp p H1 H2) : Kp p H H2 := fun c o e n => b c o (a c o e n) n
theorem same_new {H : Hp} {p : Addr} {o : HO} (h : H p = none) : Same H (upd H p o) := fun b u e => by
  rw [upd_ne (ne_of_none e h)]; exact e
theorem _root_.L2.Same.mut {H H' : Hp} {p : Addr} {o : HO} (e : Same H H') (h : H p = none) : Same H (upd H' p o) := fun a u ha => by
  rw [upd_ne (ne_of_none ha h)]; exact e a u ha
theorem kp_upd {H : Hp} {p : Addr} {o : HO} : Kp p H (upd H p o) := fun b u e n => by rw [upd_ne n]; exact e
theorem Kp.upd {p : Addr} {H H' : Hp} {o : HO} (a : Kp p H H') : Kp p H (L2.upd H' p o) := a.trans kp_upd
/-- the tuples stay -/
def Tk (H H' : Hp) : Prop := ∀ b xs, H b = some (.tup xs) → H' b = some (.tup xs)
theorem Tk.refl (H : Hp) : Tk H H := fun _ _ h => h
theorem Tk.trans {H H1 H2 : Hp} (a : Tk H H1) (b : Tk H1 H2) : Tk H H2 := fun c o e => b c o (a c o e)
theorem _root_.L2.Same.tk {H H' : Hp} (h : Same H H') : Tk H H' := fun b xs e => h b _ e
theorem Kp.tk {p : Addr} {H H' : Hp} (h : Kp p H H') {o : HO} (e : H p = some o) (no : ∀ xs, o ≠ .tup xs) : Tk H H' := fun b xs q => by
  refine h b _ q fun z => ?_
  subst z; rw [e] at q; exact no xs (Option.some.inj q)
theorem upd_old {H : Hp} {p q : Addr} {o u : HO} (h : H p = some o) (n : H q = none) : upd H q u p = some o := by
  rw [upd_ne (ne_of_none h n)]; exact h
theorem upd_old' {H : Hp} {p q : Addr} {o u : HO} (h : H p = some o) (n : p ≠ q) : upd H q u p = some o := by
  rw [upd_ne n]; exact h
theorem none_upd {H : Hp} {p q : Addr} {o : HO} (h : upd H p o q = none) : H q = none := by
  unfold upd at h; split at h
  · cases h
  · exact h
theorem none_upd' {H : Hp} {p q : Addr} {o : HO} (h : upd H p o q = none) (_ : q ≠ p) : H q = none := none_upd h
theorem ne_upd {H : Hp} {p q : Addr} {o : HO} (h : upd H p o q = none) : q ≠ p := by
  rintro rfl; rw [upd_same] at h; cases h

theorem small_line {n : Nat} (h : n ≤ 1000000) : (n ≤ sizeLine) = True := eq_true (Nat.le_trans h (by decide))
theorem small_lt {n : Nat} (h : n < 1000000) : (n < sizeLine) = True := eq_true (Nat.lt_of_lt_of_le h (by decide))
theorem pl2 {f : Str} {v : V} {fs : List (Str × V)} {k n : Nat} (h : fs.length + (k + 1) < n) : (putF f v fs).length + k < n := by have := length_putF f v fs; omega
end Qw

set_option Elab.async false
set_option linter.all false
set_option maxRecDepth 100000
set_option maxHeartbeats 4000000
namespace Qw
open PySem L2
theorem take_at {α : Type} : ∀ {l : List α} {i : Nat} {x : α}, l[i]? = some x → l.take (i + 1) = l.take i ++ [x]
  | [], i, x, h => by simp at h
  | a :: l, 0, x, h => by
    cases (Option.some.inj h : a = x)
    rfl
  | a :: l, i + 1, x, h => by
    have ih := take_at (l := l) (i := i) (x := x) h
    simp only [List.take_succ_cons, List.cons_append, List.cons.injEq, true_and]
    exact ih
/-- a comprehension that maps: each turn gives F of the i-th of as, and changes nothing that was there -/
theorem lc_map {α : Type} {J : It} {G : Hp → Prop} {Y : Nat → Hp → V → Hp → Prop} {g : TG} {tt : TT} {te : TE} {vs : List Nat} {σ : St} {H1 : Hp} {D : Addr} {Qd : Hp → Prop}
    (as : List α) (F : α → V) (w : Walk J as.length G Y) (hz : as.length ≤ 1000000) (h1 : H1 D = none) (hG : ∀ H, Same H1 H → G H)
    (hs : ∀ (R : VK) (R' : Hp → Prop) i a x H H', as[i]? = some a → Same H1 H → Y i H x H' → (∀ H4, Same H H4 → R (F a) H4) →
      g x (wipe σ vs) H' fun σ2 H2 => wipe σ2 vs = wipe σ vs ∧ tt σ2 H2 fun b H3 => if b = true then te σ2 H3 R else R' H3)
    (hd : ∀ H, Same H1 H → H D = some (.lst (as.map F)) → Qd H) :
    ∃ W : Nat → Nat → Hp → Prop, (∃ m, W 0 m (upd H1 D (.lst []))) ∧ ∀ i m H, W i m H →
      (J.stop i H ∧ Qd H) ∨ (J.go i H ∧ ∃ Nx : Hp → Prop, (∀ H', Nx H' → ∃ m', m' < m ∧ W (i + 1) m' H') ∧ ∀ x H', J.yld i H x H' → g x (wipe σ vs) H' fun σ2 H2 => wipe σ2 vs = wipe σ vs ∧ tt σ2 H2 fun b H3 =>
        if b = true then te σ2 H3 fun y H4 => ∃ acc, H4 D = some (.lst acc) ∧ acc.length < sizeLine ∧ Nx (upd H4 D (.lst (acc ++ [y]))) else Nx H3) := by
  refine lc_it w (fun i H => Same H1 H ∧ H D = some (.lst ((as.take i).map F))) ⟨same_new h1, upd_same⟩ (fun _ H _ p => hG H p.1) ?_ fun H p => hd H p.1 (by rw [List.take_length] at p; exact p.2)
  rintro i x H H' hi ⟨p1, p2⟩ y
  obtain ⟨a, ha⟩ : ∃ a, as[i]? = some a := ⟨as[i], List.getElem?_eq_getElem hi⟩
  refine hs _ _ i a x H H' ha p1 y fun H4 s4 => ⟨_, s4 _ _ p2, ?_, ?_, ?_⟩
  · rw [List.length_map, List.length_take]
    exact Nat.lt_of_lt_of_le (show min i as.length < 1000001 by omega) (by decide)
  · exact Same.mut (p1.trans s4) h1
  · rw [upd_same, take_at ha, List.map_append]
    rfl
theorem tlc_map {α : Type} {wi : TI} {J : It} {G : Hp → Prop} {Y : Nat → Hp → V → Hp → Prop} {g : TG} {tt : TT} {te : TE} {vs : List Nat} {σ : St} {H H1 : Hp} {Q : VK}
    (as : List α) (F : α → V) (hw : ∀ R : It → Hp → Prop, R J H1 → wi σ H R) (w : Walk J as.length G Y) (hz : as.length ≤ 1000000) (hG : ∀ H, Same H1 H → G H)
    (hs : ∀ (R : VK) (R' : Hp → Prop) i a x H H', as[i]? = some a → Same H1 H → Y i H x H' → (∀ H4, Same H H4 → R (F a) H4) →
      g x (wipe σ vs) H' fun σ2 H2 => wipe σ2 vs = wipe σ vs ∧ tt σ2 H2 fun b H3 => if b = true then te σ2 H3 R else R' H3)
    (hd : ∀ D H, H1 D = none → Same H1 H → H D = some (.lst (as.map F)) → Q (.ref D) H) : tLc wi g tt te vs σ H Q :=
  hw _ fun D hD => lc_map as F w hz hD hG hs fun H s e => hd D H hD s e
theorem walk_text {t : Tx} : Walk (Its (S t)) t.length (fun _ => True) (fun i H v H' => H' = H ∧ ∃ c, t[i]? = some c ∧ v = .str (S [c])) :=
  ⟨fun _ _ hi _ => (by show _ < (S t).cps.size; rw [S_size]; exact hi), fun _ _ => (by show (S t).cps.size ≤ _; rw [S_size]; exact Nat.le_refl _), fun _ _ _ _ _ _ y => by
    obtain ⟨e, c, h1, h2⟩ := y
    exact ⟨e, c, by simpa [S] using h1, h2⟩⟩
theorem ix_tupK {X : Cx} {K : PySem.W.Frag} (h : X.K = K) : IxR X (rIxT K) := by
  subst h
  exact ix_tup
theorem ix_listK {X : Cx} {K : PySem.W.Frag} (h : X.K = K) : IxR X (rIxL K) := by
  subst h
  exact ix_list
theorem op_eqDK {X : Cx} {K : PySem.W.Frag} (h : X.K = K) (hu : X.A.units + 64 < cLine) : OpR X (compareOp .Eq) (rEqD K) := by
  subst h
  exact op_eqD hu
theorem op_neDK {X : Cx} {K : PySem.W.Frag} (h : X.K = K) (hu : X.A.units + 64 < cLine) : OpR X (compareOp .NotEq) (rNeD K) := by
  subst h
  exact op_neD hu
theorem gen_new {H H1 : Hp} {p : Addr} {o : HO} (h : upd H p o = H1) (hp : H p = none) : Same H H1 ∧ H1 p = some o := by
  subst h
  exact ⟨same_new hp, upd_same⟩
theorem one_lt (x y : Nat) : ([x] < [y]) = (x < y) := by simp [List.cons_lt_cons_iff]
theorem join_flat0 : ∀ ls : List Tx, Str.join (S []) (ls.map S) = S ls.flatten
  | [] => rfl
  | [x] => by
    show S x = S [x].flatten
    simp
  | x :: y :: r => by
    show S x ++ S [] ++ Str.join (S []) ((y :: r).map S) = _
    rw [join_flat0 (y :: r), S_app, S_app]
    simp
theorem join_flat (ls : List Tx) : Txt.join (S []) (ls.map S) = S ls.flatten := by
  rw [show Txt.join (S []) (ls.map S) = Str.join (S []) (ls.map S) from StrLaws.glued_eq_join _ _]
  exact join_flat0 ls
end Qw

set_option Elab.async false
set_option linter.all false
set_option maxRecDepth 100000
set_option maxHeartbeats 4000000
namespace Qw
open PySem L2
def top (i : Nat) : Stmt := PySem.Challenge.pw_quotewords_k05_whole_compared.main.body.getD i (.Pass ⟨0, 0, 0, 0⟩)
abbrev st_are_signs : Stmt := top 7
abbrev N_are_signs : List Str := ["thing", "sign"]
abbrev P_are_signs : List Str := ["thing"]
theorem sc_are_signs : FnScope N_are_signs P_are_signs (defScope st_are_signs) := ⟨rfl, rfl, rfl, by decide +kernel, rfl, by decide +kernel, by decide +kernel⟩
abbrev st_Rules_init : Stmt := inClass (top 8) 0
abbrev N_Rules_init : List Str := ["self", "breaks", "hard", "soft", "bend", "note", "parts", "every", "part", "most"]
abbrev P_Rules_init : List Str := ["self", "breaks", "hard", "soft", "bend", "note"]
theorem sc_Rules_init : FnScope N_Rules_init P_Rules_init (defScope st_Rules_init) := ⟨rfl, rfl, rfl, by decide +kernel, rfl, by decide +kernel, by decide +kernel⟩
abbrev st_Rules_told : Stmt := inClass (top 8) 1
abbrev N_Rules_told : List Str := ["self"]
abbrev P_Rules_told : List Str := ["self"]
theorem sc_Rules_told : FnScope N_Rules_told P_Rules_told (defScope st_Rules_told) := ⟨rfl, rfl, rfl, by decide +kernel, rfl, by decide +kernel, by decide +kernel⟩
abbrev st_Rules_quotes : Stmt := inClass (top 8) 2
abbrev N_Rules_quotes : List Str := ["self"]
abbrev P_Rules_quotes : List Str := ["self"]
theorem sc_Rules_quotes : FnScope N_Rules_quotes P_Rules_quotes (defScope st_Rules_quotes) := ⟨rfl, rfl, rfl, by decide +kernel, rfl, by decide +kernel, by decide +kernel⟩
abbrev st_Machine_init : Stmt := inClass (top 12) 0
abbrev N_Machine_init : List Str := ["self", "rules"]
abbrev P_Machine_init : List Str := ["self", "rules"]
theorem sc_Machine_init : FnScope N_Machine_init P_Machine_init (defScope st_Machine_init) := ⟨rfl, rfl, rfl, by decide +kernel, rfl, by decide +kernel, by decide +kernel⟩
abbrev st_Machine_key : Stmt := inClass (top 12) 1
abbrev N_Machine_key : List Str := ["self"]
abbrev P_Machine_key : List Str := ["self"]
theorem sc_Machine_key : FnScope N_Machine_key P_Machine_key (defScope st_Machine_key) := ⟨rfl, rfl, rfl, by decide +kernel, rfl, by decide +kernel, by decide +kernel⟩
abbrev st_Machine_begin : Stmt := inClass (top 12) 2
abbrev N_Machine_begin : List Str := ["self"]
abbrev P_Machine_begin : List Str := ["self"]
theorem sc_Machine_begin : FnScope N_Machine_begin P_Machine_begin (defScope st_Machine_begin) := ⟨rfl, rfl, rfl, by decide +kernel, rfl, by decide +kernel, by decide +kernel⟩
abbrev st_Machine_ended : Stmt := inClass (top 12) 3
abbrev N_Machine_ended : List Str := ["self", "found"]
abbrev P_Machine_ended : List Str := ["self"]
theorem sc_Machine_ended : FnScope N_Machine_ended P_Machine_ended (defScope st_Machine_ended) := ⟨rfl, rfl, rfl, by decide +kernel, rfl, by decide +kernel, by decide +kernel⟩
abbrev st_Machine_plain : Stmt := inClass (top 12) 4
abbrev N_Machine_plain : List Str := ["self", "sign", "rules"]
abbrev P_Machine_plain : List Str := ["self", "sign"]
theorem sc_Machine_plain : FnScope N_Machine_plain P_Machine_plain (defScope st_Machine_plain) := ⟨rfl, rfl, rfl, by decide +kernel, rfl, by decide +kernel, by decide +kernel⟩
abbrev st_Machine_quoted : Stmt := inClass (top 12) 5
abbrev N_Machine_quoted : List Str := ["self", "sign"]
abbrev P_Machine_quoted : List Str := ["self", "sign"]
theorem sc_Machine_quoted : FnScope N_Machine_quoted P_Machine_quoted (defScope st_Machine_quoted) := ⟨rfl, rfl, rfl, by decide +kernel, rfl, by decide +kernel, by decide +kernel⟩
abbrev st_Machine_step : Stmt := inClass (top 12) 6
abbrev N_Machine_step : List Str := ["self", "sign", "found"]
abbrev P_Machine_step : List Str := ["self", "sign"]
theorem sc_Machine_step : FnScope N_Machine_step P_Machine_step (defScope st_Machine_step) := ⟨rfl, rfl, rfl, by decide +kernel, rfl, by decide +kernel, by decide +kernel⟩
abbrev st_Machine_fault : Stmt := inClass (top 12) 7
abbrev N_Machine_fault : List Str := ["self"]
abbrev P_Machine_fault : List Str := ["self"]
theorem sc_Machine_fault : FnScope N_Machine_fault P_Machine_fault (defScope st_Machine_fault) := ⟨rfl, rfl, rfl, by decide +kernel, rfl, by decide +kernel, by decide +kernel⟩
abbrev st_read_all : Stmt := top 13
abbrev N_read_all : List Str := ["rules", "text", "machine", "found", "sign"]
abbrev P_read_all : List Str := ["rules", "text"]
theorem sc_read_all : FnScope N_read_all P_read_all (defScope st_read_all) := ⟨rfl, rfl, rfl, by decide +kernel, rfl, by decide +kernel, by decide +kernel⟩
abbrev st_part_of : Stmt := top 17
abbrev N_part_of : List Str := ["rules", "sign", "part"]
abbrev P_part_of : List Str := ["rules", "sign"]
theorem sc_part_of : FnScope N_part_of P_part_of (defScope st_part_of) := ⟨rfl, rfl, rfl, by decide +kernel, rfl, by decide +kernel, by decide +kernel⟩
abbrev st_few_signs : Stmt := top 18
abbrev N_few_signs : List Str := ["one", "other", "found", "sorts", "every", "sign", "sort", "at"]
abbrev P_few_signs : List Str := ["one", "other"]
theorem sc_few_signs : FnScope N_few_signs P_few_signs (defScope st_few_signs) := ⟨rfl, rfl, rfl, by decide +kernel, rfl, by decide +kernel, by decide +kernel⟩
abbrev st_read_alike : Stmt := top 19
abbrev N_read_alike : List Str := ["one", "other", "text", "mine", "theirs", "pair"]
abbrev P_read_alike : List Str := ["one", "other", "text"]
theorem sc_read_alike : FnScope N_read_alike P_read_alike (defScope st_read_alike) := ⟨rfl, rfl, rfl, by decide +kernel, rfl, by decide +kernel, by decide +kernel⟩
abbrev st_trail : Stmt := top 20
abbrev N_trail : List Str := ["rules", "text", "machine", "words", "sign", "pair"]
abbrev P_trail : List Str := ["rules", "text"]
theorem sc_trail : FnScope N_trail P_trail (defScope st_trail) := ⟨rfl, rfl, rfl, by decide +kernel, rfl, by decide +kernel, by decide +kernel⟩
abbrev st_marks_of : Stmt := top 21
abbrev N_marks_of : List Str := ["words", "found", "word"]
abbrev P_marks_of : List Str := ["words"]
theorem sc_marks_of : FnScope N_marks_of P_marks_of (defScope st_marks_of) := ⟨rfl, rfl, rfl, by decide +kernel, rfl, by decide +kernel, by decide +kernel⟩
abbrev st_node_of : Stmt := top 22
abbrev N_node_of : List Str := ["one", "other", "text", "mine", "theirs", "rows", "same", "rest"]
abbrev P_node_of : List Str := ["one", "other", "text"]
theorem sc_node_of : FnScope N_node_of P_node_of (defScope st_node_of) := ⟨rfl, rfl, rfl, by decide +kernel, rfl, by decide +kernel, by decide +kernel⟩
abbrev st_first_parted : Stmt := top 23
abbrev N_first_parted : List Str := ["one", "other", "signs", "seen", "turn", "more", "text", "sign", "node"]
abbrev P_first_parted : List Str := ["one", "other"]
theorem sc_first_parted : FnScope N_first_parted P_first_parted (defScope st_first_parted) := ⟨rfl, rfl, rfl, by decide +kernel, rfl, by decide +kernel, by decide +kernel⟩
abbrev st_Alike_shows : Stmt := inClass (top 26) 0
abbrev N_Alike_shows : List Str := ["self", "one", "other"]
abbrev P_Alike_shows : List Str := ["self", "one", "other"]
theorem sc_Alike_shows : FnScope N_Alike_shows P_Alike_shows (defScope st_Alike_shows) := ⟨rfl, rfl, rfl, by decide +kernel, rfl, by decide +kernel, by decide +kernel⟩
abbrev st_Parted_init : Stmt := inClass (top 27) 0
abbrev N_Parted_init : List Str := ["self", "text"]
abbrev P_Parted_init : List Str := ["self", "text"]
theorem sc_Parted_init : FnScope N_Parted_init P_Parted_init (defScope st_Parted_init) := ⟨rfl, rfl, rfl, by decide +kernel, rfl, by decide +kernel, by decide +kernel⟩
abbrev st_Parted_shows : Stmt := inClass (top 27) 1
abbrev N_Parted_shows : List Str := ["self", "one", "other", "due"]
abbrev P_Parted_shows : List Str := ["self", "one", "other"]
theorem sc_Parted_shows : FnScope N_Parted_shows P_Parted_shows (defScope st_Parted_shows) := ⟨rfl, rfl, rfl, by decide +kernel, rfl, by decide +kernel, by decide +kernel⟩
abbrev st_compared : Stmt := top 29
abbrev N_compared : List Str := ["one", "other", "found"]
abbrev P_compared : List Str := ["one", "other"]
theorem sc_compared : FnScope N_compared P_compared (defScope st_compared) := ⟨rfl, rfl, rfl, by decide +kernel, rfl, by decide +kernel, by decide +kernel⟩
abbrev st__law_cell_at : Stmt := top 31
abbrev N__law_cell_at : List Str := ["_law_script", "_law_k"]
abbrev P__law_cell_at : List Str := ["_law_script", "_law_k"]
theorem sc__law_cell_at : FnScope N__law_cell_at P__law_cell_at (defScope st__law_cell_at) := ⟨rfl, rfl, rfl, by decide +kernel, rfl, by decide +kernel, by decide +kernel⟩
abbrev st__law_draw : Stmt := top 32
abbrev N__law_draw : List Str := ["_law_cell", "_law_k", "_law_most", "_law_primes"]
abbrev P__law_draw : List Str := ["_law_cell", "_law_k", "_law_most"]
theorem sc__law_draw : FnScope N__law_draw P__law_draw (defScope st__law_draw) := ⟨rfl, rfl, rfl, by decide +kernel, rfl, by decide +kernel, by decide +kernel⟩
abbrev st__law_number : Stmt := top 33
abbrev N__law_number : List Str := ["_law_cell", "_law_k", "_law_limit", "_law_rest", "_law_turn", "_law_small"]
abbrev P__law_number : List Str := ["_law_cell", "_law_k", "_law_limit"]
theorem sc__law_number : FnScope N__law_number P__law_number (defScope st__law_number) := ⟨rfl, rfl, rfl, by decide +kernel, rfl, by decide +kernel, by decide +kernel⟩
abbrev st__law_next : Stmt := top 34
abbrev N__law_next : List Str := ["_law_state", "_law_limit", "_law_at", "_law_cell"]
abbrev P__law_next : List Str := ["_law_state", "_law_limit"]
theorem sc__law_next : FnScope N__law_next P__law_next (defScope st__law_next) := ⟨rfl, rfl, rfl, by decide +kernel, rfl, by decide +kernel, by decide +kernel⟩
abbrev st__law_told : Stmt := top 35
abbrev N__law_told : List Str := ["_law_state", "_law_left", "_law_found", "_law_most", "_law_part", "_law_least", "_law_k"]
abbrev P__law_told : List Str := ["_law_state"]
theorem sc__law_told : FnScope N__law_told P__law_told (defScope st__law_told) := ⟨rfl, rfl, rfl, by decide +kernel, rfl, by decide +kernel, by decide +kernel⟩
abbrev st__law_text : Stmt := top 36
abbrev N__law_text : List Str := ["_law_state", "_law_told_here", "_law_most", "_law_signs_here", "_law_found", "_law_k", "_law_some"]
abbrev P__law_text : List Str := ["_law_state", "_law_told_here", "_law_most"]
theorem sc__law_text : FnScope N__law_text P__law_text (defScope st__law_text) := ⟨rfl, rfl, rfl, by decide +kernel, rfl, by decide +kernel, by decide +kernel⟩
abbrev st__law_rules : Stmt := top 37
abbrev N__law_rules : List Str := ["_law_told_here"]
abbrev P__law_rules : List Str := ["_law_told_here"]
theorem sc__law_rules : FnScope N__law_rules P__law_rules (defScope st__law_rules) := ⟨rfl, rfl, rfl, by decide +kernel, rfl, by decide +kernel, by decide +kernel⟩
abbrev st__law_quoted : Stmt := top 38
abbrev N__law_quoted : List Str := ["_law_told_here", "_law_text_here", "_law_at", "_law_begin", "_law_sign", "_law_found"]
abbrev P__law_quoted : List Str := ["_law_told_here", "_law_text_here", "_law_at"]
theorem sc__law_quoted : FnScope N__law_quoted P__law_quoted (defScope st__law_quoted) := ⟨rfl, rfl, rfl, by decide +kernel, rfl, by decide +kernel, by decide +kernel⟩
abbrev st__law_word : Stmt := top 39
abbrev N__law_word : List Str := ["_law_told_here", "_law_text_here", "_law_at", "_law_found", "_law_part"]
abbrev P__law_word : List Str := ["_law_told_here", "_law_text_here", "_law_at"]
theorem sc__law_word : FnScope N__law_word P__law_word (defScope st__law_word) := ⟨rfl, rfl, rfl, by decide +kernel, rfl, by decide +kernel, by decide +kernel⟩
abbrev st__law_read : Stmt := top 40
abbrev N__law_read : List Str := ["_law_told_here", "_law_text_here", "_law_words", "_law_places", "_law_at", "_law_end", "_law_word_here"]
abbrev P__law_read : List Str := ["_law_told_here", "_law_text_here"]
theorem sc__law_read : FnScope N__law_read P__law_read (defScope st__law_read) := ⟨rfl, rfl, rfl, by decide +kernel, rfl, by decide +kernel, by decide +kernel⟩
abbrev st__law_same_rules : Stmt := top 41
abbrev N__law_same_rules : List Str := ["_law_one", "_law_other"]
abbrev P__law_same_rules : List Str := ["_law_one", "_law_other"]
theorem sc__law_same_rules : FnScope N__law_same_rules P__law_same_rules (defScope st__law_same_rules) := ⟨rfl, rfl, rfl, by decide +kernel, rfl, by decide +kernel, by decide +kernel⟩
abbrev st__law_alike : Stmt := top 42
abbrev N__law_alike : List Str := ["_law_one", "_law_other", "_law_text_here", "_law_mine", "_law_theirs"]
abbrev P__law_alike : List Str := ["_law_one", "_law_other", "_law_text_here"]
theorem sc__law_alike : FnScope N__law_alike P__law_alike (defScope st__law_alike) := ⟨rfl, rfl, rfl, by decide +kernel, rfl, by decide +kernel, by decide +kernel⟩
abbrev st__law_signs : Stmt := top 43
abbrev N__law_signs : List Str := ["_law_one", "_law_other", "_law_found", "_law_sign", "_law_few", "_law_late"]
abbrev P__law_signs : List Str := ["_law_one", "_law_other"]
theorem sc__law_signs : FnScope N__law_signs P__law_signs (defScope st__law_signs) := ⟨rfl, rfl, rfl, by decide +kernel, rfl, by decide +kernel, by decide +kernel⟩
abbrev st__law_shorter : Stmt := top 44
abbrev N__law_shorter : List Str := ["_law_one", "_law_other", "_law_many", "_law_signs_here", "_law_texts", "_law_turn", "_law_text_here", "_law_longer", "_law_sign"]
abbrev P__law_shorter : List Str := ["_law_one", "_law_other", "_law_many"]
theorem sc__law_shorter : FnScope N__law_shorter P__law_shorter (defScope st__law_shorter) := ⟨rfl, rfl, rfl, by decide +kernel, rfl, by decide +kernel, by decide +kernel⟩
abbrev st__law_near : Stmt := top 45
abbrev N__law_near : List Str := ["_law_state", "_law_told_here", "_law_parts", "_law_kind", "_law_part"]
abbrev P__law_near : List Str := ["_law_state", "_law_told_here"]
theorem sc__law_near : FnScope N__law_near P__law_near (defScope st__law_near) := ⟨rfl, rfl, rfl, by decide +kernel, rfl, by decide +kernel, by decide +kernel⟩
abbrev st__law_right : Stmt := top 46
abbrev N__law_right : List Str := ["_law_one", "_law_other", "_law_texts", "_law_others", "_law_first", "_law_second", "_law_same", "_law_found", "_law_third", "_law_due", "_law_text_here"]
abbrev P__law_right : List Str := ["_law_one", "_law_other", "_law_texts", "_law_others"]
theorem sc__law_right : FnScope N__law_right P__law_right (defScope st__law_right) := ⟨rfl, rfl, rfl, by decide +kernel, rfl, by decide +kernel, by decide +kernel⟩
abbrev st_law : Stmt := top 47
abbrev N_law : List Str := ["_law_script", "_law_state", "_law_told_here", "_law_other", "_law_near_here", "_law_texts", "_law_ends", "_law_one", "_law_two", "_law_found"]
abbrev P_law : List Str := ["_law_script"]
theorem sc_law : FnScope N_law P_law (defScope st_law) := ⟨rfl, rfl, rfl, by decide +kernel, rfl, by decide +kernel, by decide +kernel⟩
structure Ad where
  c_QuoteError : Addr
  c_BadRules : Addr
  c_Rules : Addr
  c_Machine : Addr
  c_Answer : Addr
  c_Alike : Addr
  c_Parted : Addr
  f_are_signs : Addr
  d_are_signs : FuncData
  f_Rules_init : Addr
  d_Rules_init : FuncData
  f_Rules_told : Addr
  d_Rules_told : FuncData
  f_Rules_quotes : Addr
  d_Rules_quotes : FuncData
  f_Machine_init : Addr
  d_Machine_init : FuncData
  f_Machine_key : Addr
  d_Machine_key : FuncData
  f_Machine_begin : Addr
  d_Machine_begin : FuncData
  f_Machine_ended : Addr
  d_Machine_ended : FuncData
  f_Machine_plain : Addr
  d_Machine_plain : FuncData
  f_Machine_quoted : Addr
  d_Machine_quoted : FuncData
  f_Machine_step : Addr
  d_Machine_step : FuncData
  f_Machine_fault : Addr
  d_Machine_fault : FuncData
  f_read_all : Addr
  d_read_all : FuncData
  f_part_of : Addr
  d_part_of : FuncData
  f_few_signs : Addr
  d_few_signs : FuncData
  f_read_alike : Addr
  d_read_alike : FuncData
  f_trail : Addr
  d_trail : FuncData
  f_marks_of : Addr
  d_marks_of : FuncData
  f_node_of : Addr
  d_node_of : FuncData
  f_first_parted : Addr
  d_first_parted : FuncData
  f_Alike_shows : Addr
  d_Alike_shows : FuncData
  f_Parted_init : Addr
  d_Parted_init : FuncData
  f_Parted_shows : Addr
  d_Parted_shows : FuncData
  f_compared : Addr
  d_compared : FuncData
  f__law_cell_at : Addr
  d__law_cell_at : FuncData
  f__law_draw : Addr
  d__law_draw : FuncData
  f__law_number : Addr
  d__law_number : FuncData
  f__law_next : Addr
  d__law_next : FuncData
  f__law_told : Addr
  d__law_told : FuncData
  f__law_text : Addr
  d__law_text : FuncData
  f__law_rules : Addr
  d__law_rules : FuncData
  f__law_quoted : Addr
  d__law_quoted : FuncData
  f__law_word : Addr
  d__law_word : FuncData
  f__law_read : Addr
  d__law_read : FuncData
  f__law_same_rules : Addr
  d__law_same_rules : FuncData
  f__law_alike : Addr
  d__law_alike : FuncData
  f__law_signs : Addr
  d__law_signs : FuncData
  f__law_shorter : Addr
  d__law_shorter : FuncData
  f__law_near : Addr
  d__law_near : FuncData
  f__law_right : Addr
  d__law_right : FuncData
  f_law : Addr
  d_law : FuncData
  t_LINE_END : Tok
  a_MOST : Addr
  t_PLAIN : Tok
  t_NOTED : Tok
  t_FAR : Tok
  t_LETTERS : Tok
structure GF (K : PySem.W.Frag) (mg : Str → Option Value) (x : Str) (f : Addr) : Prop where
  g : mg x = some (.ref f)
  k : PySem.W.keepIn K (.ref f) = true
structure CF (K : PySem.W.Frag) (mg : Str → Option Value) (x : Str) (C f : Addr) : Prop where
  g : mg x = some (.ref C)
  cl : Cls K C
  mc : Mk K C f
/-- a class that has no __init__ of its own -/
structure Mk0 (K : PySem.W.Frag) (C : Addr) : Prop where
  makes : PySem.W.makesIn K C = true
  init : PySem.W.findIn K (.ref C) "__init__" = some (some (.builtin "object.__init__"))
  kp : PySem.W.keepIn K (.ref C) = true
structure C0 (K : PySem.W.Frag) (mg : Str → Option Value) (x : Str) (C : Addr) : Prop where
  g : mg x = some (.ref C)
  cl : Cls K C
  mc : Mk0 K C
structure CG (mg : Str → Option Value) (x : Str) (C : Addr) : Prop where
  g : mg x = some (.ref C)
/-- what isinstance asks of a class -/
structure IsF (K : PySem.W.Frag) (C : Addr) : Prop where
  ha : PySem.W.findIn K (.ref C) "__class__" = some (some (.builtin "object.__class__"))
  hn : PySem.W.specialIn K (.builtin "object.__class__") "__get__" = some (some (.builtin "getset_descriptor.__get__"))
  ht : PySem.W.takesIn K (.builtin "object.__class__") = some true
  hm : PySem.W.mroIn K C (.type "object") = some true
/-- a def whose code object stands at c -/
def CodeAt (K : PySem.W.Frag) (x qual : Str) (st : Stmt) (f : Addr) (fd : FuncData) (c : Addr) : Prop := ∃ (oc : Value) (od : Option Addr) (kV doc pm : Value) (an : Option Addr) (ct : Value) (osl : Array (Option Value)),
  fd = PySem.W.fnOf x qual (defArgs st) (defBody st) (defScope st) .none kV doc pm an (.ref c) ct ∧ K.lookup f = some ⟨oc, od, .func fd, osl⟩ ∧ PySem.W.codeIn K (.ref c) qual = true
structure Txt (K : PySem.W.Frag) (mg : Str → Option Value) (a : Ad) : Prop where
  F_are_signs : Fun K "are_signs" "are_signs" st_are_signs a.f_are_signs a.d_are_signs
  f_are_signs : GF K mg "are_signs" a.f_are_signs
  F_Rules_init : FunD K "__init__" "Rules.__init__" (defArgs st_Rules_init) (defBody st_Rules_init) (defScope st_Rules_init) [.str (" " : Str), .str ("'" : Str), .str ("\"" : Str), .str ("\\" : Str), .str ("#" : Str)] [] a.f_Rules_init a.d_Rules_init
  F_Rules_told : Fun K "told" "Rules.told" st_Rules_told a.f_Rules_told a.d_Rules_told
  m_Rules_told : Meth K a.c_Rules "told" a.f_Rules_told
  F_Rules_quotes : Fun K "quotes" "Rules.quotes" st_Rules_quotes a.f_Rules_quotes a.d_Rules_quotes
  m_Rules_quotes : Meth K a.c_Rules "quotes" a.f_Rules_quotes
  F_Machine_init : Fun K "__init__" "Machine.__init__" st_Machine_init a.f_Machine_init a.d_Machine_init
  F_Machine_key : Fun K "key" "Machine.key" st_Machine_key a.f_Machine_key a.d_Machine_key
  m_Machine_key : Meth K a.c_Machine "key" a.f_Machine_key
  F_Machine_begin : Fun K "begin" "Machine.begin" st_Machine_begin a.f_Machine_begin a.d_Machine_begin
  m_Machine_begin : Meth K a.c_Machine "begin" a.f_Machine_begin
  F_Machine_ended : Fun K "ended" "Machine.ended" st_Machine_ended a.f_Machine_ended a.d_Machine_ended
  m_Machine_ended : Meth K a.c_Machine "ended" a.f_Machine_ended
  F_Machine_plain : Fun K "plain" "Machine.plain" st_Machine_plain a.f_Machine_plain a.d_Machine_plain
  m_Machine_plain : Meth K a.c_Machine "plain" a.f_Machine_plain
  F_Machine_quoted : Fun K "quoted" "Machine.quoted" st_Machine_quoted a.f_Machine_quoted a.d_Machine_quoted
  m_Machine_quoted : Meth K a.c_Machine "quoted" a.f_Machine_quoted
  F_Machine_step : Fun K "step" "Machine.step" st_Machine_step a.f_Machine_step a.d_Machine_step
  m_Machine_step : Meth K a.c_Machine "step" a.f_Machine_step
  F_Machine_fault : Fun K "fault" "Machine.fault" st_Machine_fault a.f_Machine_fault a.d_Machine_fault
  m_Machine_fault : Meth K a.c_Machine "fault" a.f_Machine_fault
  F_read_all : Fun K "read_all" "read_all" st_read_all a.f_read_all a.d_read_all
  f_read_all : GF K mg "read_all" a.f_read_all
  F_part_of : Fun K "part_of" "part_of" st_part_of a.f_part_of a.d_part_of
  f_part_of : GF K mg "part_of" a.f_part_of
  F_few_signs : Fun K "few_signs" "few_signs" st_few_signs a.f_few_signs a.d_few_signs
  f_few_signs : GF K mg "few_signs" a.f_few_signs
  F_read_alike : Fun K "read_alike" "read_alike" st_read_alike a.f_read_alike a.d_read_alike
  f_read_alike : GF K mg "read_alike" a.f_read_alike
  F_trail : Fun K "trail" "trail" st_trail a.f_trail a.d_trail
  f_trail : GF K mg "trail" a.f_trail
  F_marks_of : Fun K "marks_of" "marks_of" st_marks_of a.f_marks_of a.d_marks_of
  f_marks_of : GF K mg "marks_of" a.f_marks_of
  F_node_of : Fun K "node_of" "node_of" st_node_of a.f_node_of a.d_node_of
  f_node_of : GF K mg "node_of" a.f_node_of
  F_first_parted : Fun K "first_parted" "first_parted" st_first_parted a.f_first_parted a.d_first_parted
  f_first_parted : GF K mg "first_parted" a.f_first_parted
  F_Alike_shows : Fun K "shows" "Alike.shows" st_Alike_shows a.f_Alike_shows a.d_Alike_shows
  m_Alike_shows : Meth K a.c_Alike "shows" a.f_Alike_shows
  F_Parted_init : Fun K "__init__" "Parted.__init__" st_Parted_init a.f_Parted_init a.d_Parted_init
  F_Parted_shows : Fun K "shows" "Parted.shows" st_Parted_shows a.f_Parted_shows a.d_Parted_shows
  m_Parted_shows : Meth K a.c_Parted "shows" a.f_Parted_shows
  F_compared : Fun K "compared" "compared" st_compared a.f_compared a.d_compared
  f_compared : GF K mg "compared" a.f_compared
  F__law_cell_at : Fun K "_law_cell_at" "_law_cell_at" st__law_cell_at a.f__law_cell_at a.d__law_cell_at
  f__law_cell_at : GF K mg "_law_cell_at" a.f__law_cell_at
  F__law_draw : Fun K "_law_draw" "_law_draw" st__law_draw a.f__law_draw a.d__law_draw
  f__law_draw : GF K mg "_law_draw" a.f__law_draw
  F__law_number : Fun K "_law_number" "_law_number" st__law_number a.f__law_number a.d__law_number
  f__law_number : GF K mg "_law_number" a.f__law_number
  F__law_next : Fun K "_law_next" "_law_next" st__law_next a.f__law_next a.d__law_next
  f__law_next : GF K mg "_law_next" a.f__law_next
  F__law_told : Fun K "_law_told" "_law_told" st__law_told a.f__law_told a.d__law_told
  f__law_told : GF K mg "_law_told" a.f__law_told
  F__law_text : Fun K "_law_text" "_law_text" st__law_text a.f__law_text a.d__law_text
  f__law_text : GF K mg "_law_text" a.f__law_text
  F__law_rules : Fun K "_law_rules" "_law_rules" st__law_rules a.f__law_rules a.d__law_rules
  f__law_rules : GF K mg "_law_rules" a.f__law_rules
  F__law_quoted : Fun K "_law_quoted" "_law_quoted" st__law_quoted a.f__law_quoted a.d__law_quoted
  f__law_quoted : GF K mg "_law_quoted" a.f__law_quoted
  F__law_word : Fun K "_law_word" "_law_word" st__law_word a.f__law_word a.d__law_word
  f__law_word : GF K mg "_law_word" a.f__law_word
  F__law_read : Fun K "_law_read" "_law_read" st__law_read a.f__law_read a.d__law_read
  f__law_read : GF K mg "_law_read" a.f__law_read
  F__law_same_rules : Fun K "_law_same_rules" "_law_same_rules" st__law_same_rules a.f__law_same_rules a.d__law_same_rules
  f__law_same_rules : GF K mg "_law_same_rules" a.f__law_same_rules
  F__law_alike : Fun K "_law_alike" "_law_alike" st__law_alike a.f__law_alike a.d__law_alike
  f__law_alike : GF K mg "_law_alike" a.f__law_alike
  F__law_signs : Fun K "_law_signs" "_law_signs" st__law_signs a.f__law_signs a.d__law_signs
  f__law_signs : GF K mg "_law_signs" a.f__law_signs
  F__law_shorter : Fun K "_law_shorter" "_law_shorter" st__law_shorter a.f__law_shorter a.d__law_shorter
  f__law_shorter : GF K mg "_law_shorter" a.f__law_shorter
  F__law_near : Fun K "_law_near" "_law_near" st__law_near a.f__law_near a.d__law_near
  f__law_near : GF K mg "_law_near" a.f__law_near
  F__law_right : Fun K "_law_right" "_law_right" st__law_right a.f__law_right a.d__law_right
  f__law_right : GF K mg "_law_right" a.f__law_right
  F_law : Fun K "law" "law" st_law a.f_law a.d_law
  f_law : GF K mg "law" a.f_law
  c_Rules : CF K mg "Rules" a.c_Rules a.f_Rules_init
  n_Rules_breaks : NoAttr K a.c_Rules "breaks"
  n_Rules_hard : NoAttr K a.c_Rules "hard"
  n_Rules_soft : NoAttr K a.c_Rules "soft"
  n_Rules_bend : NoAttr K a.c_Rules "bend"
  n_Rules_note : NoAttr K a.c_Rules "note"
  c_Machine : CF K mg "Machine" a.c_Machine a.f_Machine_init
  n_Machine_rules : NoAttr K a.c_Machine "rules"
  n_Machine_state : NoAttr K a.c_Machine "state"
  n_Machine_bent : NoAttr K a.c_Machine "bent"
  n_Machine_word : NoAttr K a.c_Machine "word"
  n_Machine_begun : NoAttr K a.c_Machine "begun"
  n_Machine_opened : NoAttr K a.c_Machine "opened"
  n_Machine_place : NoAttr K a.c_Machine "place"
  c_Alike : C0 K mg "Alike" a.c_Alike
  c_Parted : CF K mg "Parted" a.c_Parted a.f_Parted_init
  n_Parted_text : NoAttr K a.c_Parted "text"
  g_LINE_END : mg "LINE_END" = some (Value.str ("\n" : Str) a.t_LINE_END)
  g_MOST : mg "MOST" = some (Value.ref a.a_MOST)
  s_MOST : ∀ H, SqT K H a.a_MOST [.int 4, .int 2, .int 2, .int 1, .int 1]
  g_PLAIN : mg "PLAIN" = some (Value.str ("" : Str) a.t_PLAIN)
  g_NOTED : mg "NOTED" = some (Value.str ("note" : Str) a.t_NOTED)
  g_FAR : mg "FAR" = some (Value.int 8 a.t_FAR)
  g_LETTERS : mg "LETTERS" = some (Value.str ("abcdefghijklmnopqrstuvwxyz0123456789" : Str) a.t_LETTERS)
  b_isinstance : mg "isinstance" = none
  b_all : mg "all" = none
  b_any : mg "any" = none
  b_zip : mg "zip" = none
  b_len : mg "len" = none
  b_set : mg "set" = none
  b_str : mg "str" = none
  b_list : mg "list" = none
  b_range : mg "range" = none
  b_int : mg "int" = none
  b_tuple : mg "tuple" = none
  b_max : mg "max" = none
  b_min : mg "min" = none
  b_enumerate : mg "enumerate" = none
  b_sorted : mg "sorted" = none
  i_Rules : IsF K a.c_Rules
  k_RR : PySem.W.kitOne K (.ref a.c_Rules) (.ref a.c_Rules) = some true
  c_Answer : CG mg "Answer" a.c_Answer
  i_Alike : IsF K a.c_Alike
  i_Parted : IsF K a.c_Parted
  k_AlAn : PySem.W.kitOne K (.ref a.c_Alike) (.ref a.c_Answer) = some true
  k_PaAn : PySem.W.kitOne K (.ref a.c_Parted) (.ref a.c_Answer) = some true
  k_AlAl : PySem.W.kitOne K (.ref a.c_Alike) (.ref a.c_Alike) = some true
  k_PaPa : PySem.W.kitOne K (.ref a.c_Parted) (.ref a.c_Parted) = some true
  k_AlPa : PySem.W.kitOne K (.ref a.c_Alike) (.ref a.c_Parted) = some false
  k_PaAl : PySem.W.kitOne K (.ref a.c_Parted) (.ref a.c_Alike) = some false
theorem bi_are_signs {K : PySem.W.Frag} {mg : Str → Option Value} {a : Ad} (T : Txt K mg a) : Binds K a.d_are_signs P_are_signs [] := T.F_are_signs.binds (ps := P_are_signs) fun _ _ _ _ _ _ us hl => match us, hl with | [_], _ => rfl
theorem bi_Rules_told {K : PySem.W.Frag} {mg : Str → Option Value} {a : Ad} (T : Txt K mg a) : Binds K a.d_Rules_told P_Rules_told [] := T.F_Rules_told.binds (ps := P_Rules_told) fun _ _ _ _ _ _ us hl => match us, hl with | [_], _ => rfl
theorem bi_Rules_quotes {K : PySem.W.Frag} {mg : Str → Option Value} {a : Ad} (T : Txt K mg a) : Binds K a.d_Rules_quotes P_Rules_quotes [] := T.F_Rules_quotes.binds (ps := P_Rules_quotes) fun _ _ _ _ _ _ us hl => match us, hl with | [_], _ => rfl
theorem bi_Machine_init {K : PySem.W.Frag} {mg : Str → Option Value} {a : Ad} (T : Txt K mg a) : Binds K a.d_Machine_init P_Machine_init [] := T.F_Machine_init.binds (ps := P_Machine_init) fun _ _ _ _ _ _ us hl => match us, hl with | [_, _], _ => rfl
theorem bi_Machine_key {K : PySem.W.Frag} {mg : Str → Option Value} {a : Ad} (T : Txt K mg a) : Binds K a.d_Machine_key P_Machine_key [] := T.F_Machine_key.binds (ps := P_Machine_key) fun _ _ _ _ _ _ us hl => match us, hl with | [_], _ => rfl
theorem bi_Machine_begin {K : PySem.W.Frag} {mg : Str → Option Value} {a : Ad} (T : Txt K mg a) : Binds K a.d_Machine_begin P_Machine_begin [] := T.F_Machine_begin.binds (ps := P_Machine_begin) fun _ _ _ _ _ _ us hl => match us, hl with | [_], _ => rfl
theorem bi_Machine_ended {K : PySem.W.Frag} {mg : Str → Option Value} {a : Ad} (T : Txt K mg a) : Binds K a.d_Machine_ended P_Machine_ended [] := T.F_Machine_ended.binds (ps := P_Machine_ended) fun _ _ _ _ _ _ us hl => match us, hl with | [_], _ => rfl
theorem bi_Machine_plain {K : PySem.W.Frag} {mg : Str → Option Value} {a : Ad} (T : Txt K mg a) : Binds K a.d_Machine_plain P_Machine_plain [] := T.F_Machine_plain.binds (ps := P_Machine_plain) fun _ _ _ _ _ _ us hl => match us, hl with | [_, _], _ => rfl
theorem bi_Machine_quoted {K : PySem.W.Frag} {mg : Str → Option Value} {a : Ad} (T : Txt K mg a) : Binds K a.d_Machine_quoted P_Machine_quoted [] := T.F_Machine_quoted.binds (ps := P_Machine_quoted) fun _ _ _ _ _ _ us hl => match us, hl with | [_, _], _ => rfl
theorem bi_Machine_step {K : PySem.W.Frag} {mg : Str → Option Value} {a : Ad} (T : Txt K mg a) : Binds K a.d_Machine_step P_Machine_step [] := T.F_Machine_step.binds (ps := P_Machine_step) fun _ _ _ _ _ _ us hl => match us, hl with | [_, _], _ => rfl
theorem bi_Machine_fault {K : PySem.W.Frag} {mg : Str → Option Value} {a : Ad} (T : Txt K mg a) : Binds K a.d_Machine_fault P_Machine_fault [] := T.F_Machine_fault.binds (ps := P_Machine_fault) fun _ _ _ _ _ _ us hl => match us, hl with | [_], _ => rfl
theorem bi_read_all {K : PySem.W.Frag} {mg : Str → Option Value} {a : Ad} (T : Txt K mg a) : Binds K a.d_read_all P_read_all [] := T.F_read_all.binds (ps := P_read_all) fun _ _ _ _ _ _ us hl => match us, hl with | [_, _], _ => rfl
theorem bi_part_of {K : PySem.W.Frag} {mg : Str → Option Value} {a : Ad} (T : Txt K mg a) : Binds K a.d_part_of P_part_of [] := T.F_part_of.binds (ps := P_part_of) fun _ _ _ _ _ _ us hl => match us, hl with | [_, _], _ => rfl
theorem bi_few_signs {K : PySem.W.Frag} {mg : Str → Option Value} {a : Ad} (T : Txt K mg a) : Binds K a.d_few_signs P_few_signs [] := T.F_few_signs.binds (ps := P_few_signs) fun _ _ _ _ _ _ us hl => match us, hl with | [_, _], _ => rfl
theorem bi_read_alike {K : PySem.W.Frag} {mg : Str → Option Value} {a : Ad} (T : Txt K mg a) : Binds K a.d_read_alike P_read_alike [] := T.F_read_alike.binds (ps := P_read_alike) fun _ _ _ _ _ _ us hl => match us, hl with | [_, _, _], _ => rfl
theorem bi_trail {K : PySem.W.Frag} {mg : Str → Option Value} {a : Ad} (T : Txt K mg a) : Binds K a.d_trail P_trail [] := T.F_trail.binds (ps := P_trail) fun _ _ _ _ _ _ us hl => match us, hl with | [_, _], _ => rfl
theorem bi_marks_of {K : PySem.W.Frag} {mg : Str → Option Value} {a : Ad} (T : Txt K mg a) : Binds K a.d_marks_of P_marks_of [] := T.F_marks_of.binds (ps := P_marks_of) fun _ _ _ _ _ _ us hl => match us, hl with | [_], _ => rfl
theorem bi_node_of {K : PySem.W.Frag} {mg : Str → Option Value} {a : Ad} (T : Txt K mg a) : Binds K a.d_node_of P_node_of [] := T.F_node_of.binds (ps := P_node_of) fun _ _ _ _ _ _ us hl => match us, hl with | [_, _, _], _ => rfl
theorem bi_first_parted {K : PySem.W.Frag} {mg : Str → Option Value} {a : Ad} (T : Txt K mg a) : Binds K a.d_first_parted P_first_parted [] := T.F_first_parted.binds (ps := P_first_parted) fun _ _ _ _ _ _ us hl => match us, hl with | [_, _], _ => rfl
theorem bi_Alike_shows {K : PySem.W.Frag} {mg : Str → Option Value} {a : Ad} (T : Txt K mg a) : Binds K a.d_Alike_shows P_Alike_shows [] := T.F_Alike_shows.binds (ps := P_Alike_shows) fun _ _ _ _ _ _ us hl => match us, hl with | [_, _, _], _ => rfl
theorem bi_Parted_init {K : PySem.W.Frag} {mg : Str → Option Value} {a : Ad} (T : Txt K mg a) : Binds K a.d_Parted_init P_Parted_init [] := T.F_Parted_init.binds (ps := P_Parted_init) fun _ _ _ _ _ _ us hl => match us, hl with | [_, _], _ => rfl
theorem bi_Parted_shows {K : PySem.W.Frag} {mg : Str → Option Value} {a : Ad} (T : Txt K mg a) : Binds K a.d_Parted_shows P_Parted_shows [] := T.F_Parted_shows.binds (ps := P_Parted_shows) fun _ _ _ _ _ _ us hl => match us, hl with | [_, _, _], _ => rfl
theorem bi_compared {K : PySem.W.Frag} {mg : Str → Option Value} {a : Ad} (T : Txt K mg a) : Binds K a.d_compared P_compared [] := T.F_compared.binds (ps := P_compared) fun _ _ _ _ _ _ us hl => match us, hl with | [_, _], _ => rfl
theorem bi__law_cell_at {K : PySem.W.Frag} {mg : Str → Option Value} {a : Ad} (T : Txt K mg a) : Binds K a.d__law_cell_at P__law_cell_at [] := T.F__law_cell_at.binds (ps := P__law_cell_at) fun _ _ _ _ _ _ us hl => match us, hl with | [_, _], _ => rfl
theorem bi__law_draw {K : PySem.W.Frag} {mg : Str → Option Value} {a : Ad} (T : Txt K mg a) : Binds K a.d__law_draw P__law_draw [] := T.F__law_draw.binds (ps := P__law_draw) fun _ _ _ _ _ _ us hl => match us, hl with | [_, _, _], _ => rfl
theorem bi__law_number {K : PySem.W.Frag} {mg : Str → Option Value} {a : Ad} (T : Txt K mg a) : Binds K a.d__law_number P__law_number [] := T.F__law_number.binds (ps := P__law_number) fun _ _ _ _ _ _ us hl => match us, hl with | [_, _, _], _ => rfl
theorem bi__law_next {K : PySem.W.Frag} {mg : Str → Option Value} {a : Ad} (T : Txt K mg a) : Binds K a.d__law_next P__law_next [] := T.F__law_next.binds (ps := P__law_next) fun _ _ _ _ _ _ us hl => match us, hl with | [_, _], _ => rfl
theorem bi__law_told {K : PySem.W.Frag} {mg : Str → Option Value} {a : Ad} (T : Txt K mg a) : Binds K a.d__law_told P__law_told [] := T.F__law_told.binds (ps := P__law_told) fun _ _ _ _ _ _ us hl => match us, hl with | [_], _ => rfl
theorem bi__law_text {K : PySem.W.Frag} {mg : Str → Option Value} {a : Ad} (T : Txt K mg a) : Binds K a.d__law_text P__law_text [] := T.F__law_text.binds (ps := P__law_text) fun _ _ _ _ _ _ us hl => match us, hl with | [_, _, _], _ => rfl
theorem bi__law_rules {K : PySem.W.Frag} {mg : Str → Option Value} {a : Ad} (T : Txt K mg a) : Binds K a.d__law_rules P__law_rules [] := T.F__law_rules.binds (ps := P__law_rules) fun _ _ _ _ _ _ us hl => match us, hl with | [_], _ => rfl
theorem bi__law_quoted {K : PySem.W.Frag} {mg : Str → Option Value} {a : Ad} (T : Txt K mg a) : Binds K a.d__law_quoted P__law_quoted [] := T.F__law_quoted.binds (ps := P__law_quoted) fun _ _ _ _ _ _ us hl => match us, hl with | [_, _, _], _ => rfl
theorem bi__law_word {K : PySem.W.Frag} {mg : Str → Option Value} {a : Ad} (T : Txt K mg a) : Binds K a.d__law_word P__law_word [] := T.F__law_word.binds (ps := P__law_word) fun _ _ _ _ _ _ us hl => match us, hl with | [_, _, _], _ => rfl
theorem bi__law_read {K : PySem.W.Frag} {mg : Str → Option Value} {a : Ad} (T : Txt K mg a) : Binds K a.d__law_read P__law_read [] := T.F__law_read.binds (ps := P__law_read) fun _ _ _ _ _ _ us hl => match us, hl with | [_, _], _ => rfl
theorem bi__law_same_rules {K : PySem.W.Frag} {mg : Str → Option Value} {a : Ad} (T : Txt K mg a) : Binds K a.d__law_same_rules P__law_same_rules [] := T.F__law_same_rules.binds (ps := P__law_same_rules) fun _ _ _ _ _ _ us hl => match us, hl with | [_, _], _ => rfl
theorem bi__law_alike {K : PySem.W.Frag} {mg : Str → Option Value} {a : Ad} (T : Txt K mg a) : Binds K a.d__law_alike P__law_alike [] := T.F__law_alike.binds (ps := P__law_alike) fun _ _ _ _ _ _ us hl => match us, hl with | [_, _, _], _ => rfl
theorem bi__law_signs {K : PySem.W.Frag} {mg : Str → Option Value} {a : Ad} (T : Txt K mg a) : Binds K a.d__law_signs P__law_signs [] := T.F__law_signs.binds (ps := P__law_signs) fun _ _ _ _ _ _ us hl => match us, hl with | [_, _], _ => rfl
theorem bi__law_shorter {K : PySem.W.Frag} {mg : Str → Option Value} {a : Ad} (T : Txt K mg a) : Binds K a.d__law_shorter P__law_shorter [] := T.F__law_shorter.binds (ps := P__law_shorter) fun _ _ _ _ _ _ us hl => match us, hl with | [_, _, _], _ => rfl
theorem bi__law_near {K : PySem.W.Frag} {mg : Str → Option Value} {a : Ad} (T : Txt K mg a) : Binds K a.d__law_near P__law_near [] := T.F__law_near.binds (ps := P__law_near) fun _ _ _ _ _ _ us hl => match us, hl with | [_, _], _ => rfl
theorem bi__law_right {K : PySem.W.Frag} {mg : Str → Option Value} {a : Ad} (T : Txt K mg a) : Binds K a.d__law_right P__law_right [] := T.F__law_right.binds (ps := P__law_right) fun _ _ _ _ _ _ us hl => match us, hl with | [_, _, _, _], _ => rfl
theorem bi_law {K : PySem.W.Frag} {mg : Str → Option Value} {a : Ad} (T : Txt K mg a) : Binds K a.d_law P_law [] := T.F_law.binds (ps := P_law) fun _ _ _ _ _ _ us hl => match us, hl with | [_], _ => rfl
end Qw

set_option Elab.async false
set_option linter.all false
set_option maxRecDepth 100000
set_option maxHeartbeats 4000000
namespace Qw
open PySem L2
/-! ### the machine, told in plain Lean -/
structure RS where
  breaks : Tx
  hard : Tx
  soft : Tx
  bend : Tx
  note : Tx
def RS.f (r : RS) : List (Str × V) := [("breaks", .str (S r.breaks)), ("hard", .str (S r.hard)), ("soft", .str (S r.soft)), ("bend", .str (S r.bend)), ("note", .str (S r.note))]
def RS.quotes (r : RS) : Tx := r.hard ++ r.soft
abbrev NT : Tx := [110, 111, 116, 101]
abbrev LE : Nat := 10
abbrev W3 := Tx × Nat × Nat
structure MS where
  rules : Addr
  state : Tx
  bent : Bool
  word : Option Tx
  begun : Nat
  opened : Nat
  place : Nat
def oV : Option Tx → V
  | none => .non
  | some w => .str (S w)
def MS.f (m : MS) : List (Str × V) := [("rules", .ref m.rules), ("state", .str (S m.state)), ("bent", .bl m.bent), ("word", oV m.word), ("begun", .int m.begun), ("opened", .int m.opened), ("place", .int m.place)]
def MS.zero (r : Addr) : MS := ⟨r, [], false, none, 0, 0, 0⟩
def MS.begin (m : MS) : MS := match m.word with
  | none => { m with word := some [], begun := m.place }
  | some _ => m
def MS.out (m : MS) : List W3 := match m.word with
  | none => []
  | some w => [(w, m.begun, m.place)]
def MS.drop (m : MS) : MS := { m with word := none }
def MS.add (m : MS) (c : Nat) : MS := { m with word := m.word.map (· ++ [c]) }
def MS.plain (r : RS) (m : MS) (c : Nat) : MS × List W3 :=
  if c ∈ r.breaks then (m.drop, m.out)
  else if c ∈ r.note then ({ m.drop with state := NT }, m.out)
  else if c ∈ r.quotes then ({ m.begin with state := [c], opened := m.begin.place }, [])
  else if c ∈ r.bend then ({ m.begin with bent := true, opened := m.begin.place }, [])
  else (m.begin.add c, [])
section lk
variable (r : RS) (m : MS)
theorem lk_breaks : List.lookup ("breaks" : Str) r.f = some (.str (S r.breaks)) := by kernel_rfl
theorem lk_hard : List.lookup ("hard" : Str) r.f = some (.str (S r.hard)) := by kernel_rfl
theorem lk_soft : List.lookup ("soft" : Str) r.f = some (.str (S r.soft)) := by kernel_rfl
theorem lk_bend : List.lookup ("bend" : Str) r.f = some (.str (S r.bend)) := by kernel_rfl
theorem lk_note : List.lookup ("note" : Str) r.f = some (.str (S r.note)) := by kernel_rfl
theorem lk_rules : List.lookup ("rules" : Str) m.f = some (.ref m.rules) := by kernel_rfl
theorem lk_state : List.lookup ("state" : Str) m.f = some (.str (S m.state)) := by kernel_rfl
theorem lk_bent : List.lookup ("bent" : Str) m.f = some (.bl m.bent) := by kernel_rfl
theorem lk_word : List.lookup ("word" : Str) m.f = some (oV m.word) := by kernel_rfl
theorem lk_begun : List.lookup ("begun" : Str) m.f = some (.int m.begun) := by kernel_rfl
theorem lk_opened : List.lookup ("opened" : Str) m.f = some (.int m.opened) := by kernel_rfl
theorem lk_place : List.lookup ("place" : Str) m.f = some (.int m.place) := by kernel_rfl
theorem pt_state (x : Tx) : putF ("state" : Str) (.str (S x)) m.f = { m with state := x }.f := by kernel_rfl
theorem pt_bent (x : Bool) : putF ("bent" : Str) (.bl x) m.f = { m with bent := x }.f := by kernel_rfl
theorem pt_word (x : Option Tx) : putF ("word" : Str) (oV x) m.f = { m with word := x }.f := by kernel_rfl
theorem pt_begun (x : Nat) : putF ("begun" : Str) (.int x) m.f = { m with begun := x }.f := by kernel_rfl
theorem pt_opened (x : Nat) : putF ("opened" : Str) (.int x) m.f = { m with opened := x }.f := by kernel_rfl
theorem pt_place (x : Nat) : putF ("place" : Str) (.int x) m.f = { m with place := x }.f := by kernel_rfl
theorem pt_wordS (x : Tx) : putF ("word" : Str) (.str (S x)) m.f = { m with word := some x }.f := by kernel_rfl
theorem pt_wordN : putF ("word" : Str) .non m.f = { m with word := none }.f := by kernel_rfl
theorem pt_place1 (x : Nat) : putF ("place" : Str) (.int ((x : Int) + 1)) m.f = { m with place := x + 1 }.f := by kernel_rfl
theorem litv_empty : V.str (Str.ofString "") = V.str (S []) := by decide +kernel
theorem litv_note : V.str (Str.ofString "note") = V.str (S NT) := by decide +kernel
theorem litv_nl : V.str (Str.ofString "\n") = V.str (S [LE]) := by decide +kernel
theorem lkn_begin : List.lookup ("begin" : Str) m.f = none := by kernel_rfl
theorem lkn_ended : List.lookup ("ended" : Str) m.f = none := by kernel_rfl
theorem lkn_plain : List.lookup ("plain" : Str) m.f = none := by kernel_rfl
theorem lkn_quoted : List.lookup ("quoted" : Str) m.f = none := by kernel_rfl
theorem lkn_step : List.lookup ("step" : Str) m.f = none := by kernel_rfl
theorem lkn_fault : List.lookup ("fault" : Str) m.f = none := by kernel_rfl
theorem lkn_key : List.lookup ("key" : Str) m.f = none := by kernel_rfl
theorem lkn_told : List.lookup ("told" : Str) r.f = none := by kernel_rfl
theorem lkn_quotes : List.lookup ("quotes" : Str) r.f = none := by kernel_rfl
theorem lkn_special : List.lookup ("special" : Str) r.f = none := by kernel_rfl
theorem oV_inj {x y : Option Tx} : oV x = oV y ↔ x = y := by
  cases x <;> cases y <;> simp [oV, S_inj]
theorem mf_inj {m m' : MS} : m.f = m'.f ↔ m = m' := by
  constructor
  · intro h
    cases m; cases m'
    simp only [MS.f, List.cons.injEq, Prod.mk.injEq, V.ref.injEq, V.str.injEq, V.bl.injEq, V.int.injEq, S_inj, oV_inj, true_and, and_true, Int.natCast_inj] at h
    obtain ⟨h1, h2, h3, h4, h5, h6, h7⟩ := h
    subst h1 h2 h3 h4 h5 h6 h7
    rfl
  · intro h; rw [h]
theorem rf_inj {r r' : RS} : r.f = r'.f ↔ r = r' := by
  constructor
  · intro h
    cases r; cases r'
    simp only [RS.f, List.cons.injEq, Prod.mk.injEq, V.str.injEq, S_inj, true_and, and_true] at h
    obtain ⟨h1, h2, h3, h4, h5⟩ := h
    subst h1 h2 h3 h4 h5
    rfl
  · intro h; rw [h]
theorem pt_open1 (x : Nat) : putF ("opened" : Str) (.int ((x : Int) + 1)) m.f = { m with opened := x + 1 }.f := by kernel_rfl
theorem len_mf : m.f.length < 1000 := by show 7 < 1000; decide
end lk
theorem cx_K {CX : CXT} {P : Program} {w : World} {K : PySem.W.Frag} {mg : Str → Option Value} {base : Heap} {N : List Str} {q : Str} {sc : Scope} {f : Addr} {cd : Value} {A : Around} {o : List Env} {s : Shared} {H : Hp} {E : XK} : (cxOf CX P w K mg base N q sc f cd A o s H E).K = K := rfl
theorem cx_N {CX : CXT} {P : Program} {w : World} {K : PySem.W.Frag} {mg : Str → Option Value} {base : Heap} {N : List Str} {q : Str} {sc : Scope} {f : Addr} {cd : Value} {A : Around} {o : List Env} {s : Shared} {H : Hp} {E : XK} : (cxOf CX P w K mg base N q sc f cd A o s H E).nox.K = K := rfl
local macro_rules | `(tactic| walk_at "rd") => `(tactic| simp only [tSeq, tNext, tAsg, tRet, tRetN, tDrop, tIfS, sFld, sFldAug, tVar, tC, tOp, tUn, tTest, tB, tAnd, tOr, tNot, tAndV, tOrV, tNotV, tIf, tTup, tLst, tCons, tNil, tCB, tCall, tMeth, tMake, tFld, rI, rI0, rU, rEq, rNe, rCat, gName, gTup, gCons, gNil, tPar, tPar3, tBM, tBM0, rAppend, rExtend, rPopAt, rIxL, rIxT, rIxS, tSl, rSlS, rSlL, tPart, tNoPart, iStr, iTup, iList, iRng1, tAug, ipI, L2.rAdd, L2.rSub, L2.rAddS, tChain, rIsB, rNotB, scal_ss, scal_ii, scal_bb, scal_nn, scal_in, scal_ni, tYes,
  cx_K, cx_N, List.getElem?_cons_zero, List.getElem?_cons_succ, List.set_cons_zero, List.set_cons_succ, List.nil_append, List.cons_append, List.append_nil, List.length_cons, List.length_nil, Nat.zero_add,
  Option.some.injEq, V.ref.injEq, V.int.injEq, V.str.injEq, V.bl.injEq, HO.ins.injEq, HO.lst.injEq, HO.tup.injEq, List.cons.injEq, exists_eq_left, exists_eq_left', exists_eq_right, exists_eq_right', and_true, true_and, exists_and_left, exists_and_right, and_assoc, decide_eq_true_eq, Bool.not_eq_true', decide_eq_false_iff_not, reduceCtorEq, exists_const, forall_const, if_true, if_false, false_and, and_false, ite_true, ite_false, Bool.true_eq_false, Bool.false_eq_true, Nat.reduceLeDiff, Nat.reduceAdd, small_line, small_lt, upd_ne, ne_eq, not_false_eq_true, Nat.zero_le, Prod.mk.injEq, upd_same, upd_upd, S_tl, S_len, S_app, S_one, S_inj,
  lk_breaks, lk_hard, lk_soft, lk_bend, lk_note, lk_rules, lk_state, lk_bent, lk_word, lk_begun, lk_opened, lk_place, pt_state, pt_bent, pt_word, pt_wordS, pt_wordN, pt_begun, pt_opened, pt_place, pt_place1, len_mf, litv_empty, litv_note, litv_nl, mf_inj, rf_inj, lkn_begin, lkn_ended, lkn_plain, lkn_quoted, lkn_step, lkn_fault, lkn_key, lkn_told, lkn_quotes, lkn_special, pt_open1, not_true_eq_false, not_false_eq_true])
local macro_rules | `(tactic| walk_at "rdh") => `(tactic| simp only [tSeq, tNext, tAsg, tRet, tRetN, tDrop, tIfS, sFld, sFldAug, tVar, tC, tOp, tUn, tTest, tB, tAnd, tOr, tNot, tAndV, tOrV, tNotV, tIf, tTup, tLst, tCons, tNil, tCB, tCall, tMeth, tMake, tFld, rI, rI0, rU, rEq, rNe, rCat, gName, gTup, gCons, gNil, tPar, tPar3, tBM, tBM0, rAppend, rExtend, rPopAt, rIxL, rIxT, rIxS, tSl, rSlS, rSlL, tPart, tNoPart, iStr, iTup, iList, iRng1, tAug, ipI, L2.rAdd, L2.rSub, L2.rAddS, tChain, rIsB, rNotB, scal_ss, scal_ii, scal_bb, scal_nn, scal_in, scal_ni, tYes,
  cx_K, cx_N, List.getElem?_cons_zero, List.getElem?_cons_succ, List.set_cons_zero, List.set_cons_succ, List.nil_append, List.cons_append, List.append_nil, List.length_cons, List.length_nil, Nat.zero_add,
  Option.some.injEq, V.ref.injEq, V.int.injEq, V.str.injEq, V.bl.injEq, HO.ins.injEq, HO.lst.injEq, HO.tup.injEq, List.cons.injEq, exists_eq_left, exists_eq_left', exists_eq_right, exists_eq_right', and_true, true_and, exists_and_left, exists_and_right, and_assoc, decide_eq_true_eq, Bool.not_eq_true', decide_eq_false_iff_not, reduceCtorEq, exists_const, forall_const, if_true, if_false, false_and, and_false, ite_true, ite_false, Bool.true_eq_false, Bool.false_eq_true, Nat.reduceLeDiff, Nat.reduceAdd, small_line, small_lt, upd_ne, ne_eq, not_false_eq_true, Nat.zero_le, Prod.mk.injEq, upd_same, upd_upd, S_tl, S_len, S_app, S_one, S_inj,
  lk_breaks, lk_hard, lk_soft, lk_bend, lk_note, lk_rules, lk_state, lk_bent, lk_word, lk_begun, lk_opened, lk_place, pt_state, pt_bent, pt_word, pt_wordS, pt_wordN, pt_begun, pt_opened, pt_place, pt_place1, len_mf, litv_empty, litv_note, litv_nl, mf_inj, rf_inj, lkn_begin, lkn_ended, lkn_plain, lkn_quoted, lkn_step, lkn_fault, lkn_key, lkn_told, lkn_quotes, lkn_special, pt_open1, not_true_eq_false, not_false_eq_true, *])
local macro_rules | `(tactic| walk_at "pl") => `(tactic| (first | decide | (refine Nat.lt_of_le_of_lt (length_putF _ _ _) ?_; repeat (first | decide | refine pl2 ?_))))
/-! ### what is told: words with their places -/
def Fnd (H : Hp) (x : V) (d : W3) : Prop := ∃ t u, x = .ref t ∧ H t = some (.tup [.str (S d.1), .ref u]) ∧ H u = some (.tup [.int d.2.1, .int d.2.2])
abbrev Fnds (H : Hp) (xs : List V) (ds : List W3) : Prop := Paired (Fnd H) xs ds
theorem Fnd.mono {H H' : Hp} {x : V} {d : W3} (h : Fnd H x d) (t : Tk H H') : Fnd H' x d := by
  obtain ⟨b, u, e, h1, h2⟩ := h
  exact ⟨b, u, e, t _ _ h1, t _ _ h2⟩
theorem Fnds.mono {H H' : Hp} {xs : List V} {ds : List W3} (h : Fnds H xs ds) (t : Tk H H') : Fnds H' xs ds := Paired.mapP h fun _ _ q => q.mono t
theorem Paired.app {α β : Type} {F : α → β → Prop} : ∀ {l₁ : List α} {l₂ : List β} {m₁ : List α} {m₂ : List β}, Paired F l₁ l₂ → Paired F m₁ m₂ → Paired F (l₁ ++ m₁) (l₂ ++ m₂)
  | _, _, _, _, .nil, h => h
  | _, _, _, _, .cons r t, h => .cons r (Paired.app t h)
/-! ### the machine's invariant -/
structure MS.Ok (m : MS) : Prop where
  st : m.state = [] ∨ m.state = NT ∨ ∃ q, m.state = [q]
  wd : (m.bent = true ∨ ∃ q, m.state = [q]) → ∃ w, m.word = some w
  ln : ∀ w, m.word = some w → w.length ≤ m.place
theorem MS.Ok.zero (r : Addr) : (MS.zero r).Ok := ⟨.inl rfl, fun h => (by rcases h with h | ⟨q, h⟩ <;> cases h), fun w h => (by cases h)⟩
def MS.quoted (r : RS) (m : MS) (c : Nat) : MS :=
  if [c] = m.state then { m with state := [] }
  else if c ∈ r.bend ∧ m.state.all (· ∈ r.soft) = true then { m with bent := true }
  else m.add c
def MS.step (r : RS) (m : MS) (c : Nat) : MS × List W3 :=
  let m1 := if m.state = NT ∧ c = LE then { m with state := [] } else m
  let x := if m1.bent = true then (({ m1 with bent := false } : MS).add c, []) else if m1.state = [] then m1.plain r c else if m1.state = NT then (m1, []) else (m1.quoted r c, [])
  ({ x.1 with place := x.1.place + 1 }, x.2)
def MS.fault (m : MS) : Option Nat := if m.bent = true ∨ (m.state ≠ [] ∧ m.state ≠ NT) then some m.opened else none
section
variable {P : Program} {w : World} {K : PySem.W.Frag} {mg : Str → Option Value} {base : Heap} {a : Ad}
theorem rm_ne {H : Hp} {p q C D dx dr : Addr} {m : MS} {r : RS} (h1 : H p = some (.ins C dx m.f)) (h2 : H q = some (.ins D dr r.f)) : q ≠ p :=
  Ne.symm (ne_of h1 h2 fun z => by injection z with _ _ z; exact absurd (congrArg List.length z) (by show ¬ (7 = 5); decide))
def sp_Machine_init (a : Ad) : Sp := fun vs H Q _ => ∃ p dx r, vs = [.ref p, .ref r] ∧ H p = some (.ins a.c_Machine dx []) ∧
  ∀ H', H' p = some (.ins a.c_Machine dx (MS.zero r).f) → Kp p H H' → Q .non H'
theorem ok_Machine_init (T : Txt K mg a) : FnOk P w K mg base CX0 1 a.f_Machine_init a.d_Machine_init P_Machine_init (sp_Machine_init a) := by
  refine T.F_Machine_init.ok sc_Machine_init (fun vs H Q E h => ?_) (fun cdv A outer s H vs Q E hr h => ?_)
  · obtain ⟨p, dx, m, rfl, _⟩ := h
    rfl
  · obtain ⟨p, dx, r, rfl, hM, k⟩ := h
    refine ⟨_,
(pss_cons (ps_fld (pv 0) (pv 1) rfl)
    (pss_cons (ps_fld (pv 0) (pe_glob (v := .str ("" : Str)) rfl T.g_PLAIN ⟨_, rfl⟩) rfl)
    (pss_cons (ps_fld (pv 0) pe_bl rfl)
    (pss_cons (ps_fld (pv 0) pe_non rfl)
    (pss_cons (ps_fld (pv 0) pe_int rfl)
    (pss_cons (ps_fld (pv 0) pe_int rfl)
    (pss_one (ps_fld (pv 0) pe_int rfl))))))))
      , ?_⟩
    rw [show start N_Machine_init [V.ref p, V.ref r] = [some (.ref p), some (.ref r)] from rfl]
    have hc := T.c_Machine.cl
    have n1 := T.n_Machine_word
    have n2 := T.n_Machine_place
    have n3 := T.n_Machine_begun
    have n4 := T.n_Machine_rules
    have n5 := T.n_Machine_state
    have n6 := T.n_Machine_bent
    have n7 := T.n_Machine_opened
    walk_at "rdh"
    refine ⟨by walk_at "pl", by walk_at "pl", by walk_at "pl", by walk_at "pl", by walk_at "pl", by walk_at "pl", by walk_at "pl", ?_⟩
    refine k _ ?_ kp_upd
    rw [upd_same]
    exact congrArg (fun l => some (HO.ins a.c_Machine dx l)) (show _ = (MS.zero r).f by kernel_rfl)
def sp_begin (a : Ad) : Sp := fun vs H Q _ => ∃ p dx m, vs = [.ref p] ∧ H p = some (.ins a.c_Machine dx (MS.f m)) ∧
  ∀ H', H' p = some (.ins a.c_Machine dx m.begin.f) → Kp p H H' → Q .non H'
theorem ok_Machine_begin (T : Txt K mg a) : FnOk P w K mg base CX0 1 a.f_Machine_begin a.d_Machine_begin P_Machine_begin (sp_begin a) := by
  refine T.F_Machine_begin.ok sc_Machine_begin (fun vs H Q E h => ?_) (fun cdv A outer s H vs Q E hr h => ?_)
  · obtain ⟨p, dx, m, rfl, _⟩ := h
    rfl
  · obtain ⟨p, dx, m, rfl, hM, k⟩ := h
    refine ⟨_,
(pss_one (ps_if (pt_cmpR op_isN (pe_fld (pv 0) rfl) pe_non (nomark _)) (pss_cons (ps_fld (pv 0) pe_str rfl)
    (pss_one (ps_fld (pv 0) (pe_fld (pv 0) rfl) rfl))) pss_nil))
      , ?_⟩
    rw [show start N_Machine_begin [V.ref p] = [some (.ref p)] from rfl]
    have hc := T.c_Machine.cl
    have n1 := T.n_Machine_word
    have n2 := T.n_Machine_place
    have n3 := T.n_Machine_begun
    walk_at "rdh"
    cases hw : m.word with
    | none =>
      simp only [oV, ite_true]
      refine k _ ?_ kp_upd
      rw [upd_same]
      simp only [MS.begin, hw]
    | some z =>
      simp only [oV, reduceCtorEq, ite_false]
      refine k _ ?_ fun b o e _ => e
      rw [hM]
      simp only [MS.begin, hw]
def sp_ended (a : Ad) : Sp := fun vs H Q _ => ∃ p dx m, vs = [.ref p] ∧ H p = some (.ins a.c_Machine dx (MS.f m)) ∧
  ∀ l H' xs, H l = none → H' l = some (.lst xs) → Fnds H' xs m.out → H' p = some (.ins a.c_Machine dx m.drop.f) → Kp p H H' → Q (.ref l) H'
theorem ok_Machine_ended (T : Txt K mg a) : FnOk P w K mg base CX0 1 a.f_Machine_ended a.d_Machine_ended P_Machine_ended (sp_ended a) := by
  refine T.F_Machine_ended.ok sc_Machine_ended (fun vs H Q E h => ?_) (fun cdv A outer s H vs Q E hr h => ?_)
  · obtain ⟨p, dx, m, rfl, _⟩ := h
    rfl
  · obtain ⟨p, dx, m, rfl, hM, k⟩ := h
    refine ⟨_,
(pss_cons (ps_if (pt_cmpR op_isN (pe_fld (pv 0) rfl) pe_non (nomark _)) (pss_one (ps_ret (pe_lst pa_nil))) pss_nil)
    (pss_cons (ps_set (i := 1) sc_Machine_ended.nd rfl (by first | exact Or.inl rfl | exact Or.inr rfl) (pe_lst (pa_cons (pe_tup (pa_cons (pe_fld (pv 0) rfl) (pa_cons (pe_tup (pa_cons (pe_fld (pv 0) rfl) (pa_cons (pe_fld (pv 0) rfl) pa_nil))) pa_nil))) pa_nil)))
    (pss_cons (ps_fld (pv 0) pe_non rfl)
    (pss_one (ps_ret (pv 1))))))
      , ?_⟩
    rw [show start N_Machine_ended [V.ref p] = [some (.ref p), none] from rfl]
    have hc := T.c_Machine.cl
    have n1 := T.n_Machine_word
    have n2 := T.n_Machine_place
    have n3 := T.n_Machine_begun
    walk_at "rdh"
    cases hw : m.word with
    | none =>
      simp only [oV, ite_true]
      intro l hl
      refine k l _ [] hl upd_same ?_ ?_ ((same_new hl).kp _)
      · simp only [MS.out, hw]; exact .nil
      · rw [upd_old hM hl]
        simp only [MS.drop, ← hw]
    | some z =>
      simp only [oV, reduceCtorEq, ite_false]
      intro t ht u hu l hl
      have ht' := none_upd hu
      have n4 := ne_upd hu
      have n5 := ne_upd hl
      have n6 := ne_upd (none_upd' hl n5)
      have n7 := none_upd (none_upd' hl n5)
      have e1 := ne_of_none hM ht
      have e2 := ne_of_none hM ht'
      have e3 := ne_of_none hM n7
      walk_at "rdh"
      refine k l _ [.ref u] n7 ?_ ?_ ?_ ?_
      · rw [upd_ne (Ne.symm e3), upd_same]
      · simp only [MS.out, hw]
        refine .cons ⟨u, t, rfl, ?_, ?_⟩ .nil
        · rw [upd_ne (Ne.symm e2), upd_ne (Ne.symm n5), upd_same]
        · rw [upd_ne (Ne.symm e1), upd_ne (Ne.symm n6), upd_ne (Ne.symm n4), upd_same]
      · rw [upd_same, MS.drop]
      · exact ((((same_new ht).trans (same_new hu)).trans (same_new hl)).kp p).upd
/-- the machine's sign: a sign outside of quoted stretches -/
def sp_plain (a : Ad) : Sp := fun vs H Q _ => ∃ p dx m c dr r, vs = [.ref p, .str (S [c])] ∧ H p = some (.ins a.c_Machine dx (MS.f m)) ∧ H m.rules = some (.ins a.c_Rules dr (RS.f r)) ∧ r.hard.length + r.soft.length ≤ 100 ∧ m.Ok ∧ m.place < 100000 ∧
  ∀ l H' xs, H l = none → H' l = some (.lst xs) → Fnds H' xs (m.plain r c).2 → H' p = some (.ins a.c_Machine dx (m.plain r c).1.f) → Kp p H H' → Q (.ref l) H'
def sp_quotes (a : Ad) : Sp := fun vs H Q _ => ∃ p dr r, vs = [.ref p] ∧ H p = some (.ins a.c_Rules dr (RS.f r)) ∧ r.hard.length + r.soft.length ≤ 100 ∧ Q (.str (S r.quotes)) H
theorem ok_Rules_quotes (T : Txt K mg a) : FnOk P w K mg base CX0 1 a.f_Rules_quotes a.d_Rules_quotes P_Rules_quotes (sp_quotes a) := by
  refine T.F_Rules_quotes.ok sc_Rules_quotes (fun vs H Q E h => ?_) (fun cdv A outer s H vs Q E hr h => ?_)
  · obtain ⟨p, dx, m, rfl, _⟩ := h
    rfl
  · obtain ⟨p, dx, m, rfl, hM, hz, k⟩ := h
    refine ⟨_,
(pss_one (ps_ret (pe_op op_add_str (pe_fld (pv 0) rfl) (pe_fld (pv 0) rfl))))
      , ?_⟩
    rw [show start N_Rules_quotes [V.ref p] = [some (.ref p)] from rfl]
    have hc := T.c_Rules.cl
    have n1 := T.n_Rules_hard
    have n2 := T.n_Rules_soft
    walk_at "rdh"
    exact ⟨Nat.le_trans hz (by decide), k⟩
theorem ok_Machine_plain (T : Txt K mg a) : FnOk P w K mg base CX0 2 a.f_Machine_plain a.d_Machine_plain P_Machine_plain (sp_plain a) := by
  refine T.F_Machine_plain.ok sc_Machine_plain (fun vs H Q E h => ?_) (fun cdv A outer s H vs Q E hr h => ?_)
  · obtain ⟨p, dx, m, c, dr, r, rfl, _⟩ := h
    rfl
  · obtain ⟨p, dx, m, c, dr, r, rfl, hM, hR, hq, ok, hz, k⟩ := h
    have G_Machine_ended := ok_Machine_ended (P := P) (w := w) (base := base) T
    have B_Machine_ended := bi_Machine_ended T
    have G_Machine_begin := ok_Machine_begin (P := P) (w := w) (base := base) T
    have B_Machine_begin := bi_Machine_begin T
    have G_Rules_quotes := ok_Rules_quotes (P := P) (w := w) (base := base) T
    have B_Rules_quotes := bi_Rules_quotes T
    refine ⟨_,
(pss_cons (ps_set (i := 2) sc_Machine_plain.nd rfl (by first | exact Or.inl rfl | exact Or.inr rfl) (pe_fld (pv 0) rfl))
    (pss_cons (ps_if (pt_cmpR op_in_sign (pv 1) (pe_fld (pv 2) rfl) rfl) (pss_one (ps_ret (pe_meth0 (pv 0) T.c_Machine.cl T.m_Machine_ended G_Machine_ended (hr.mono (by decide)) B_Machine_ended .nil pass0))) pss_nil)
    (pss_cons (ps_if (pt_cmpR op_in_sign (pv 1) (pe_fld (pv 2) rfl) rfl) (pss_cons (ps_fld (pv 0) (pe_glob (v := .str ("note" : Str)) rfl T.g_NOTED ⟨_, rfl⟩) rfl)
    (pss_one (ps_ret (pe_meth0 (pv 0) T.c_Machine.cl T.m_Machine_ended G_Machine_ended (hr.mono (by decide)) B_Machine_ended .nil pass0)))) pss_nil)
    (pss_cons (ps_expr (pe_meth0 (pv 0) T.c_Machine.cl T.m_Machine_begin G_Machine_begin (hr.mono (by decide)) B_Machine_begin .nil pass0))
    (pss_cons (ps_if (pt_cmpR op_in_sign (pv 1) (pe_meth0 (pv 2) T.c_Rules.cl T.m_Rules_quotes G_Rules_quotes (hr.mono (by decide)) B_Rules_quotes .nil pass0) rfl) (pss_cons (ps_fld (pv 0) (pv 1) rfl)
    (pss_one (ps_fld (pv 0) (pe_fld (pv 0) rfl) rfl))) (pss_one (ps_if (pt_cmpR op_in_sign (pv 1) (pe_fld (pv 2) rfl) rfl) (pss_cons (ps_fld (pv 0) pe_bl rfl)
    (pss_one (ps_fld (pv 0) (pe_fld (pv 0) rfl) rfl))) (pss_one (ps_fldaug (pv 0) (pv 1) in_addS)))))
    (pss_one (ps_ret (pe_lst pa_nil))))))))
      , ?_⟩
    rw [show start N_Machine_plain [V.ref p, V.str (S [c])] = [some (.ref p), some (.str (S [c])), none] from rfl]
    have hc := T.c_Machine.cl
    have hd := T.c_Rules.cl
    have n1 := T.n_Machine_word
    have n2 := T.n_Machine_place
    have n3 := T.n_Machine_rules
    have n4 := T.n_Machine_state
    have n5 := T.n_Machine_opened
    have n6 := T.n_Machine_bent
    have r1 := T.n_Rules_breaks
    have r2 := T.n_Rules_note
    have r3 := T.n_Rules_bend
    have hne := rm_ne hM hR
    walk_at "rdh"
    refine ite2 (fun c1 => ?_) (fun c1 => ?_)
    · refine ⟨p, dx, m, rfl, hM, fun l H' xs hl h1 h2 h3 h4 => k l H' xs hl h1 ?_ ?_ h4⟩
      · simpa only [MS.plain, if_pos c1] using h2
      · simpa only [MS.plain, if_pos c1] using h3
    refine ite2 (fun c2 => ?_) (fun c2 => ?_)
    · refine ⟨p, dx, _, rfl, upd_same, fun l H' xs hl h1 h2 h3 h4 => k l H' xs (none_upd hl) h1 ?_ ?_ (kp_upd.trans h4)⟩
      · simpa only [MS.plain, if_neg c1, if_pos c2, MS.out] using h2
      · simpa only [MS.plain, if_neg c1, if_pos c2, MS.drop] using h3
    refine ⟨p, dx, m, rfl, hM, fun H' h1 h2 => ?_⟩
    have hR' := h2 _ _ hR hne
    have er : m.begin.rules = m.rules := by unfold MS.begin; split <;> rfl
    have bk : ∀ {o u l}, upd (upd H' p o) l u p = some o → True := fun _ => trivial
    walk_at "rdh"
    refine ⟨_, _, _, rfl, hR', hq, ?_⟩
    walk_at "rdh"
    have fin : ∀ (m' : MS) (l : Addr), upd H' p (.ins a.c_Machine dx m'.f) l = none → MS.plain r m c = (m', []) → Q (.ref l) (upd (upd H' p (.ins a.c_Machine dx m'.f)) l (.lst [])) := fun m' l hl e => by
      have e1 := ne_upd hl
      refine k l _ [] ?_ upd_same ?_ ?_ ?_
      · cases q : H l with
        | none => rfl
        | some o => exact absurd (h2 l o q e1) (by rw [none_upd hl]; intro z; cases z)
      · rw [e]; exact .nil
      · rw [e, upd_ne (Ne.symm e1), upd_same]
      · exact (h2.upd).trans ((same_new hl).kp p)
    refine ite2 (fun c3 => ?_) (fun c3 => ?_)
    · intro l hl
      exact fin _ l hl (by simp only [MS.plain, if_neg c1, if_neg c2, if_pos c3, er])
    refine ite2 (fun c4 => ?_) (fun c4 => ?_)
    · intro l hl
      exact fin _ l hl (by simp only [MS.plain, if_neg c1, if_neg c2, if_neg c3, if_pos c4, er])
    obtain ⟨z, hz1, hz2⟩ : ∃ z, m.begin.word = some z ∧ z.length ≤ m.place := by
      unfold MS.begin
      cases hw : m.word with
      | none => exact ⟨[], rfl, Nat.zero_le _⟩
      | some z => exact ⟨z, hw, ok.ln z hw⟩
    rw [hz1]
    simp only [oV]
    walk_at "rdh"
    refine ⟨Nat.le_trans (Nat.succ_le_of_lt (Nat.lt_of_le_of_lt hz2 hz)) (by decide), fun l hl => ?_⟩
    exact fin _ l hl (by simp only [MS.plain, if_neg c1, if_neg c2, if_neg c3, if_neg c4, MS.add, er, hz1, Option.map])
def sp_quoted (a : Ad) : Sp := fun vs H Q _ => ∃ p dx m c dr r q z, vs = [.ref p, .str (S [c])] ∧ H p = some (.ins a.c_Machine dx (MS.f m)) ∧ H m.rules = some (.ins a.c_Rules dr (RS.f r)) ∧ m.state = [q] ∧ m.word = some z ∧ z.length ≤ m.place ∧ m.place < 100000 ∧
  ∀ H', H' p = some (.ins a.c_Machine dx (m.quoted r c).f) → Kp p H H' → Q .non H'
theorem ok_Machine_quoted (T : Txt K mg a) : FnOk P w K mg base CX0 1 a.f_Machine_quoted a.d_Machine_quoted P_Machine_quoted (sp_quoted a) := by
  refine T.F_Machine_quoted.ok sc_Machine_quoted (fun vs H Q E h => ?_) (fun cdv A outer s H vs Q E hr h => ?_)
  · obtain ⟨p, dx, m, c, dr, r, q, z, rfl, _⟩ := h
    rfl
  · obtain ⟨p, dx, m, c, dr, r, q, z, rfl, hM, hR, hs, hw, hz, hp, k⟩ := h
    obtain ⟨mr, ms, mb, mw, m1, m2, m3⟩ := m
    dsimp only at hs hw hR hz hp
    subst hs hw
    refine ⟨_,
(pss_one (ps_if (pt_cmpR op_eq (pv 1) (pe_fld (pv 0) rfl) (nomark _)) (pss_one (ps_fld (pv 0) (pe_glob (v := .str ("" : Str)) rfl T.g_PLAIN ⟨_, rfl⟩) rfl)) (pss_one (ps_if (PW.pt (pw_and (pt_cmpR op_in_sign (pv 1) (pe_fld (pe_fld (pv 0) rfl) rfl) rfl) (pw_and1 (pt_cmpR op_in_sign (pe_fld (pv 0) rfl) (pe_fld (pe_fld (pv 0) rfl) rfl) rfl)))) (pss_one (ps_fld (pv 0) pe_bl rfl)) (pss_one (ps_fldaug (pv 0) (pv 1) in_addS))))))
      , ?_⟩
    rw [show start N_Machine_quoted [V.ref p, V.str (S [c])] = [some (.ref p), some (.str (S [c]))] from rfl]
    have hc := T.c_Machine.cl
    have hd := T.c_Rules.cl
    have n1 := T.n_Machine_word
    have n3 := T.n_Machine_rules
    have n4 := T.n_Machine_state
    have n6 := T.n_Machine_bent
    have r1 := T.n_Rules_soft
    have r3 := T.n_Rules_bend
    have hne : mr ≠ p := rm_ne hM hR
    walk_at "rdh"
    simp only [oV]
    walk_at "rdh"
    have hl : List.length z + 1 ≤ sizeLine := Nat.le_trans (Nat.succ_le_of_lt (Nat.lt_of_le_of_lt hz hp)) (by decide)
    simp only [MS.quoted, MS.add, List.cons.injEq, and_true, List.all_cons, List.all_nil, Bool.and_true, decide_eq_true_eq, Option.map] at k
    refine ite2 (fun c1 => ?_) (fun c1 => ?_)
    · refine k _ ?_ kp_upd
      rw [upd_same, if_pos c1]
    refine ite2 (fun c2 => ?_) (fun c2 => ?_)
    · refine ite2 (fun c3 => ?_) (fun c3 => ?_)
      · refine k _ ?_ kp_upd
        rw [upd_same, if_neg c1, if_pos ⟨c2, c3⟩]
      · refine ⟨hl, k _ ?_ kp_upd⟩
        rw [upd_same, if_neg c1, if_neg (fun h => c3 h.2)]
    · refine ⟨hl, k _ ?_ kp_upd⟩
      rw [upd_same, if_neg c1, if_neg (fun h => c2 h.1)]
def sp_fault (a : Ad) : Sp := fun vs H Q _ => ∃ p dx m, vs = [.ref p] ∧ H p = some (.ins a.c_Machine dx (MS.f m)) ∧
  ∀ H', Same H H' → Q (match m.fault with | none => .non | some n => .int n) H'
theorem ok_Machine_fault (T : Txt K mg a) : FnOk P w K mg base CX0 1 a.f_Machine_fault a.d_Machine_fault P_Machine_fault (sp_fault a) := by
  refine T.F_Machine_fault.ok sc_Machine_fault (fun vs H Q E h => ?_) (fun cdv A outer s H vs Q E hr h => ?_)
  · obtain ⟨p, dx, m, rfl, _⟩ := h
    rfl
  · obtain ⟨p, dx, m, rfl, hM, k⟩ := h
    refine ⟨_,
(pss_one (ps_ret (pe_ifExp (PW.pt (pw_or (pt_val (pe_fld (pv 0) rfl)) (pw_or1 (pt_cmpR op_notIn_seq (pe_fld (pv 0) rfl) (pe_tup (pa_cons (pe_glob (v := .str ("" : Str)) rfl T.g_PLAIN ⟨_, rfl⟩) (pa_cons (pe_glob (v := .str ("note" : Str)) rfl T.g_NOTED ⟨_, rfl⟩) pa_nil))) rfl)))) (pe_fld (pv 0) rfl) pe_non)))
      , ?_⟩
    rw [show start N_Machine_fault [V.ref p] = [some (.ref p)] from rfl]
    have hc := T.c_Machine.cl
    have n4 := T.n_Machine_state
    have n5 := T.n_Machine_opened
    have n6 := T.n_Machine_bent
    walk_at "rdh"
    refine ite2 (fun c1 => ?_) (fun c1 => ?_)
    · have := k H (Same.refl H)
      rw [MS.fault, if_pos (.inl c1)] at this
      exact this
    intro t ht
    refine ⟨t, _, rfl, .inr (SqT.of upd_same), rfl, rfl, _, rfl, ?_⟩
    have hM' : upd H t (HO.tup [V.str (S []), V.str (S NT)]) p = some (HO.ins a.c_Machine dx m.f) := upd_old hM ht
    have c2 : (if true = true then !inV (V.str (S m.state)) [V.str (S []), V.str (S NT)] else inV (V.str (S m.state)) [V.str (S []), V.str (S NT)]) = decide (m.state ≠ [] ∧ m.state ≠ NT) := by
      simp only [inV, List.any, eqV, S_inj, ite_true, S_beq, Bool.or_false]
      rw [Bool.eq_iff_iff]
      simp only [Bool.not_eq_true', Bool.or_eq_false_iff, decide_eq_false_iff_not, decide_eq_true_eq]
      exact ⟨fun h => ⟨fun e => h.1 e.symm, fun e => h.2 e.symm⟩, fun h => ⟨fun e => h.1 e.symm, fun e => h.2 e.symm⟩⟩
    rw [c2]
    refine ite2 (fun c3 => ?_) (fun c3 => ?_)
    · walk_at "rdh"
      have := k (upd H t (HO.tup [V.str (S []), V.str (S NT)])) (same_new ht)
      rw [MS.fault, if_pos (.inr (of_decide_eq_true c3))] at this
      exact this
    · have := k (upd H t (HO.tup [V.str (S []), V.str (S NT)])) (same_new ht)
      rw [MS.fault, if_neg (fun h => h.elim c1 fun h => c3 (decide_eq_true h))] at this
      exact this
/-! ### a sign -/
theorem MS.rules_begin (m : MS) : m.begin.rules = m.rules := by unfold MS.begin; split <;> rfl
def sp_step (a : Ad) : Sp := fun vs H Q _ => ∃ p dx m c dr r, vs = [.ref p, .str (S [c])] ∧ H p = some (.ins a.c_Machine dx (MS.f m)) ∧ H m.rules = some (.ins a.c_Rules dr (RS.f r)) ∧ r.hard.length + r.soft.length ≤ 100 ∧ m.Ok ∧ m.place < 100000 ∧
  ∀ l H' xs, H l = none → H' l = some (.lst xs) → Fnds H' xs (m.step r c).2 → H' p = some (.ins a.c_Machine dx (m.step r c).1.f) → Kp p H H' → Q (.ref l) H'
theorem ok_Machine_step (T : Txt K mg a) : FnOk P w K mg base CX0 3 a.f_Machine_step a.d_Machine_step P_Machine_step (sp_step a) := by
  refine T.F_Machine_step.ok sc_Machine_step (fun vs H Q E h => ?_) (fun cdv A outer s H vs Q E hr h => ?_)
  · obtain ⟨p, dx, m, c, dr, r, rfl, _⟩ := h
    rfl
  · obtain ⟨p, dx, m, c, dr, r, rfl, hM, hR, hq, ok, hz, k⟩ := h
    have G_Machine_plain := ok_Machine_plain (P := P) (w := w) (base := base) T
    have B_Machine_plain := bi_Machine_plain T
    have G_Machine_quoted := ok_Machine_quoted (P := P) (w := w) (base := base) T
    have B_Machine_quoted := bi_Machine_quoted T
    refine ⟨_,
(pss_cons (ps_set (i := 2) sc_Machine_step.nd rfl (by first | exact Or.inl rfl | exact Or.inr rfl) (pe_lst pa_nil))
    (pss_cons (ps_if (PW.pt (pw_and (pt_cmpR op_eq (pe_fld (pv 0) rfl) (pe_glob (v := .str ("note" : Str)) rfl T.g_NOTED ⟨_, rfl⟩) (nomark _)) (pw_and1 (pt_cmpR op_eq (pv 1) (pe_glob (v := .str ("\n" : Str)) rfl T.g_LINE_END ⟨_, rfl⟩) (nomark _))))) (pss_one (ps_fld (pv 0) (pe_glob (v := .str ("" : Str)) rfl T.g_PLAIN ⟨_, rfl⟩) rfl)) pss_nil)
    (pss_cons (ps_if (pt_val (pe_fld (pv 0) rfl)) (pss_cons (ps_fld (pv 0) pe_bl rfl)
    (pss_one (ps_fldaug (pv 0) (pv 1) in_addS))) (pss_one (ps_if (pt_cmpR op_eq (pe_fld (pv 0) rfl) (pe_glob (v := .str ("" : Str)) rfl T.g_PLAIN ⟨_, rfl⟩) (nomark _)) (pss_one (ps_set (i := 2) sc_Machine_step.nd rfl (by first | exact Or.inl rfl | exact Or.inr rfl) (pe_meth (pv 0) T.c_Machine.cl T.m_Machine_plain G_Machine_plain (hr.mono (by decide)) B_Machine_plain .nil pass0 (pa_cons (pv 1) pa_nil)))) (pss_one (ps_if (pt_cmpR op_ne (pe_fld (pv 0) rfl) (pe_glob (v := .str ("note" : Str)) rfl T.g_NOTED ⟨_, rfl⟩) (nomark _)) (pss_one (ps_expr (pe_meth (pv 0) T.c_Machine.cl T.m_Machine_quoted G_Machine_quoted (hr.mono (by decide)) B_Machine_quoted .nil pass0 (pa_cons (pv 1) pa_nil)))) pss_nil)))))
    (pss_cons (ps_fldaug (pv 0) pe_int in_add)
    (pss_one (ps_ret (pv 2)))))))
      , ?_⟩
    rw [show start N_Machine_step [V.ref p, V.str (S [c])] = [some (.ref p), some (.str (S [c])), none] from rfl]
    have hc := T.c_Machine.cl
    have hd := T.c_Rules.cl
    have n1 := T.n_Machine_word
    have n2 := T.n_Machine_place
    have n4 := T.n_Machine_state
    have n6 := T.n_Machine_bent
    have hne := rm_ne hM hR
    walk_at "rdh"
    intro l0 hl0
    have S1 := same_new (o := HO.lst []) hl0
    have hM1 := S1 _ _ hM
    have hR1 := S1 _ _ hR
    have hL1 : upd H l0 (HO.lst []) l0 = some (HO.lst []) := upd_same
    generalize upd H l0 (HO.lst []) = H1 at *
    have np : p ≠ l0 := ne_of_none hM hl0
    -- the end: the place, and what is told
    have fin : ∀ (m' : MS) (l : Addr) (H' : Hp) (xs : List V), H l = none → H' l = some (.lst xs) → Fnds H' xs (m.step r c).2 → H' p = some (.ins a.c_Machine dx m'.f) → { m' with place := m'.place + 1 } = (m.step r c).1 → Kp p H H' →
        Q (.ref l) (upd H' p (.ins a.c_Machine dx { m' with place := m'.place + 1 }.f)) := fun m' l H' xs h1 h2 h3 h4 h5 h6 => by
      have e1 : l ≠ p := fun z => by rw [z] at h1; rw [h1] at hM; cases hM
      refine k l _ xs h1 ?_ (h3.mono (kp_upd.tk h4 fun _ z => by cases z)) ?_ (h6.upd)
      · rw [upd_ne e1]; exact h2
      · rw [upd_same, h5]
    have fin0 : ∀ m'' : MS, m.step r c = (m'', []) → Q (.ref l0) (upd H1 p (.ins a.c_Machine dx m''.f)) := fun m'' e => by
      refine k l0 _ [] hl0 ?_ (by rw [e]; exact .nil) (by rw [upd_same, e]) ((S1.kp p).upd)
      rw [upd_ne (Ne.symm np)]
      exact hL1
    have word : m.bent = true ∨ (∃ q, m.state = [q]) → ∃ z, m.word = some z ∧ z.length ≤ m.place := fun h => by
      obtain ⟨z, e⟩ := ok.wd h
      exact ⟨z, e, ok.ln z e⟩
    have room : ∀ z : Tx, z.length ≤ m.place → z.length + 1 ≤ sizeLine := fun z h => Nat.le_trans (Nat.succ_le_of_lt (Nat.lt_of_le_of_lt h hz)) (by decide)
    walk_at "rdh"
    by_cases hb : m.bent = true
    · obtain ⟨z, w1, w2⟩ := word (.inl hb)
      simp only [hb, w1, oV, ite_true]
      walk_at "rdh"
      refine ite2 (fun c1 => ?_) (fun c1 => ?_)
      · refine ite2 (fun c2 => ?_) (fun c2 => ?_)
        · exact fin0 _ (by simp [MS.step, c1, c2, hb, MS.add, w1])
        · exact fin0 _ (by simp [MS.step, c1, c2, hb, MS.add, w1])
      · exact fin0 _ (by simp [MS.step, c1, hb, MS.add, w1])
    · have hb' : m.bent = false := by simpa using hb
      simp only [hb', Bool.false_eq_true, ite_false]
      -- plain
      have pl : ∀ (m1 : MS) (H2 : Hp), H2 p = some (.ins a.c_Machine dx m1.f) → Kp p H H2 → m1.rules = m.rules → m1.place = m.place → m1.Ok → m.step r c = ({ (m1.plain r c).1 with place := (m1.plain r c).1.place + 1 }, (m1.plain r c).2) →
          sp_plain a [V.ref p, V.str (S [c])] H2 (fun x H1 => ∃ x_1 x_2 x_3, H1 p = some (HO.ins x_1 x_2 x_3) ∧ Cls K x_1 ∧ NoAttr K x_1 (Str.ofString "place") ∧ ∃ x_4, List.lookup (Str.ofString "place") x_3 = some x_4 ∧
            ∃ i, x_4 = V.int i ∧ ∃ dx' fs', H1 p = some (HO.ins x_1 dx' fs') ∧ fs'.length < 1000 ∧ Q x (upd H1 p (HO.ins x_1 dx' (putF (Str.ofString "place") (V.int (i + 1)) fs')))) E0 := fun m1 H2 h1 h2 h3 h4 h5 h6 => by
        refine ⟨p, dx, m1, c, dr, r, rfl, h1, (by rw [h3]; exact h2 _ _ hR hne), hq, h5, (by rw [h4]; exact hz), fun l H' xs g1 g2 g3 g4 g5 => ?_⟩
        walk_at "rdh"
        refine fin _ l H' xs ?_ g2 (by rw [h6]; exact g3) g4 (by rw [h6]) (h2.trans g5)
        cases e : H l with
        | none => rfl
        | some o =>
          have ne : l ≠ p := fun z => by rw [z] at g1; rw [g1] at h1; cases h1
          have := h2 _ _ e ne
          rw [g1] at this; cases this
      refine ite2 (fun c1 => ?_) (fun c1 => ?_)
      · refine ite2 (fun c2 => ?_) (fun c2 => ?_)
        · refine pl { m with state := [], bent := false } _ upd_same ((S1.kp p).upd) rfl rfl ⟨.inl rfl, fun h => ?_, ok.ln⟩ ?_
          · rcases h with h | ⟨q, h⟩ <;> cases h
          · simp only [MS.step, c1, c2, and_self, ite_true, hb', Bool.false_eq_true, ite_false]
        · have c3 : ¬ m.state = [] := by rw [c1]; intro z; cases z
          refine ite2 (fun c => absurd c c3) (fun _ => ?_)
          refine ite2 (fun c => absurd c1 c) (fun _ => ?_)
          exact fin0 _ (by simp [MS.step, c1, c2, hb'])
      · refine ite2 (fun c2 => ?_) (fun c2 => ?_)
        · refine pl m H1 hM1 (S1.kp p) rfl rfl ok ?_
          simp only [MS.step, if_neg (show ¬ (m.state = NT ∧ c = LE) from fun h => c1 h.1), hb', Bool.false_eq_true, ite_false, if_pos c2]
        · refine ite2 (fun _ => ?_) (fun c => absurd c1 c)
          obtain ⟨q, hs⟩ : ∃ q, m.state = [q] := by
            rcases ok.st with h | h | h
            · exact absurd h c2
            · exact absurd h c1
            · exact h
          obtain ⟨z, w1, w2⟩ := word (.inr ⟨q, hs⟩)
          refine ⟨p, dx, m, c, dr, r, q, z, rfl, hM1, hR1, hs, w1, w2, hz, fun H' g1 g2 => ?_⟩
          walk_at "rdh"
          have hL' := g2 _ _ hL1 (Ne.symm np)
          refine fin (m.quoted r c) l0 H' [] hl0 hL' (by simp [MS.step, c1, c2, hb']; exact .nil) g1 (by simp [MS.step, c1, c2, hb']) ((S1.kp p).trans g2)
end
end Qw

set_option Elab.async false
set_option linter.all false
set_option maxRecDepth 100000
set_option maxHeartbeats 4000000
namespace Qw
open PySem L2
local macro_rules | `(tactic| walk_at "rd") => `(tactic| simp only [tSeq, tNext, tAsg, tRet, tRetN, tDrop, tIfS, sFld, sFldAug, tVar, tC, tOp, tUn, tTest, tB, tAnd, tOr, tNot, tAndV, tOrV, tNotV, tIf, tTup, tLst, tCons, tNil, tCB, tCall, tMeth, tMake, tFld, rI, rI0, rU, rEq, rNe, rCat, gName, gTup, gCons, gNil, tPar, tPar3, tBM, tBM0, rAppend, rExtend, rPopAt, rIxL, rIxT, rIxS, tSl, rSlS, rSlL, tPart, tNoPart, iStr, iTup, iList, iRng1, tAug, ipI, L2.rAdd, L2.rSub, L2.rAddS, tChain, rIsB, rNotB, scal_ss, scal_ii, scal_bb, scal_nn, scal_in, scal_ni, tYes,
  cx_K, cx_N, List.getElem?_cons_zero, List.getElem?_cons_succ, List.set_cons_zero, List.set_cons_succ, List.nil_append, List.cons_append, List.append_nil, List.length_cons, List.length_nil, Nat.zero_add,
  Option.some.injEq, V.ref.injEq, V.int.injEq, V.str.injEq, V.bl.injEq, HO.ins.injEq, HO.lst.injEq, HO.tup.injEq, List.cons.injEq, exists_eq_left, exists_eq_left', exists_eq_right, exists_eq_right', and_true, true_and, exists_and_left, exists_and_right, and_assoc, decide_eq_true_eq, Bool.not_eq_true', decide_eq_false_iff_not, reduceCtorEq, exists_const, forall_const, if_true, if_false, false_and, and_false, ite_true, ite_false, Bool.true_eq_false, Bool.false_eq_true, Nat.reduceLeDiff, Nat.reduceAdd, small_line, small_lt, upd_ne, ne_eq, not_false_eq_true, Nat.zero_le, Prod.mk.injEq, upd_same, upd_upd, S_tl, S_len, S_app, S_one, S_inj,
  lk_breaks, lk_hard, lk_soft, lk_bend, lk_note, lk_rules, lk_state, lk_bent, lk_word, lk_begun, lk_opened, lk_place, pt_state, pt_bent, pt_word, pt_wordS, pt_wordN, pt_begun, pt_opened, pt_place, pt_place1, len_mf, litv_empty, litv_note, litv_nl, mf_inj, rf_inj, lkn_begin, lkn_ended, lkn_plain, lkn_quoted, lkn_step, lkn_fault, lkn_key, lkn_told, lkn_quotes, lkn_special, pt_open1, not_true_eq_false, not_false_eq_true])
local macro_rules | `(tactic| walk_at "rdh") => `(tactic| simp only [tSeq, tNext, tAsg, tRet, tRetN, tDrop, tIfS, sFld, sFldAug, tVar, tC, tOp, tUn, tTest, tB, tAnd, tOr, tNot, tAndV, tOrV, tNotV, tIf, tTup, tLst, tCons, tNil, tCB, tCall, tMeth, tMake, tFld, rI, rI0, rU, rEq, rNe, rCat, gName, gTup, gCons, gNil, tPar, tPar3, tBM, tBM0, rAppend, rExtend, rPopAt, rIxL, rIxT, rIxS, tSl, rSlS, rSlL, tPart, tNoPart, iStr, iTup, iList, iRng1, tAug, ipI, L2.rAdd, L2.rSub, L2.rAddS, tChain, rIsB, rNotB, scal_ss, scal_ii, scal_bb, scal_nn, scal_in, scal_ni, tYes,
  cx_K, cx_N, List.getElem?_cons_zero, List.getElem?_cons_succ, List.set_cons_zero, List.set_cons_succ, List.nil_append, List.cons_append, List.append_nil, List.length_cons, List.length_nil, Nat.zero_add,
  Option.some.injEq, V.ref.injEq, V.int.injEq, V.str.injEq, V.bl.injEq, HO.ins.injEq, HO.lst.injEq, HO.tup.injEq, List.cons.injEq, exists_eq_left, exists_eq_left', exists_eq_right, exists_eq_right', and_true, true_and, exists_and_left, exists_and_right, and_assoc, decide_eq_true_eq, Bool.not_eq_true', decide_eq_false_iff_not, reduceCtorEq, exists_const, forall_const, if_true, if_false, false_and, and_false, ite_true, ite_false, Bool.true_eq_false, Bool.false_eq_true, Nat.reduceLeDiff, Nat.reduceAdd, small_line, small_lt, upd_ne, ne_eq, not_false_eq_true, Nat.zero_le, Prod.mk.injEq, upd_same, upd_upd, S_tl, S_len, S_app, S_one, S_inj,
  lk_breaks, lk_hard, lk_soft, lk_bend, lk_note, lk_rules, lk_state, lk_bent, lk_word, lk_begun, lk_opened, lk_place, pt_state, pt_bent, pt_word, pt_wordS, pt_wordN, pt_begun, pt_opened, pt_place, pt_place1, len_mf, litv_empty, litv_note, litv_nl, mf_inj, rf_inj, lkn_begin, lkn_ended, lkn_plain, lkn_quoted, lkn_step, lkn_fault, lkn_key, lkn_told, lkn_quotes, lkn_special, pt_open1, not_true_eq_false, not_false_eq_true, *])
/-! ### the machine over a text -/
theorem MS.rules_plain (r : RS) (m : MS) (c : Nat) : (m.plain r c).1.rules = m.rules := by
  unfold MS.plain
  repeat' split
  all_goals first | rfl | exact m.rules_begin
theorem MS.rules_quoted (r : RS) (m : MS) (c : Nat) : (m.quoted r c).rules = m.rules := by
  unfold MS.quoted
  repeat' split
  all_goals rfl
theorem MS.place_begin (m : MS) : m.begin.place = m.place := by unfold MS.begin; split <;> rfl
theorem MS.place_plain (r : RS) (m : MS) (c : Nat) : (m.plain r c).1.place = m.place := by
  unfold MS.plain
  repeat' split
  all_goals first | rfl | exact m.place_begin
theorem MS.place_quoted (r : RS) (m : MS) (c : Nat) : (m.quoted r c).place = m.place := by
  unfold MS.quoted
  repeat' split
  all_goals rfl
/-- the sign's ways -/
theorem MS.step_cases (r : RS) (m : MS) (c : Nat) (R : MS × List W3 → Prop)
    (h1 : ∀ m1 : MS, (m1 = m ∨ m1 = { m with state := [] }) → m1.bent = true → R ({ (({ m1 with bent := false } : MS).add c) with place := m1.place + 1 }, []))
    (h2 : ∀ m1 : MS, (m1 = m ∨ m1 = { m with state := [] }) → m1.bent = false → m1.state = [] → R ({ (m1.plain r c).1 with place := (m1.plain r c).1.place + 1 }, (m1.plain r c).2))
    (h3 : m.bent = false → m.state = NT → c ≠ LE → R ({ m with place := m.place + 1 }, []))
    (h4 : m.bent = false → m.state ≠ [] → m.state ≠ NT → R ({ (m.quoted r c) with place := (m.quoted r c).place + 1 }, [])) : R (m.step r c) := by
  by_cases e : m.state = NT ∧ c = LE
  · simp only [MS.step, if_pos e]
    by_cases b : m.bent = true
    · simp only [if_pos b]
      exact h1 _ (.inr rfl) b
    · have b' : m.bent = false := by simpa using b
      simp only [if_neg b, if_true]
      exact h2 _ (.inr rfl) b' rfl
  · simp only [MS.step, if_neg e]
    by_cases b : m.bent = true
    · simp only [if_pos b]
      exact h1 _ (.inl rfl) b
    · have b' : m.bent = false := by simpa using b
      simp only [if_neg b]
      by_cases s1 : m.state = []
      · simp only [if_pos s1]
        exact h2 _ (.inl rfl) b' s1
      · by_cases s2 : m.state = NT
        · simp only [if_neg s1, if_pos s2]
          exact h3 b' s2 fun z => e ⟨s2, z⟩
        · simp only [if_neg s1, if_neg s2]
          exact h4 b' s1 s2
theorem MS.Ok.begin {m : MS} (ok : m.Ok) : m.begin.Ok ∧ ∃ w, m.begin.word = some w := by
  unfold MS.begin
  cases h : m.word with
  | none => exact ⟨⟨ok.st, fun _ => ⟨[], rfl⟩, fun w e => by cases e; exact Nat.zero_le _⟩, ⟨[], rfl⟩⟩
  | some w => exact ⟨ok, ⟨w, h⟩⟩
theorem MS.Ok.step {m : MS} (ok : m.Ok) (r : RS) (c : Nat) : (m.step r c).1.Ok := by
  have same : ∀ m1 : MS, (m1 = m ∨ m1 = { m with state := [] }) → m1.bent = false ∨ m1 = m → m1.Ok := fun m1 h b => by
    rcases h with h | h
    · rw [h]; exact ok
    · rcases b with b | b
      · rw [h] at b ⊢
        exact ⟨.inl rfl, fun z => z.elim (fun z => absurd (b.symm.trans z) (by decide)) (fun ⟨q, z⟩ => nomatch z), ok.ln⟩
      · rw [b]; exact ok
  refine MS.step_cases r m c (fun x => x.1.Ok) (fun m1 h b => ?_) (fun m1 h b s1 => ?_) (fun b s1 _ => ?_) fun b s1 s2 => ?_
  · have e : m1.word = m.word ∧ m1.place = m.place ∧ (m1.bent = true → ∃ w, m1.word = some w) ∧ (m1.state = [] ∨ m1.state = NT ∨ ∃ q, m1.state = [q]) := by
      rcases h with h | h <;> subst h
      · exact ⟨rfl, rfl, fun z => ok.wd (.inl z), ok.st⟩
      · exact ⟨rfl, rfl, fun z => ok.wd (.inl z), .inl rfl⟩
    obtain ⟨w, hw⟩ := e.2.2.1 b
    refine ⟨e.2.2.2, fun _ => ⟨w ++ [c], by simp [MS.add, hw]⟩, fun w' e' => ?_⟩
    simp only [MS.add, hw, Option.map, Option.some.injEq] at e'
    subst e'
    have := ok.ln w (e.1 ▸ hw)
    simp only [List.length_append, List.length_cons, List.length_nil]
    show _ ≤ m1.place + 1
    rw [e.2.1]; omega
  · have ok1 := same m1 h (.inl b)
    have up : ∀ m2 : MS, m2.Ok → ({ m2 with place := m2.place + 1 } : MS).Ok := fun m2 o => ⟨o.st, o.wd, fun w e => Nat.le_succ_of_le (o.ln w e)⟩
    suffices q : ((m1.plain r c).1).Ok ∨ (∃ w, m1.begin.word = some w ∧ (m1.plain r c).1 = m1.begin.add c) by
      rcases q with q | ⟨w, hw, q⟩
      · exact up _ q
      · have o := ok1.begin.1
        show ({ (m1.plain r c).1 with place := (m1.plain r c).1.place + 1 } : MS).Ok
        rw [q]
        refine ⟨o.st, fun _ => ⟨w ++ [c], by simp [MS.add, hw]⟩, fun w' e' => ?_⟩
        simp only [MS.add, hw, Option.map, Option.some.injEq] at e'
        subst e'
        have := o.ln w hw
        simp only [List.length_append, List.length_cons, List.length_nil, MS.add]
        omega
    have o := ok1.begin
    unfold MS.plain
    split
    · exact .inl ⟨ok1.st, fun z => z.elim (fun z => absurd (b.symm.trans z) (by decide)) (fun ⟨q, z⟩ => absurd (s1.symm.trans z) (by intro y; cases y)), fun w e => by cases e⟩
    split
    · exact .inl ⟨.inr (.inl rfl), fun z => z.elim (fun z => absurd (b.symm.trans z) (by decide)) (fun ⟨q, z⟩ => absurd (show NT = [q] from z) (by intro y; cases y)), fun w e => by cases e⟩
    split
    · exact .inl ⟨.inr (.inr ⟨c, rfl⟩), fun _ => o.2, o.1.ln⟩
    split
    · exact .inl ⟨o.1.st, fun _ => o.2, o.1.ln⟩
    · obtain ⟨w, hw⟩ := o.2
      exact .inr ⟨w, hw, rfl⟩
  · exact ⟨ok.st, ok.wd, fun w e => Nat.le_succ_of_le (ok.ln w e)⟩
  · obtain ⟨q, hq⟩ : ∃ q, m.state = [q] := by
      rcases ok.st with h | h | h
      · exact absurd h s1
      · exact absurd h s2
      · exact h
    obtain ⟨w, hw⟩ := ok.wd (.inr ⟨q, hq⟩)
    have l := ok.ln w hw
    show ({ m.quoted r c with place := (m.quoted r c).place + 1 } : MS).Ok
    rw [MS.place_quoted]
    unfold MS.quoted
    split
    · exact ⟨.inl rfl, fun _ => ⟨w, hw⟩, fun w' e => Nat.le_succ_of_le (ok.ln w' e)⟩
    split
    · exact ⟨.inr (.inr ⟨q, hq⟩), fun _ => ⟨w, hw⟩, fun w' e => Nat.le_succ_of_le (ok.ln w' e)⟩
    · refine ⟨.inr (.inr ⟨q, hq⟩), fun _ => ⟨w ++ [c], by simp [MS.add, hw]⟩, fun w' e' => ?_⟩
      simp only [MS.add, hw, Option.map, Option.some.injEq] at e'
      subst e'
      simp only [List.length_append, List.length_cons, List.length_nil]
      omega
theorem MS.place_step (r : RS) (m : MS) (c : Nat) : (m.step r c).1.place = m.place + 1 := by
  refine MS.step_cases r m c (fun x => x.1.place = m.place + 1) (fun m1 h _ => ?_) (fun m1 h _ _ => ?_) (fun _ _ _ => rfl) fun _ _ _ => congrArg (· + 1) (m.place_quoted r c)
  · rcases h with h | h <;> subst h <;> rfl
  · show (m1.plain r c).1.place + 1 = _
    rw [MS.place_plain]
    rcases h with h | h <;> subst h <;> rfl
theorem MS.rules_step (r : RS) (m : MS) (c : Nat) : (m.step r c).1.rules = m.rules := by
  refine MS.step_cases r m c (fun x => x.1.rules = m.rules) (fun m1 h _ => ?_) (fun m1 h _ _ => ?_) (fun _ _ _ => rfl) fun _ _ _ => m.rules_quoted r c
  · rcases h with h | h <;> subst h <;> rfl
  · show (m1.plain r c).1.rules = _
    rw [MS.rules_plain]
    rcases h with h | h <;> subst h <;> rfl
theorem MS.out_step (r : RS) (m : MS) (c : Nat) : (m.step r c).2.length ≤ 1 := by
  have o : ∀ m1 : MS, m1.out.length ≤ 1 := fun m1 => by unfold MS.out; split <;> simp
  refine MS.step_cases r m c (fun x => x.2.length ≤ 1) (fun m1 h _ => Nat.zero_le _) (fun m1 h _ _ => ?_) (fun _ _ _ => Nat.zero_le _) fun _ _ _ => Nat.zero_le _
  show (m1.plain r c).2.length ≤ 1
  unfold MS.plain
  repeat' split
  all_goals first | exact o m1 | exact Nat.zero_le _
def MS.run (r : RS) (m : MS) : Tx → MS × List W3
  | [] => (m, [])
  | c :: t => (((m.step r c).1.run r t).1, (m.step r c).2 ++ ((m.step r c).1.run r t).2)
theorem MS.run_app (r : RS) : ∀ (t u : Tx) (m : MS), m.run r (t ++ u) = (((m.run r t).1.run r u).1, (m.run r t).2 ++ ((m.run r t).1.run r u).2)
  | [], u, m => by simp [MS.run]
  | c :: t, u, m => by
    have ih := MS.run_app r t u (m.step r c).1
    simp only [List.cons_append, MS.run, ih, List.append_assoc]
theorem MS.run_one (r : RS) (t : Tx) (c : Nat) (m : MS) : m.run r (t ++ [c]) = (((m.run r t).1.step r c).1, (m.run r t).2 ++ ((m.run r t).1.step r c).2) := by
  rw [MS.run_app]
  simp [MS.run]
theorem MS.Ok.run (r : RS) : ∀ (t : Tx) {m : MS}, m.Ok → (m.run r t).1.Ok
  | [], _, ok => ok
  | c :: t, m, ok => MS.Ok.run r t (ok.step r c)
theorem MS.place_run (r : RS) : ∀ (t : Tx) (m : MS), (m.run r t).1.place = m.place + t.length
  | [], _ => rfl
  | c :: t, m => by
    show ((m.step r c).1.run r t).1.place = _
    rw [MS.place_run r t, MS.place_step, List.length_cons]; omega
theorem MS.rules_run (r : RS) : ∀ (t : Tx) (m : MS), (m.run r t).1.rules = m.rules
  | [], _ => rfl
  | c :: t, m => by
    show ((m.step r c).1.run r t).1.rules = _
    rw [MS.rules_run r t, MS.rules_step]
theorem MS.out_run (r : RS) : ∀ (t : Tx) (m : MS), (m.run r t).2.length ≤ t.length
  | [], _ => Nat.le_refl _
  | c :: t, m => by
    show ((m.step r c).2 ++ ((m.step r c).1.run r t).2).length ≤ _
    rw [List.length_append, List.length_cons]
    have h1 := MS.out_step r m c
    have h2 := MS.out_run r t (m.step r c).1
    omega
theorem take_more {α : Type} : ∀ {l : List α} {i : Nat} {x : α}, l[i]? = some x → l.take (i + 1) = l.take i ++ [x]
  | [], i, x, h => by simp at h
  | a :: l, 0, x, h => by
    have e : a = x := Option.some.inj h
    subst e
    rfl
  | a :: l, i + 1, x, h => by
    have ih := take_more (l := l) (i := i) (x := x) h
    simp only [List.take_succ_cons, List.cons_append, List.cons.injEq, true_and]
    exact ih
/-- all words with their places, or the fault's place -/
def readAll (r : RS) (t : Tx) (rp : Addr) : Except Nat (List W3) :=
  match ((MS.zero rp).run r t).1.fault with
  | some n => .error n
  | none => .ok (((MS.zero rp).run r t).2 ++ ((MS.zero rp).run r t).1.out)
section
variable {P : Program} {w : World} {K : PySem.W.Frag} {mg : Str → Option Value} {base : Heap} {a : Ad}
/-- what read_all tells, at a new tuple -/
def ToldAll (H H' : Hp) (tp : Addr) (x : Except Nat (List W3)) : Prop :=
  match x with
  | .error n => H' tp = some (.tup [.non, .int n])
  | .ok ds => ∃ l xs, H l = none ∧ H' tp = some (.tup [.ref l, .non]) ∧ H' l = some (.lst xs) ∧ Fnds H' xs ds
def sp_read_all (a : Ad) : Sp := fun vs H Q _ => ∃ rp dr r t, vs = [.ref rp, .str (S t)] ∧ H rp = some (.ins a.c_Rules dr (RS.f r)) ∧ r.hard.length + r.soft.length ≤ 100 ∧ t.length ≤ 50000 ∧
  ∀ tp H', H tp = none → Same H H' → ToldAll H H' tp (readAll r t rp) → Q (.ref tp) H'
theorem ok_read_all (T : Txt K mg a) : FnOk P w K mg base CX0 4 a.f_read_all a.d_read_all P_read_all (sp_read_all a) := by
  refine T.F_read_all.ok sc_read_all (fun vs H Q E h => ?_) (fun cdv A outer s H vs Q E hr h => ?_)
  · obtain ⟨rp, dr, r, t, rfl, _⟩ := h
    rfl
  · obtain ⟨rp, dr, r, t, rfl, hR, hq, ht, k⟩ := h
    have G_Machine_init := ok_Machine_init (P := P) (w := w) (base := base) T
    have B_Machine_init := bi_Machine_init T
    have G_Machine_step := ok_Machine_step (P := P) (w := w) (base := base) T
    have B_Machine_step := bi_Machine_step T
    have G_Machine_fault := ok_Machine_fault (P := P) (w := w) (base := base) T
    have B_Machine_fault := bi_Machine_fault T
    have G_Machine_ended := ok_Machine_ended (P := P) (w := w) (base := base) T
    have B_Machine_ended := bi_Machine_ended T
    refine ⟨_,
(pss_cons (ps_par (i := 2) (j := 3) (by rfl) sc_read_all.nd rfl rfl (by decide) rfl rfl (pa_cons (pe_make T.c_Machine.mc G_Machine_init (hr.mono (by decide)) rfl T.c_Machine.g B_Machine_init .nil pass0 (pa_cons (pv 0) pa_nil)) (pa_cons (pe_lst pa_nil) pa_nil)) (by rfl))
    (pss_cons (ps_for PassesOwn.never rfl (pi_str (pv 1)) (pg_name (i := 4) sc_read_all.nd rfl (by first | exact Or.inl rfl | exact Or.inr rfl))
    (pss_one (ps_expr (pe_bm PySem.F.plainAttrs_list PySem.F.slot_list_extend PySem.F.type_list_extend mt_extend (pv 3) (pa_cons (pe_meth (pv 2) T.c_Machine.cl T.m_Machine_step G_Machine_step (hr.mono (by decide)) B_Machine_step .nil pass0 (pa_cons (pv 4) pa_nil)) pa_nil)))))
    (pss_cons (ps_if (pt_cmpR op_notN (pe_meth0 (pv 2) T.c_Machine.cl T.m_Machine_fault G_Machine_fault (hr.mono (by decide)) B_Machine_fault .nil pass0) pe_non (nomark _)) (pss_one (ps_ret (pe_tup (pa_cons pe_non (pa_cons (pe_meth0 (pv 2) T.c_Machine.cl T.m_Machine_fault G_Machine_fault (hr.mono (by decide)) B_Machine_fault .nil pass0) pa_nil))))) pss_nil)
    (pss_one (ps_ret (pe_tup (pa_cons (pe_op op_cat (pv 3) (pe_meth0 (pv 2) T.c_Machine.cl T.m_Machine_ended G_Machine_ended (hr.mono (by decide)) B_Machine_ended .nil pass0)) (pa_cons pe_non pa_nil))))))))
      , ?_⟩
    rw [show start N_read_all [V.ref rp, V.str (S t)] = [some (.ref rp), some (.str (S t)), none, none, none] from rfl]
    have hc := T.c_Machine.cl
    walk_at "rd"
    intro p dx hp hdx ne
    refine ⟨p, dx, rp, rfl, upd_same, fun H1 h1 h2 => ⟨rfl, fun f hf => ?_⟩⟩
    have S1 : Same H H1 := Same.made hp hdx h2
    have nf : H f = none := S1.free hf
    have npf : p ≠ f := ne_of_none h1 hf
    refine ⟨_, rfl, S t, rfl, for_it (n := t.length) (G := fun _ => True) (Y := fun i H v H' => H' = H ∧ ∃ c, t[i]? = some c ∧ v = .str (S [c])) ?_ (fun i σ H2 => ∃ v xs, σ = [some (.ref rp), some (.str (S t)), some (.ref p), some (.ref f), v] ∧
      H2 p = some (.ins a.c_Machine dx (((MS.zero rp).run r (t.take i)).1).f) ∧ H2 f = some (.lst xs) ∧ Fnds H2 xs ((MS.zero rp).run r (t.take i)).2 ∧ Same H H2)
      ?_ (fun _ _ _ _ _ => trivial) ?_ ?_⟩
    · have w := walk_str (z := S t)
      rw [S_size] at w
      exact w.mono (fun _ _ => trivial) fun i H x H' hi _ ⟨e, c, h1, h2⟩ => ⟨e, c, by simpa [S] using h1, h2⟩
    · refine ⟨none, [], rfl, ?_, upd_same, .nil, (S1.mut nf)⟩
      rw [upd_ne npf]
      exact h1
    · rintro i x σ H2 H3 hi ⟨v, xs, rfl, g1, g2, g3, g4⟩ ⟨rfl, c, hc1, rfl⟩
      walk_at "rdh"
      have pl : ((MS.zero rp).run r (t.take i)).1.place = i := by
        rw [MS.place_run, List.length_take]
        show 0 + _ = i
        omega
      have ru : ((MS.zero rp).run r (t.take i)).1.rules = rp := MS.rules_run r _ _
      have ok := (MS.Ok.zero rp).run r (t.take i)
      have e1 := take_more hc1
      have pf : f ≠ p := Ne.symm npf
      have el : xs.length ≤ i := by
        have h1 := g3.length
        have h2 := MS.out_run r (t.take i) (MS.zero rp)
        rw [List.length_take] at h2
        omega
      refine ⟨.inl ⟨rfl, _, .inl (.inl g2)⟩, p, dx, _, c, dr, r, rfl, g1, (by rw [ru]; exact g4 _ _ hR), hq, ok, (by rw [pl]; omega), fun l H' ys q1 q2 q3 q4 q5 => ?_⟩
      have nlf : l ≠ f := fun z => by rw [z, g2] at q1; cases q1
      refine ⟨l, rfl, xs, q5 _ _ g2 pf, ys, q2, ?_, ?_, ?_, ?_⟩
      · have h1 := q3.length
        have h2 := MS.out_step r ((MS.zero rp).run r (t.take i)).1 c
        exact Nat.le_trans (show xs.length + ys.length ≤ 100000 by omega) (by decide)
      · rw [e1, MS.run_one]
        exact q4
      · rw [e1, MS.run_one]
        have k2 : Tk H' (upd H' f (.lst (xs ++ ys))) := kp_upd.tk (q5 _ _ g2 pf) fun _ z => by cases z
        exact Paired.app ((g3.mono (q5.tk g1 fun _ z => by cases z)).mono k2) (q3.mono k2)
      · refine Same.mut (fun b o e => q5 b o (g4 b o e) fun z => ?_) nf
        rw [z, hp] at e; cases e
    · rintro σ H2 ⟨v, xs, rfl, g1, g2, g3, g4⟩
      rw [List.take_length] at g1 g3
      walk_at "rdh"
      refine ⟨p, dx, _, rfl, g1, fun H3 s3 => ?_⟩
      have nof : f ≠ p := Ne.symm npf
      cases ef : ((MS.zero rp).run r t).1.fault with
      | some n =>
        simp only [ef]
        refine ite2 (fun _ => ?_) (fun c => absurd (by intro z; cases z) c)
        refine ⟨dx, _, s3 _ _ g1, lkn_fault _, p, dx, _, rfl, s3 _ _ g1, fun H4 s4 => ?_⟩
        simp only [ef]
        intro tp htp
        refine k tp _ (((g4.trans s3).trans s4).free htp) (((g4.trans s3).trans s4).trans (same_new htp)) ?_
        simp only [readAll, ef, ToldAll]
        exact upd_same
      | none =>
        simp only [ef]
        refine ite2 (fun c => absurd trivial c) (fun _ => ?_)
        refine ⟨dx, _, s3 _ _ g1, lkn_ended _, p, dx, _, rfl, s3 _ _ g1, fun l H4 ys q1 q2 q3 q4 q5 => ?_⟩
        have f4 := q5 _ _ (s3 _ _ g2) nof
        have S4 : Same H H4 := fun b o e => q5 b o (s3 _ _ (g4 b o e)) fun z => by rw [z, hp] at e; cases e
        refine ⟨l, rfl, xs, f4, ys, q2, ?_, fun l2 h2' tp htp => ?_⟩
        · have h1 := q3.length
          have h2 := g3.length
          have h3 := MS.out_run r t (MS.zero rp)
          have h4 : ((MS.zero rp).run r t).1.out.length ≤ 1 := by unfold MS.out; split <;> simp
          exact Nat.le_trans (show xs.length + ys.length ≤ 100000 by omega) (by decide)
        have htp' := none_upd htp
        have n1 := ne_upd htp
        have s5 := same_new (o := HO.lst (xs ++ ys)) h2'
        have s6 := same_new (o := HO.tup [V.ref l2, V.non]) htp
        refine k tp _ (S4.free htp') ((S4.trans s5).trans s6) ?_
        simp only [readAll, ef, ToldAll]
        refine ⟨l2, xs ++ ys, S4.free h2', upd_same, ?_, ?_⟩
        · rw [upd_ne (Ne.symm n1), upd_same]
        · have tk : Tk H4 _ := (s5.trans s6).tk
          exact Paired.app (((g3.mono s3.tk).mono (q5.tk (s3 _ _ g1) fun _ z => by cases z)).mono tk) (q3.mono tk)
end
end Qw

set_option Elab.async false
set_option linter.all false
set_option maxRecDepth 100000
set_option maxHeartbeats 4000000
/-! promises of defs that know that no list is being shown around them; str of data -/
namespace Qw
open PySem L2 PySem.Spec PyProof.Rows

def Free (A : Around) : Prop := A.guards = some []
theorem Free.deeper {A : Around} (h : Free A) (e : Env) : Free (A.deeper e) := h
theorem free_caller : Free callerA := rfl

structure FnG (P : Program) (w : World) (K : PySem.W.Frag) (mg : Str → Option Value) (base : Heap) (k : Nat) (f : Addr) (fd : FuncData) (ps : List Str) (sp : Sp) : Prop where
  lenG : ∀ vs H Q E, sp vs H Q E → vs.length = ps.length
  runG : ∀ (A : Around) (out : List Env) (s : Shared) (H : Hp) (as : Args) (us : List Value) (vs : List V) (Q : VK) (E : XK),
    Free A → Room k A → Env0 P w K mg base A out s H → BindsTo s fd as (ps.zip us) → Vals vs us → sp vs H Q E → codeAny (model P w) A (.call (.ref f) as) (CR CX0 out P w H s Q E) s
section
variable {P : Program} {w : World} {K : PySem.W.Frag} {mg : Str → Option Value} {base : Heap}

theorem fnG_of {k : Nat} {x qual : Str} {st : Stmt} {f : Addr} {fd : FuncData} {N ps : List Str} {sp : Sp} (F : L2.Fun K x qual st f fd) (S : FnScope N ps (defScope st))
    (ln : ∀ vs H Q E, sp vs H Q E → vs.length = ps.length)
    (hb : ∀ (cd : Value) (A : Around) (out : List Env) (s : Shared) (H : Hp) (vs : List V) (Q : VK) (E : XK),
      Free (A.deeper (envOfC qual (defScope st) s.heap.objs.size f cd)) → Room k (A.deeper (envOfC qual (defScope st) s.heap.objs.size f cd)) → sp vs H Q E →
      ∃ t, PSs (cxOf CX0 P w K mg base N qual (defScope st) f cd A out s H E).nox (defBody st) t ∧ t { nx := fun _ H' => Q .non H', rt := Q } (start N vs) H) :
    FnG P w K mg base (k + 1) f fd ps sp := by
  obtain ⟨oc, od, kV, doc, pm, an, cd, ct, osl, rfl, lk, hc⟩ := F.ex
  refine ⟨ln, fun A out s H as us vs Q E hf hr e0 b r q => ?_⟩
  have KX : K.In s.heap := e0.mod.kin.keeps fun _ _ e => (e0.bs _ _ e).1
  have lim : s.heap.NoLimit := e0.mod.nolimit.keeps fun _ _ e => (e0.bs _ _ e).1
  have kinds : ∀ y ∈ ps.zip us, (defScope st).names.lookup y.1 = some .local ∨
      ((defScope st).names.lookup y.1 = some .cell ∧ ((cellsFrom (s.heap.objs.size + 1) (defScope st).names []).lookup y.1).isSome = true) := by
    rintro ⟨n, v⟩ hy
    exact (S.par n (List.of_mem_zip hy).1).imp id fun z => ⟨z, PySem.W.cellsFrom_some _ _ _ (.inl z)⟩
  refine codeAny_call_function hr.depth (KX _ _ lk) rfl S.co
    S.gen rfl (PySem.W.codeRec_of KX hc) (b _ _ _ _ ?_)
  refine wpAny_newFunctionEnv_cells S.kind kinds fun env he s1 x => ?_
  cases he
  refine ⟨lim.keeps x.toInCall.keep, codeAny_func ?_⟩
  obtain ⟨t, ht, hq⟩ := hb cd A out s H vs Q E (hf.deeper _) (hr.deeper _) q
  have J := inv_start (CX := CX0) (P := P) (w := w) (K := K) (mg := mg) (base := base) (N := N) (cd := cd) (E := E) S hr.hd e0 (ln _ _ _ _ q) r x
  refine wpAny_mono (ht.nox.run [] s1 (start N vs) H _ J hq) (fun fl s' hs => ?_) fun _ _ hs => hs
  cases fl with
  | brk => exact hs.elim fun _ z => z.elim fun _ z => z.2.elim
  | cont => exact hs.elim fun _ z => z.elim fun _ z => z.2.elim
  | ret u =>
    obtain ⟨v, σ', H', I, rv, h⟩ := hs
    exact ⟨v, H', I.os, I.bare, I.base, I.hok, rv, h⟩
  | next =>
    obtain ⟨σ', H', I, h⟩ := hs
    exact ⟨V.non, H', I.os, I.bare, I.base, I.hok, rfl, h⟩
end

section
variable {X : Cx} {k : Nat} {f : Addr} {fd : FuncData} {ps : List Str} {sp : Sp} {dvs : List V} {ds : List Value} {E : XK} {x : Str} {p pos : Pos} {e : Expr} {es : List Expr} {t : TA}
theorem run_fnG {pins : List (Addr × Obj)} {σ : L2.St} {H : Hp} {s : Shared} {Q : VK} {us : List Value} {vs : List V} (F : FnG X.prog X.w X.K X.mg X.base k f fd ps sp) (hf : Free X.A) (hr : Room k X.A)
    (hb : Binds X.K fd ps []) (I : Inv X pins σ H s) (r : Vals vs us) (h : sp vs H Q E) : wpAny (model X.prog X.w) X.A (call (.ref f) us) (EP X pins σ Q) X.xe s := by
  have hl : (us ++ []).length = ps.length := by
    rw [List.append_nil, ← r.length]
    exact F.lenG _ _ _ _ h
  have bd := hb s us I.kIn hl
  rw [List.append_nil] at bd
  refine wpAny_call (codeAny_mono (F.runG X.A X.stack s H ⟨us, []⟩ us vs Q E hf hr I.env0 bd r h) fun y s' q => ?_)
  match y, q with
  | .error _, q => exact q.elim
  | .ok (.ret u), q => exact I.after q
theorem pe_callG (F : FnG X.prog X.w X.K X.mg X.base k f fd ps sp) (hf : Free X.A) (hr : Room k X.A) (hg : Gl X x) (hm : X.mg x = some (.ref f)) (hk : PySem.W.keepIn X.K (.ref f) = true) (hb : Binds X.K fd ps [])
    (ha : PA X (e :: es) t) (hdb : (x == ("__debug__" : Str)) = false := by decide) (he : starEach (e :: es) X.env = (false, eval e X.env) :: starEach es X.env := by rfl)
    (hpl : (backTo pos (starEach es X.env)).any (·.1) = false := by rfl) : PE X (.Call (.Name x p) (e :: es) [] pos) (tCall sp [] E0 t) := by
  refine ⟨fun pins s σ H Q I h => wpAny_Call_Name_kw (ld_glob I hg hm ?_ hdb)⟩
  refine PySem.W.callWith_K (h₀ := X.base) I.ok.mod.kin hk ?_ he hpl
  refine thn (ha.run pos pins s σ H _ I h) fun us s1 ⟨vs, H1, I1, r, q⟩ => ⟨I1.kIn, ?_⟩
  have q : sp (vs ++ []) H1 Q E0 := q
  rw [List.append_nil] at q
  exact run_fnG F hf hr hb I1 r q
/-- str(x) of data that holds no dict -/
theorem call_str_data (hf : Free X.A) (hu : X.A.units + 64 < cLine) : CallR X (.type "str") (fun xs H Q => ∃ a d, xs = [.ref a] ∧ Dp X.K H (.ref a) d ∧ d.showable = true ∧ d.hasDict = false ∧ d.depth ≤ 32 ∧ d.shown.length ≤ sizeLine ∧
    Q (.str d.shown) H) := by
  intro pins s σ H xs us Q I r h
  obtain ⟨a, d, rfl, hd, h1, h2, h3, h4, q⟩ := h
  obtain ⟨u, rfl, ru⟩ := vals1 r
  obtain ⟨as, rd⟩ := Dp.reads I d _ u hd ru
  cases ru
  refine str_of_reads rd h1 (PyData.noDict_hsm h2) hf (by omega) (fun _ _ e => e) (fun h' u tk hk => ?_) h4
  exact ⟨.str d.shown, H, I.kept (t' := tk) hk, ⟨u, rfl⟩, q⟩
end

/-! ### the end -/
theorem law_callG {P : Program} {w : World} {K : PySem.W.Frag} {mg mb : Str → Option Value} {k : Nat} {fa a : Addr} {fd : FuncData} {x : Str} {sp : Sp} {s₁ : Shared} {vs : List Value} {ns : List Int}
    (KX : K.In s₁.heap) (hns : s₁.heap.Ns mainGlobals mg) (hb : s₁.heap.Ns builtinsNs mb) (hbb : ∀ x : Str, x ≠ "__name__" → mb x = bootBuiltins x)
    (hlim : s₁.heap.NoLimit) (hg : s₁.gens = #[]) (ha : s₁.heap.get? a = some { cls := .type "list", data := .seq vs.toArray }) (hi : IntsAre vs ns)
    (hl : ns.length ≤ sizeLine) (hr : Room k callerA) (F : ∀ base : Heap, K.In base → base.Ns mainGlobals mg → FnG P w K mg base k fa fd [x] sp)
    (hbind : ∀ (s : Shared) (u : Value), BindsTo s fd ⟨[u], []⟩ [(x, u)])
    (hsp : ∀ H : Hp, Only H → SqL K H a (ns.map V.int) → sp [.ref a] H (fun v _ => v = .bl true) E0) :
    codeAny (model P w) callerA (.call (.ref fa) ⟨[.ref a], []⟩)
      (fun r s' => r = .ok (.ret (.bool true)) ∧ OldK s₁.heap s'.heap ∧ s'.os = s₁.os ∧ AllBare s'.gens) s₁ := by
  have rv := vals_ints hi
  have core : ∀ H : Hp, Only H → SqL K H a (ns.map V.int) → HOk P w H s₁.heap → (∀ b, H b ≠ none → b = a) → (H a ≠ none → K.lookup a = none) →
      codeAny (model P w) callerA (.call (.ref fa) ⟨[.ref a], []⟩)
        (fun r s' => r = .ok (.ret (.bool true)) ∧ OldK s₁.heap s'.heap ∧ s'.os = s₁.os ∧ AllBare s'.gens) s₁ := by
    intro H hO hS hok hA hK
    have there : ∀ {b : Addr}, H b ≠ none → s₁.heap.get? b = some { cls := .type "list", data := .seq vs.toArray } ∧ K.lookup b = none := fun {b} z => by
      cases hA b z
      exact ⟨ha, hK z⟩
    have hid : ∀ {b : Addr} {o : Obj}, s₁.heap.get? b = some o → H b = none → (hidT s₁.heap H).get? b = some o := fun e n => hidT_get e n
    have ns' : ∀ {b : Addr} {m : Str → Option Value}, s₁.heap.Ns b m → (hidT s₁.heap H).Ns b m := by
      rintro b m ⟨o, es, ep, e, d, r⟩
      refine ⟨o, es, ep, hid e (Classical.byContradiction fun z => ?_), d, r⟩
      rw [(there z).1] at e
      cases e
      exact nomatch (show Data.seq vs.toArray _ = Data.dict es ep from d)
    have hKb : K.In (hidT s₁.heap H) := fun b o e => by
      refine hid (KX b o e) (Classical.byContradiction fun z => ?_)
      rw [(there z).2] at e
      cases e
    have hM : Mod K mg (hidT s₁.heap H) := by
      obtain ⟨mc, l1, l2⟩ := hlim
      exact ⟨hKb, ns' hns, ⟨mb, ns' hb, hbb⟩, ⟨mc, ns' l1, l2⟩⟩
    have e0 : Env0 P w K mg (hidT s₁.heap H) callerA [] s₁ H :=
      ⟨rfl, hM, fun _ _ e => of_hidT e, Nat.le_of_eq (hidT_size _ _), trivial, fun b z => (by cases z), hok, .of_eq hg⟩
    have run := (F _ hKb (ns' hns)).runG callerA [] s₁ H ⟨[.ref a], []⟩ [.ref a] [.ref a] _ _ free_caller hr e0 (hbind s₁ (.ref a)) (.cons rfl .nil) (hsp H hO hS)
    refine codeAny_mono run fun r s' h => ?_
    match r, h with
    | .error _, h => exact h.elim
    | .ok (.ret u), h =>
      obtain ⟨v, H', os, bare, un, hok', r', q⟩ := h
      cases (show v = .bl true from q)
      cases (show u = Value.bool true from r')
      refine ⟨rfl, OldK.of_keep fun b o e => ?_, os, bare⟩
      rcases hO b with z | ⟨ob, xs, z⟩
      · exact un.keep b o e z (by intro y; cases y) (by simp)
      · have e1 := (hok b _ z).1
        rw [e] at e1
        cases e1
        exact (hok' b _ (un.frzs b _ _ z)).1
  have lenV := hi.length
  rcases hk : K.lookup a with _ | o
  · let o : Obj := { cls := .type "list", data := .seq vs.toArray }
    have own : ∀ {b : Addr} {u : HO}, (if b = a then some (HO.frz o (.lst (ns.map V.int))) else none) = some u → b = a ∧ u = HO.frz o (.lst (ns.map V.int)) := fun {b u} z => by
      by_cases e : b = a
      · rw [if_pos e] at z
        exact ⟨e, (Option.some.inj z).symm⟩
      · rw [if_neg e] at z
        cases z
    refine core (fun b => if b = a then some (.frz o (.lst (ns.map V.int))) else none) (fun b => ?_) (.inl (.inr ⟨o, if_pos rfl⟩)) (fun b u z => ?_) (fun b z => ?_) fun _ => hk
    · by_cases e : b = a
      · exact .inr ⟨_, _, if_pos e⟩
      · exact .inl (if_neg e)
    · obtain ⟨rfl, rfl⟩ := own z
      exact ⟨ha, by rw [List.length_map]; exact hl, vs, _, rv, ha⟩
    · exact Classical.byContradiction fun e => z (if_neg e)
  · have e := KX a o hk
    rw [ha] at e
    cases e
    refine core (fun _ => none) (fun _ => .inl rfl) ?_ (fun b u z => nomatch (show (none : Option HO) = some u from z)) (fun b z => absurd rfl z) fun z => absurd rfl z
    exact .inr ⟨_, vs.toArray, _, hk, rfl, rfl, rfl, by rw [List.size_toArray, lenV]; exact hl, by simpa using rv⟩
/-- a law: F gives the written part, the function object, the promise over every base -/
theorem walk_ofG {l : PySem.W.OpenLaw} {n k : Nat} {q : Program} {loose : List Str} {XP : (Str → Option Value) → Heap → Prop} {YP : World → Heap → Prop} {d : DefRec} {x : Str}
    (hn : l.most = some n) (hn2 : n ≤ sizeLine) (hdf : d.params.defaults = []) (hr : Room k callerA)
    (F : ∀ (w : World) (mg : Str → Option Value) (fa : Addr) (h : Heap), YP w h → h.Ns mainGlobals mg → mg d.name = some (.ref fa) →
      ∃ (K : PySem.W.Frag) (fd : FuncData) (sp : Sp), K.In h ∧ (∀ (s : Shared) (u : Value), BindsTo s fd ⟨[u], []⟩ [(x, u)]) ∧
        (∀ (H : Hp) (a : Addr) (ns : List Int), ns.length ≤ n → (∀ z ∈ ns, Builtin.Int.intBits z ≤ 1048576) → Only H → SqL K H a (ns.map V.int) → sp [.ref a] H (fun v _ => v = .bl true) E0) ∧
        ∀ base : Heap, K.In base → base.Ns mainGlobals mg → FnG l.prog w K mg base k fa fd [x] sp) : PySem.W.WalkO q loose XP YP l.row.toRowW d [] (fun f vs => PySem.call f vs) := by
  refine Att.attach_callB hn hdf fun w _ s₁ mg mb fa o pm cd doc a vs ns G Y ho hd hcd hmg hob hin hlen hbits hg => ?_
  obtain ⟨K, fd, sp, KX, hb, hsp, hF⟩ := F w mg fa _ Y G.T.g hmg
  exact law_callG KX G.T.g G.T.b G.T.builtins G.T.nolimit hg hob hin (Nat.le_trans hlen hn2) hr hF hb fun H hO hS => hsp H a ns hlen hbits hO hS
end Qw

set_option Elab.async false
set_option linter.all false
set_option maxRecDepth 100000
set_option maxHeartbeats 4000000
/-! data of none, short ints, texts, lists and tuples: shown, compared -/
namespace Qw
open PySem L2
mutual
def tame : PyData → Bool
  | .none => true
  | .int i => decide (i.natAbs < 1000000000)
  | .str x => PyData.strOk x
  | .list xs => tameAll xs
  | .tuple xs => tameAll xs
  | .bool _ => false
  | .dict _ => false
def tameAll : List PyData → Bool
  | [] => true
  | x :: xs => tame x && tameAll xs
end
theorem tameAll_iff : ∀ {xs : List PyData}, tameAll xs = true ↔ ∀ x ∈ xs, tame x = true
  | [] => by simp [tameAll]
  | x :: xs => by simp [tameAll, tameAll_iff (xs := xs)]
theorem short13 {i : Int} (h : i.natAbs < 1000000000) : PyData.intsShort 13 (.int i) = true := by
  have := PyData.intsShortAll_ints [i] (fun n hn => by cases List.mem_singleton.mp hn; exact Nat.lt_trans h (by decide))
  simpa [PyData.intsShortAll] using this
mutual
theorem tame_has : ∀ d : PyData, tame d = true → PyData.canLay0 d = true ∧ PyData.showable d = true ∧ PyData.hasDict d = false ∧ PyData.intsShort 13 d = true
  | .none, _ => ⟨by simp [PyData.canLay0], by simp [PyData.showable], by simp [PyData.hasDict], by simp [PyData.intsShort]⟩
  | .int i, h => by
    have h' : i.natAbs < 1000000000 := by simpa [tame] using h
    refine ⟨by simp [PyData.canLay0], ?_, by simp [PyData.hasDict], short13 h'⟩
    simp only [PyData.showable, decide_eq_true_eq]
    by_cases z : i.natAbs = 0
    · rw [z]; decide
    · have : i.natAbs.log2 < 30 := (Nat.log2_lt z).mpr (by omega)
      omega
  | .str x, h => ⟨by simpa [tame, PyData.canLay0] using h, by simp [PyData.showable], by simp [PyData.hasDict], by simp [PyData.intsShort]⟩
  | .list xs, h => by
    have := tameAll_has xs (by simpa [tame] using h)
    exact ⟨by simp only [PyData.canLay0]; exact this.1, by simp only [PyData.showable]; exact this.2.1, by simp only [PyData.hasDict]; exact this.2.2.1, by simp only [PyData.intsShort]; exact this.2.2.2⟩
  | .tuple xs, h => by
    have := tameAll_has xs (by simpa [tame] using h)
    exact ⟨by simp only [PyData.canLay0]; exact this.1, by simp only [PyData.showable]; exact this.2.1, by simp only [PyData.hasDict]; exact this.2.2.1, by simp only [PyData.intsShort]; exact this.2.2.2⟩
  | .bool _, h => by simp [tame] at h
  | .dict _, h => by simp [tame] at h
theorem tameAll_has : ∀ xs : List PyData, tameAll xs = true → PyData.canLayAll0 xs = true ∧ PyData.showableAll xs = true ∧ PyData.hasDictAll xs = false ∧ PyData.intsShortAll 13 xs = true
  | [], _ => ⟨by simp [PyData.canLayAll0], by simp [PyData.showableAll], by simp [PyData.hasDictAll], by simp [PyData.intsShortAll]⟩
  | x :: xs, h => by
    have h' : tame x = true ∧ tameAll xs = true := by simpa [tameAll] using h
    have a := tame_has x h'.1
    have b := tameAll_has xs h'.2
    exact ⟨by simp [PyData.canLayAll0, a, b], by simp [PyData.showableAll, a, b], by simp [PyData.hasDictAll, a, b], by simp [PyData.intsShortAll, a, b]⟩
end
mutual
theorem eqv_iff : ∀ d e : PyData, tame d = true → tame e = true → (PyData.eqv d e = true ↔ d = e)
  | .list xs, .list ys, h, k => by
    simp only [PyData.eqv, PyData.list.injEq]
    exact eqvAll_iff xs ys (by simpa [tame] using h) (by simpa [tame] using k)
  | .tuple xs, .tuple ys, h, k => by
    simp only [PyData.eqv, PyData.tuple.injEq]
    exact eqvAll_iff xs ys (by simpa [tame] using h) (by simpa [tame] using k)
  | .none, e, _, k => by cases e <;> simp [PyData.eqv, tame] at k ⊢
  | .int _, e, _, k => by cases e <;> simp [PyData.eqv, tame] at k ⊢
  | .str _, e, _, k => by cases e <;> simp [PyData.eqv, tame] at k ⊢
  | .bool _, _, h, _ => by simp [tame] at h
  | .dict _, _, h, _ => by simp [tame] at h
  | .list _, .none, _, _ => by simp [PyData.eqv]
  | .list _, .int _, _, _ => by simp [PyData.eqv]
  | .list _, .str _, _, _ => by simp [PyData.eqv]
  | .list _, .tuple _, _, _ => by simp [PyData.eqv]
  | .list _, .bool _, _, k => by simp [tame] at k
  | .list _, .dict _, _, k => by simp [tame] at k
  | .tuple _, .none, _, _ => by simp [PyData.eqv]
  | .tuple _, .int _, _, _ => by simp [PyData.eqv]
  | .tuple _, .str _, _, _ => by simp [PyData.eqv]
  | .tuple _, .list _, _, _ => by simp [PyData.eqv]
  | .tuple _, .bool _, _, k => by simp [tame] at k
  | .tuple _, .dict _, _, k => by simp [tame] at k
theorem eqvAll_iff : ∀ xs ys : List PyData, tameAll xs = true → tameAll ys = true → (PyData.eqvAll xs ys = true ↔ xs = ys)
  | [], [], _, _ => by simp [PyData.eqvAll]
  | [], _ :: _, _, _ => by simp [PyData.eqvAll]
  | _ :: _, [], _, _ => by simp [PyData.eqvAll]
  | x :: xs, y :: ys, h, k => by
    have h' : tame x = true ∧ tameAll xs = true := by simpa [tameAll] using h
    have k' : tame y = true ∧ tameAll ys = true := by simpa [tameAll] using k
    simp only [PyData.eqvAll, Bool.and_eq_true, List.cons.injEq]
    rw [eqv_iff x y h'.1 k'.1, eqvAll_iff xs ys h'.2 k'.2]
end
theorem eqv_dec {d e : PyData} {p : Prop} [Decidable p] (h : tame d = true) (k : tame e = true) (i : d = e ↔ p) : PyData.eqv d e = decide p := by
  rw [Bool.eq_iff_iff, eqv_iff d e h k, i, decide_eq_true_eq]
theorem shaped_of {d : PyData} (h : tame d = true) (hd : d.depth ≤ 32) : SeqAt.shaped d = true := by
  show (PyData.canLay0 d && decide (d.depth ≤ 64)) = true
  rw [(tame_has d h).1, Bool.true_and, decide_eq_true_eq]
  omega
theorem shown_of {d : PyData} (h : tame d = true) (hd : d.depth ≤ 32) (hw : d.weight ≤ 1048576) : d.shown.length ≤ sizeLine := by
  refine PyData.shown_fits_of_layable0 (B := 13) (by decide) (by decide) ?_ (tame_has d h).2.2.2
  show (PyData.canLay0 d && decide (PyData.depth d ≤ 64) && decide (PyData.weight d ≤ 2 ^ 20)) = true
  rw [(tame_has d h).1, Bool.true_and, Bool.and_eq_true, decide_eq_true_eq, decide_eq_true_eq]
  exact ⟨by omega, hw⟩
/-! ### words, places -/
def ok8 (t : Tx) : Prop := ∀ c ∈ t, c < 1000
theorem strOk_S {t : Tx} (h : ok8 t) : PyData.strOk (S t) = true := by
  show (S t).cps.all (· < 0x110000) = true
  rw [show (S t).cps = t.toArray from rfl]
  simp only [List.all_toArray, List.all_eq_true, decide_eq_true_eq]
  exact fun c hc => Nat.lt_trans (h c hc) (by decide)
def wsD (ws : List Tx) : PyData := .list (ws.map fun t => .str (S t))
def plD (p : Int × Int) : PyData := .tuple [.int p.1, .int p.2]
def psD (ps : List (Int × Int)) : PyData := .list (ps.map plD)
theorem S_inj' {x y : Tx} : PyData.str (S x) = PyData.str (S y) ↔ x = y := by simp [S_inj]
theorem map_inj {α β : Type} {f : α → β} (h : ∀ {x y}, f x = f y ↔ x = y) {l m : List α} : l.map f = m.map f ↔ l = m :=
  ⟨fun e => List.map_inj_right (fun x y => h.mp) |>.mp e, fun e => by rw [e]⟩
theorem wsD_inj {x y : List Tx} : wsD x = wsD y ↔ x = y := by
  simp only [wsD, PyData.list.injEq]
  exact map_inj S_inj'
theorem plD_inj {x y : Int × Int} : plD x = plD y ↔ x = y := by
  obtain ⟨a, b⟩ := x; obtain ⟨c, d⟩ := y
  simp [plD]
theorem psD_inj {x y : List (Int × Int)} : psD x = psD y ↔ x = y := by
  simp only [psD, PyData.list.injEq]
  exact map_inj plD_inj
def okI (i : Int) : Prop := i.natAbs < 1000000
theorem wsD_tame {ws : List Tx} (h : ∀ t ∈ ws, ok8 t) : tame (wsD ws) = true := by
  simp only [wsD, tame, tameAll_iff, List.mem_map]
  rintro _ ⟨t, ht, rfl⟩
  simp only [tame]
  exact strOk_S (h t ht)
theorem psD_tame {ps : List (Int × Int)} (h : ∀ p ∈ ps, okI p.1 ∧ okI p.2) : tame (psD ps) = true := by
  simp only [psD, tame, tameAll_iff, List.mem_map]
  rintro _ ⟨p, hp, rfl⟩
  have := h p hp
  simp only [okI] at this
  simp only [plD, tame, tameAll, Bool.and_true, Bool.and_eq_true, decide_eq_true_eq]
  omega
theorem depthAll_le {n : Nat} : ∀ {xs : List PyData}, (∀ x ∈ xs, x.depth ≤ n) → PyData.depthAll xs ≤ n
  | [], _ => by simp [PyData.depthAll]
  | x :: xs, h => by
    simp only [PyData.depthAll]
    exact Nat.max_le.mpr ⟨h x (.head _), depthAll_le fun y hy => h y (.tail _ hy)⟩
theorem wsD_depth (ws : List Tx) : (wsD ws).depth ≤ 1 := by
  simp only [wsD, PyData.depth]
  refine Nat.succ_le_succ (depthAll_le fun x hx => ?_)
  obtain ⟨t, _, rfl⟩ := List.mem_map.mp hx
  simp [PyData.depth]
theorem psD_depth (ps : List (Int × Int)) : (psD ps).depth ≤ 2 := by
  simp only [psD, PyData.depth]
  refine Nat.succ_le_succ (depthAll_le fun x hx => ?_)
  obtain ⟨t, _, rfl⟩ := List.mem_map.mp hx
  simp [plD, PyData.depth, PyData.depthAll]
theorem weightAll_le {n : Nat} : ∀ {xs : List PyData}, (∀ x ∈ xs, x.weight ≤ n) → PyData.weightAll xs ≤ (n + 1) * xs.length
  | [], _ => by simp [PyData.weightAll]
  | x :: xs, h => by
    simp only [PyData.weightAll, List.length_cons, Nat.mul_succ]
    have h1 := h x (.head _)
    have h2 := weightAll_le (xs := xs) fun y hy => h y (.tail _ hy)
    omega
theorem wsD_weight {ws : List Tx} {n : Nat} (h : ∀ t ∈ ws, t.length ≤ n) : (wsD ws).weight ≤ (n + 1) * ws.length := by
  simp only [wsD, PyData.weight]
  have := weightAll_le (n := n) (xs := ws.map fun t => PyData.str (S t)) fun x hx => by
    obtain ⟨t, ht, rfl⟩ := List.mem_map.mp hx
    simp only [PyData.weight, S_size]
    exact h t ht
  rwa [List.length_map] at this
theorem int_weight {i : Int} (h : okI i) : (PyData.int i).weight ≤ 30 := by
  simp only [PyData.weight]
  split
  · omega
  · rename_i z
    have z' : i.natAbs ≠ 0 := by simpa using z
    have : i.natAbs.log2 < 20 := (Nat.log2_lt z').mpr (Nat.lt_trans h (by decide))
    omega
theorem psD_weight {ps : List (Int × Int)} (h : ∀ p ∈ ps, okI p.1 ∧ okI p.2) : (psD ps).weight ≤ 63 * ps.length := by
  simp only [psD, PyData.weight]
  have := weightAll_le (n := 62) (xs := ps.map plD) fun x hx => by
    obtain ⟨p, hp, rfl⟩ := List.mem_map.mp hx
    have h1 := int_weight (h p hp).1
    have h2 := int_weight (h p hp).2
    simp only [plD]
    rw [PyData.weight]
    simp only [PyData.weightAll]
    omega
  rwa [List.length_map] at this
/-! ### where they lie -/
def Pls (H : Hp) (x : V) (d : Int × Int) : Prop := ∃ t, x = .ref t ∧ H t = some (.tup [.int d.1, .int d.2])
theorem Pls.mono {H H' : Hp} {x : V} {d : Int × Int} (h : Pls H x d) (t : ∀ b xs, H b = some (.tup xs) → H' b = some (.tup xs)) : Pls H' x d := by
  obtain ⟨b, e, h1⟩ := h
  exact ⟨b, e, t _ _ h1⟩
theorem dpAll_map {α : Type} {K : PySem.W.Frag} {H : Hp} {f : α → V} {g : α → PyData} : ∀ (l : List α), (∀ x ∈ l, Dp K H (f x) (g x)) → DpAll K H (l.map f) (l.map g)
  | [], _ => .nil
  | x :: l, h => .cons (h x (.head _)) (dpAll_map l fun y hy => h y (.tail _ hy))
theorem dpAll_paired {α : Type} {K : PySem.W.Frag} {H : Hp} {F : V → α → Prop} {g : α → PyData} (h : ∀ x y, F x y → Dp K H x (g y)) : ∀ {xs : List V} {l : List α}, Paired F xs l → DpAll K H xs (l.map g)
  | _, _, .nil => .nil
  | _, _, .cons r t => .cons (h _ _ r) (dpAll_paired h t)
theorem dp_ws {K : PySem.W.Frag} {H : Hp} {p : Addr} {ws : List Tx} (h : SqL K H p (ws.map fun t => V.str (S t))) : Dp K H (.ref p) (wsD ws) := .lst h (dpAll_map ws fun _ _ => .str _)
theorem dp_pl {K : PySem.W.Frag} {H : Hp} {x : V} {d : Int × Int} (h : Pls H x d) : Dp K H x (plD d) := by
  obtain ⟨t, rfl, h⟩ := h
  exact .tup (.inl (.inl h)) (.cons (.int _) (.cons (.int _) .nil))
theorem dp_ps {K : PySem.W.Frag} {H : Hp} {p : Addr} {xs : List V} {ps : List (Int × Int)} (h : SqL K H p xs) (q : Paired (Pls H) xs ps) : Dp K H (.ref p) (psD ps) := .lst h (dpAll_paired (g := plD) (fun _ _ z => dp_pl z) q)
/-! ### what a reading tells -/
abbrev Told := Except Int (List Tx × List (Int × Int))
instance : DecidableEq Told := fun x y => match x, y with
  | .error i, .error j => decidable_of_iff (i = j) (by simp)
  | .ok p, .ok q => decidable_of_iff (p = q) (by simp)
  | .error _, .ok _ => isFalse (by simp)
  | .ok _, .error _ => isFalse (by simp)
def tD : Told → PyData
  | .error n => .int n
  | .ok (ws, ps) => .tuple [wsD ws, psD ps]
structure TOk (n : Nat) (x : Told) : Prop where
  er : ∀ i, x = .error i → okI i
  ws : ∀ l ps, x = .ok (l, ps) → (∀ t ∈ l, ok8 t ∧ t.length ≤ n) ∧ l.length ≤ n
  ps : ∀ l ps, x = .ok (l, ps) → (∀ p ∈ ps, okI p.1 ∧ okI p.2) ∧ ps.length ≤ n
theorem tD_inj {x y : Told} : tD x = tD y ↔ x = y := by
  cases x with
  | error i => cases y with
    | error j => simp [tD]
    | ok q => simp [tD]
  | ok p => cases y with
    | error j => simp [tD]
    | ok q =>
      obtain ⟨a, b⟩ := p; obtain ⟨c, d⟩ := q
      simp only [tD, PyData.tuple.injEq, List.cons.injEq, and_true, wsD_inj, psD_inj, Except.ok.injEq, Prod.mk.injEq]
theorem tD_tame {n : Nat} {x : Told} (h : TOk n x) : tame (tD x) = true := by
  cases x with
  | error i =>
    have := h.er i rfl
    simp only [okI] at this
    simp only [tD, tame, decide_eq_true_eq]
    omega
  | ok p =>
    obtain ⟨l, ps⟩ := p
    simp only [tD, tame, tameAll, Bool.and_true, Bool.and_eq_true]
    exact ⟨wsD_tame fun t ht => ((h.ws l ps rfl).1 t ht).1, psD_tame (h.ps l ps rfl).1⟩
theorem tD_depth (x : Told) : (tD x).depth ≤ 3 := by
  cases x with
  | error i => simp [tD, PyData.depth]
  | ok p =>
    obtain ⟨l, ps⟩ := p
    simp only [tD, PyData.depth, PyData.depthAll]
    have h1 := wsD_depth l
    have h2 := psD_depth ps
    omega
theorem tD_weight {n : Nat} (hn : n ≤ 900) {x : Told} (h : TOk n x) : (tD x).weight ≤ 1000000 := by
  cases x with
  | error i =>
    have := int_weight (h.er i rfl)
    simp only [tD]
    omega
  | ok p =>
    obtain ⟨l, ps⟩ := p
    have h1 := wsD_weight (n := n) fun t ht => ((h.ws l ps rfl).1 t ht).2
    have h2 := psD_weight (h.ps l ps rfl).1
    have h3 := (h.ws l ps rfl).2
    have h4 := (h.ps l ps rfl).2
    have h5 : (n + 1) * l.length ≤ 901 * 900 := Nat.mul_le_mul (by omega) (by omega)
    simp only [tD]
    rw [PyData.weight]
    simp only [PyData.weightAll]
    omega
end Qw

set_option Elab.async false
set_option linter.all false
set_option maxRecDepth 100000
set_option maxHeartbeats 4000000
namespace Qw
open PySem L2
def sgn (c : Nat) : Bool := decide (32 ≤ c ∧ c ≤ 126) || decide (c = 10)
def RS.every (r : RS) : Tx := r.breaks ++ (r.hard ++ (r.soft ++ (r.bend ++ r.note)))
structure RS.Ok (r : RS) : Prop where
  l1 : r.breaks.length ≤ 4
  l2 : r.hard.length ≤ 2
  l3 : r.soft.length ≤ 2
  l4 : r.bend.length ≤ 1
  l5 : r.note.length ≤ 1
  ne : r.breaks ≠ []
  sg : r.every.all sgn = true
  nd : r.every.Nodup
/-! ### bounds of what is read -/
/-- where a machine is behind a text u -/
structure MS.Bd (m : MS) (u : Tx) : Prop where
  wd : ∀ w, m.word = some w → (∀ c ∈ w, c ∈ u)
  be : m.begun ≤ m.place
  op : m.opened ≤ m.place
def W3.Bd (d : W3) (u : Tx) (n : Nat) : Prop := (∀ c ∈ d.1, c ∈ u) ∧ d.1.length ≤ n ∧ d.2.1 ≤ n ∧ d.2.2 ≤ n
theorem MS.Bd.begin {m : MS} {u : Tx} (b : m.Bd u) : m.begin.Bd u := by
  unfold MS.begin
  split
  · exact ⟨fun w e => by cases e; simp, Nat.le_refl _, b.op⟩
  · exact b
theorem MS.Bd.add {m : MS} {u : Tx} {c : Nat} (b : m.Bd u) (hc : c ∈ u) : (m.add c).Bd u := by
  refine ⟨fun w e => ?_, b.be, b.op⟩
  unfold MS.add at e
  cases h : m.word with
  | none => rw [h] at e; cases e
  | some z =>
    rw [h] at e
    cases (Option.some.inj e : z ++ [c] = w)
    intro x hx
    rcases List.mem_append.mp hx with q | q
    · exact b.wd z h x q
    · rw [List.mem_singleton.mp q]; exact hc
theorem MS.Bd.mono {m : MS} {u v : Tx} (b : m.Bd u) (h : ∀ c ∈ u, c ∈ v) : m.Bd v := ⟨fun w e c hc => h c (b.wd w e c hc), b.be, b.op⟩
theorem MS.Bd.up {m : MS} {u : Tx} (b : m.Bd u) : ({ m with place := m.place + 1 } : MS).Bd u := ⟨b.wd, Nat.le_succ_of_le b.be, Nat.le_succ_of_le b.op⟩
theorem MS.Bd.out {m : MS} {u : Tx} (b : m.Bd u) (ok : m.Ok) : ∀ d ∈ m.out, d.Bd u m.place := by
  intro d hd
  unfold MS.out at hd
  cases h : m.word with
  | none => rw [h] at hd; cases hd
  | some w =>
    rw [h] at hd
    cases List.mem_singleton.mp hd
    exact ⟨b.wd w h, ok.ln w h, b.be, Nat.le_refl _⟩
theorem MS.Bd.step {m : MS} {u : Tx} (b : m.Bd u) (ok : m.Ok) (r : RS) (c : Nat) : (m.step r c).1.Bd (u ++ [c]) ∧ ∀ d ∈ (m.step r c).2, d.Bd (u ++ [c]) m.place := by
  have hc : c ∈ u ++ [c] := by simp
  have b' : m.Bd (u ++ [c]) := b.mono fun x hx => by simp [hx]
  refine MS.step_cases r m c (fun x => x.1.Bd (u ++ [c]) ∧ ∀ d ∈ x.2, d.Bd (u ++ [c]) m.place) (fun m1 h _ => ?_) (fun m1 h _ _ => ?_) (fun _ _ _ => ⟨b'.up, fun _ z => (nomatch z)⟩) fun _ _ _ => ⟨?_, fun _ z => (nomatch z)⟩
  · have b1 : m1.Bd (u ++ [c]) := by rcases h with h | h <;> subst h <;> exact ⟨b'.wd, b'.be, b'.op⟩
    refine ⟨?_, fun _ z => (nomatch z)⟩
    have b2 : ({ m1 with bent := false } : MS).Bd (u ++ [c]) := ⟨b1.wd, b1.be, b1.op⟩
    exact (b2.add hc).up
  · have b1 : m1.Bd (u ++ [c]) := by rcases h with h | h <;> subst h <;> exact ⟨b'.wd, b'.be, b'.op⟩
    have e1 : m1.out = m.out := by rcases h with h | h <;> subst h <;> rfl
    have ot : ∀ d ∈ m1.out, d.Bd (u ++ [c]) m.place := fun d hd => by
      rw [e1] at hd
      exact b'.out ok d hd
    suffices q : (m1.plain r c).1.Bd (u ++ [c]) ∧ ∀ d ∈ (m1.plain r c).2, d.Bd (u ++ [c]) m.place from ⟨q.1.up, q.2⟩
    have bb := b1.begin
    unfold MS.plain
    split
    · exact ⟨⟨fun w e => (nomatch e), b1.be, b1.op⟩, ot⟩
    split
    · exact ⟨⟨fun w e => (nomatch e), b1.be, b1.op⟩, ot⟩
    split
    · exact ⟨⟨bb.wd, bb.be, Nat.le_refl _⟩, fun _ z => (nomatch z)⟩
    split
    · exact ⟨⟨bb.wd, bb.be, Nat.le_refl _⟩, fun _ z => (nomatch z)⟩
    · exact ⟨bb.add hc, fun _ z => (nomatch z)⟩
  · suffices q : (m.quoted r c).Bd (u ++ [c]) from q.up
    unfold MS.quoted
    split
    · exact ⟨b'.wd, b'.be, b'.op⟩
    split
    · exact ⟨b'.wd, b'.be, b'.op⟩
    · exact b'.add hc
theorem MS.Bd.run (r : RS) : ∀ (t : Tx) {m : MS} {u : Tx}, m.Bd u → m.Ok → (m.run r t).1.Bd (u ++ t) ∧ ∀ d ∈ (m.run r t).2, d.Bd (u ++ t) (m.place + t.length)
  | [], m, u, b, _ => ⟨by rw [List.append_nil]; exact b, fun _ z => (nomatch z)⟩
  | c :: t, m, u, b, ok => by
    have h1 := b.step ok r c
    have h2 := MS.Bd.run r t h1.1 (ok.step r c)
    rw [MS.place_step] at h2
    have e : u ++ c :: t = u ++ [c] ++ t := by simp
    rw [e, List.length_cons]
    refine ⟨h2.1, fun d hd => ?_⟩
    rcases List.mem_append.mp hd with q | q
    · obtain ⟨a1, a2, a3, a4⟩ := h1.2 d q
      exact ⟨fun x hx => List.mem_append_left _ (a1 x hx), by omega, by omega, by omega⟩
    · obtain ⟨a1, a2, a3, a4⟩ := h2.2 d q
      exact ⟨a1, by omega, by omega, by omega⟩
theorem readAll_bd (r : RS) (t : Tx) (rp : Addr) : match readAll r t rp with
    | .error n => n ≤ t.length
    | .ok ds => ds.length ≤ t.length + 1 ∧ ∀ d ∈ ds, d.Bd t t.length := by
  have z : (MS.zero rp).Bd [] := ⟨fun w e => (by cases e), Nat.le_refl _, Nat.le_refl _⟩
  have h := MS.Bd.run r t z (MS.Ok.zero rp)
  have pl := MS.place_run r t (MS.zero rp)
  have pz : (MS.zero rp).place = 0 := rfl
  have ok := (MS.Ok.zero rp).run r t
  rw [pz, Nat.zero_add] at pl
  rw [List.nil_append, pz, Nat.zero_add] at h
  unfold readAll
  split
  · rename_i n e
    split at e
    · rename_i n' e'
      cases e
      unfold MS.fault at e'
      split at e'
      · cases e'
        rw [← pl]; exact h.1.op
      · cases e'
    · cases e
  · rename_i ds e
    split at e
    · cases e
    · cases e
      refine ⟨?_, fun d hd => ?_⟩
      · rw [List.length_append]
        have h1 := MS.out_run r t (MS.zero rp)
        have h2 : ((MS.zero rp).run r t).1.out.length ≤ 1 := by unfold MS.out; split <;> simp
        omega
      · rcases List.mem_append.mp hd with q | q
        · exact h.2 d q
        · have := h.1.out ok d q
          rwa [pl] at this
/-- what an answer tells of a text -/
def told3 (x : Except Nat (List W3)) : Told := match x with
  | .error n => .error n
  | .ok ds => .ok (ds.map (·.1), ds.map fun d => ((d.2.1 : Int), (d.2.2 : Int)))
theorem TOk.mono {m n : Nat} {x : Told} (h : TOk m x) (le : m ≤ n) : TOk n x :=
  ⟨h.er, fun l ps e => ⟨fun t ht => ⟨((h.ws l ps e).1 t ht).1, Nat.le_trans ((h.ws l ps e).1 t ht).2 le⟩, Nat.le_trans (h.ws l ps e).2 le⟩, fun l ps e => ⟨(h.ps l ps e).1, Nat.le_trans (h.ps l ps e).2 le⟩⟩
theorem told3_ok1 {r : RS} {t : Tx} {rp : Addr} (h8 : ok8 t) (hn : t.length ≤ 10000) : TOk (t.length + 1) (told3 (readAll r t rp)) := by
  have h := readAll_bd r t rp
  cases e : readAll r t rp with
  | error n =>
    rw [e] at h
    refine ⟨fun i q => ?_, fun _ _ q => (nomatch q), fun _ _ q => (nomatch q)⟩
    cases q
    have h : n ≤ t.length := h
    simp only [okI]
    omega
  | ok ds =>
    rw [e] at h
    refine ⟨fun i q => (nomatch q), fun l ps q => ?_, fun l ps q => ?_⟩
    · cases q
      refine ⟨fun w hw => ?_, by rw [List.length_map]; have := h.1; omega⟩
      obtain ⟨d, hd, rfl⟩ := List.mem_map.mp hw
      have hb := h.2 d hd
      exact ⟨fun c hc => h8 c (hb.1 c hc), by have := hb.2.1; omega⟩
    · cases q
      refine ⟨fun w hw => ?_, by rw [List.length_map]; have := h.1; omega⟩
      obtain ⟨d, hd, rfl⟩ := List.mem_map.mp hw
      have hb := h.2 d hd
      have h1 := hb.2.2.1
      have h2 := hb.2.2.2
      simp only [okI]
      omega
theorem told3_ok {r : RS} {t : Tx} {rp : Addr} (h8 : ok8 t) (hn : t.length ≤ 800) : TOk 900 (told3 (readAll r t rp)) := (told3_ok1 h8 (by omega)).mono (by omega)
theorem ok8_of {t : Tx} (h : t.all sgn = true) : ok8 t := fun c hc => by
  have := List.all_eq_true.mp h c hc
  simp only [sgn, Bool.or_eq_true, decide_eq_true_eq] at this
  omega
end Qw

set_option Elab.async false
set_option linter.all false
set_option maxRecDepth 100000
set_option maxHeartbeats 4000000
namespace Qw
open PySem L2
/-! ### the law's own reading, in plain Lean -/
theorem drop_at {t : Tx} {i c : Nat} (h : t[i]? = some c) : t.drop i = c :: t.drop (i + 1) := by
  obtain ⟨hi, e⟩ := List.getElem?_eq_some_iff.mp h
  rw [List.drop_eq_getElem_cons hi, e]
theorem drop_end {t : Tx} {i : Nat} (h : t[i]? = none) : t.drop i = [] := List.drop_eq_nil_of_le (List.getElem?_eq_none_iff.mp h)
def lq (r : RS) (q b : Nat) : Tx → Nat → Tx → Except Nat (Tx × Nat)
  | [], _, _ => .error b
  | [c], k, f => if c = q then .ok (f, k + 1) else .error b
  | c :: d :: rest, k, f => if c = q then .ok (f, k + 1)
      else if q ∈ r.soft ∧ r.bend = [c] then lq r q b rest (k + 2) (f ++ [d]) else lq r q b (d :: rest) (k + 1) (f ++ [c])
theorem lq_one {r : RS} {q b c : Nat} {rest : Tx} {k : Nat} {f : Tx} (h : c = q) : lq r q b (c :: rest) k f = .ok (f, k + 1) := by
  cases rest <;> simp [lq, h]
theorem lq_plain {r : RS} {q b c : Nat} {rest : Tx} {k : Nat} {f : Tx} (h : c ≠ q) (h2 : ¬ (q ∈ r.soft ∧ r.bend = [c])) : lq r q b (c :: rest) k f = lq r q b rest (k + 1) (f ++ [c]) := by
  cases rest with
  | nil => simp [lq, h]
  | cons d l => simp only [lq, if_neg h, if_neg h2]
theorem lq_bend {r : RS} {q b c d : Nat} {rest : Tx} {k : Nat} {f : Tx} (h : c ≠ q) (h2 : q ∈ r.soft ∧ r.bend = [c]) : lq r q b (c :: d :: rest) k f = lq r q b rest (k + 2) (f ++ [d]) := by
  simp only [lq, if_neg h, if_pos h2]
theorem lq_last {r : RS} {q b c : Nat} {k : Nat} {f : Tx} (h : c ≠ q) : lq r q b [c] k f = .error b := by
  simp [lq, h]
theorem lq_bd (r : RS) (q b : Nat) : ∀ (t : Tx) (k : Nat) (f : Tx), match lq r q b t k f with
    | .error n => n = b
    | .ok (g, e) => k + 1 ≤ e ∧ e ≤ k + t.length ∧ g.length + k + 1 ≤ f.length + e
  | [], k, f => by simp [lq]
  | [c], k, f => by
    by_cases h : c = q
    · simp [lq, h]; omega
    · simp [lq, h]
  | c :: d :: rest, k, f => by
    have h1 := lq_bd r q b rest (k + 2) (f ++ [d])
    have h2 := lq_bd r q b (d :: rest) (k + 1) (f ++ [c])
    unfold lq
    by_cases c1 : c = q
    · simp only [if_pos c1, List.length_cons]; omega
    · by_cases c2 : q ∈ r.soft ∧ r.bend = [c]
      · simp only [if_neg c1, if_pos c2]
        cases e : lq r q b rest (k + 2) (f ++ [d]) with
        | error n => rw [e] at h1; exact h1
        | ok p =>
          obtain ⟨g, e'⟩ := p
          rw [e] at h1
          simp only [List.length_append, List.length_cons, List.length_nil] at h1 ⊢
          omega
      · simp only [if_neg c1, if_neg c2]
        cases e : lq r q b (d :: rest) (k + 1) (f ++ [c]) with
        | error n => rw [e] at h2; exact h2
        | ok p =>
          obtain ⟨g, e'⟩ := p
          rw [e] at h2
          simp only [List.length_append, List.length_cons, List.length_nil] at h2 ⊢
          omega
def lw (r : RS) (t : Tx) : Nat → Nat → Tx → Except Nat (Tx × Nat)
  | 0, k, f => .ok (f, k)
  | n + 1, k, f => match t[k]? with
    | none => .ok (f, k)
    | some c => if c ∈ r.breaks ++ r.note then .ok (f, k)
      else if c ∈ r.hard ++ r.soft then (match lq r c k (t.drop (k + 1)) (k + 1) [] with
        | .error b => .error b
        | .ok (g, e) => lw r t n e (f ++ g))
      else if r.bend = [c] then (match t[k + 1]? with
        | none => .error k
        | some d => lw r t n (k + 2) (f ++ [d]))
      else lw r t n (k + 1) (f ++ [c])
theorem lw_bd (r : RS) (t : Tx) : ∀ (n k : Nat) (f : Tx), k ≤ t.length → match lw r t n k f with
    | .error b => b ≤ t.length
    | .ok (g, e) => k ≤ e ∧ e ≤ t.length ∧ g.length + k ≤ f.length + e
  | 0, k, f, hk => by simp only [lw]; omega
  | n + 1, k, f, hk => by
    unfold lw
    cases h : t[k]? with
    | none => simp only []; omega
    | some c =>
      have hk' : k < t.length := (List.getElem?_eq_some_iff.mp h).1
      simp only []
      by_cases c1 : c ∈ r.breaks ++ r.note
      · simp only [if_pos c1]; omega
      by_cases c2 : c ∈ r.hard ++ r.soft
      · simp only [if_neg c1, if_pos c2]
        have b1 := lq_bd r c k (t.drop (k + 1)) (k + 1) []
        cases e : lq r c k (t.drop (k + 1)) (k + 1) [] with
        | error b => rw [e] at b1; simp only at b1 ⊢; omega
        | ok p =>
          obtain ⟨g, e'⟩ := p
          rw [e] at b1
          rw [List.length_drop] at b1
          simp only [List.length_nil] at b1
          have ih := lw_bd r t n e' (f ++ g) (by omega)
          cases e2 : lw r t n e' (f ++ g) with
          | error b => rw [e2] at ih; simp only [e2]; exact ih
          | ok p =>
            obtain ⟨g2, e3⟩ := p
            rw [e2] at ih
            simp only [List.length_append, e2] at ih ⊢
            omega
      by_cases c3 : r.bend = [c]
      · simp only [if_neg c1, if_neg c2, if_pos c3]
        cases h2 : t[k + 1]? with
        | none => simp only []; omega
        | some d =>
          have hk2 : k + 1 < t.length := (List.getElem?_eq_some_iff.mp h2).1
          have ih := lw_bd r t n (k + 2) (f ++ [d]) (by omega)
          simp only []
          cases e2 : lw r t n (k + 2) (f ++ [d]) with
          | error b => rw [e2] at ih; exact ih
          | ok p =>
            obtain ⟨g2, e3⟩ := p
            rw [e2] at ih
            simp only [List.length_append, List.length_cons, List.length_nil] at ih ⊢
            omega
      · simp only [if_neg c1, if_neg c2, if_neg c3]
        have ih := lw_bd r t n (k + 1) (f ++ [c]) (by omega)
        cases e2 : lw r t n (k + 1) (f ++ [c]) with
        | error b => rw [e2] at ih; exact ih
        | ok p =>
          obtain ⟨g2, e3⟩ := p
          rw [e2] at ih
          simp only [List.length_append, List.length_cons, List.length_nil] at ih ⊢
          omega
theorem lw_pos {r : RS} {t : Tx} {n k c : Nat} {f g : Tx} {e : Nat} (hc : t[k]? = some c) (h : c ∉ r.breaks ++ r.note) (q : lw r t (n + 1) k f = .ok (g, e)) : k + 1 ≤ e := by
  have hk : k < t.length := (List.getElem?_eq_some_iff.mp hc).1
  simp only [lw, hc, if_neg h] at q
  split at q
  · have b1 := lq_bd r c k (t.drop (k + 1)) (k + 1) []
    split at q
    · cases q
    · rename_i g2 e2 e3
      rw [e3, List.length_drop] at b1
      have b2 := lw_bd r t n e2 (f ++ g2) (by omega)
      rw [q] at b2
      omega
  · split at q
    · split at q
      · cases q
      · rename_i d h2
        have hk2 : k + 1 < t.length := (List.getElem?_eq_some_iff.mp h2).1
        have b2 := lw_bd r t n (k + 2) (f ++ [d]) (by omega)
        rw [q] at b2
        omega
    · have b2 := lw_bd r t n (k + 1) (f ++ [c]) (by omega)
      rw [q] at b2
      omega
/-- signs up to the line's end -/
def nlk : Tx → Nat
  | [] => 0
  | c :: r => if c = LE then 0 else nlk r + 1
def nlAt (t : Tx) (i : Nat) : Nat := i + nlk (t.drop i)
theorem nlk_spec : ∀ t : Tx, nlk t ≤ t.length ∧ (∀ v, v < nlk t → t[v]? ≠ some LE) ∧ (nlk t < t.length → t[nlk t]? = some LE)
  | [] => by simp [nlk]
  | c :: r => by
    have ih := nlk_spec r
    by_cases h : c = LE
    · simp [nlk, h]
    · simp only [nlk, if_neg h, List.length_cons]
      refine ⟨by omega, fun v hv => ?_, fun hl => ?_⟩
      · cases v with
        | zero => simpa using h
        | succ v => simpa using ih.2.1 v (by omega)
      · simpa using ih.2.2 (by omega)
theorem nlAt_spec {t : Tx} {i : Nat} (h : i ≤ t.length) : i ≤ nlAt t i ∧ nlAt t i ≤ t.length ∧ (∀ v, i ≤ v → v < nlAt t i → t[v]? ≠ some LE) ∧ (nlAt t i < t.length → t[nlAt t i]? = some LE) := by
  have s := nlk_spec (t.drop i)
  rw [List.length_drop] at s
  unfold nlAt
  refine ⟨by omega, by omega, fun v h1 h2 => ?_, fun hl => ?_⟩
  · have := s.2.1 (v - i) (by omega)
    rwa [List.getElem?_drop, show i + (v - i) = v by omega] at this
  · have := s.2.2 (by omega)
    rwa [List.getElem?_drop] at this
theorem find_nl {t : Tx} {i : Nat} (h : i ≤ t.length) : (Txt.find3 (S t) (S [LE]) (i : Int) = -1 ∧ nlAt t i = t.length) ∨ (Txt.find3 (S t) (S [LE]) (i : Int) = (nlAt t i : Int) ∧ nlAt t i < t.length) := by
  have s := nlAt_spec h
  have fi : fromIndex (S t).length (i : Int) = i := by
    unfold fromIndex
    rw [if_neg (by omega)]
    omega
  have gd : ∀ v, v < t.length → ((S t).cps.getD v 0 = LE ↔ t[v]? = some LE) := fun v hv => by
    rw [List.getElem?_eq_getElem hv, Option.some.injEq]
    simp [S, Array.getD, hv]
  have fs := StrLaws.find3_spec (S t) LE (i : Int)
  rw [fi, S_len] at fs
  rcases fs with ⟨e, hn⟩ | ⟨k, e, h1, h2, h3, h4⟩
  · refine .inl ⟨e, ?_⟩
    rcases Nat.lt_or_ge (nlAt t i) t.length with l | l
    · exact absurd ((gd _ l).mpr (s.2.2.2 l)) (hn _ s.1 l)
    · omega
  · have ek : k = nlAt t i := by
      rcases Nat.lt_trichotomy k (nlAt t i) with l | l | l
      · exact absurd ((gd _ h2).mp h3) (s.2.2.1 k h1 l)
      · exact l
      · exact absurd ((gd _ (by omega)).mpr (s.2.2.2 (by omega))) (h4 _ s.1 l)
    exact .inr ⟨by rw [← ek]; exact e, by omega⟩
def lr (r : RS) (t : Tx) : Nat → Nat → List W3 → Except Nat (List W3)
  | 0, _, acc => .ok acc
  | n + 1, k, acc => match t[k]? with
    | none => .ok acc
    | some c0 => match t[if r.note = [c0] then nlAt t (k + 1) else k]? with
      | none => .ok acc
      | some c => if c ∈ r.breaks then lr r t n ((if r.note = [c0] then nlAt t (k + 1) else k) + 1) acc
        else if c ∈ r.note then lr r t n (if r.note = [c0] then nlAt t (k + 1) else k) acc
        else match lw r t t.length (if r.note = [c0] then nlAt t (k + 1) else k) [] with
          | .error b => .error b
          | .ok (w, e) => lr r t n e (acc ++ [(w, (if r.note = [c0] then nlAt t (k + 1) else k), e)])
end Qw

set_option Elab.async false
set_option linter.all false
set_option maxRecDepth 100000
set_option maxHeartbeats 4000000
namespace Qw
open PySem L2
/-! ### the machine reads as the law's own reading does -/
def fin (r : RS) (m : MS) (rest : Tx) (acc : List W3) : Except Nat (List W3) := match (m.run r rest).1.fault with
  | some n => .error n
  | none => .ok (acc ++ ((m.run r rest).2 ++ (m.run r rest).1.out))
theorem fin_step (r : RS) (m : MS) (c : Nat) (rest : Tx) (acc : List W3) : fin r m (c :: rest) acc = fin r (m.step r c).1 rest (acc ++ (m.step r c).2) := by
  unfold fin
  rw [MS.run]
  dsimp only
  split
  · rfl
  · simp only [List.append_assoc]
theorem one_NT (q : Nat) : ¬ ([q] = NT) := by intro h; cases h
theorem nil_NT : ¬ (([] : Tx) = NT) := by intro h; cases h
theorem NT_nil : ¬ (NT = ([] : Tx)) := by intro h; cases h
/-- a sign in a quoted stretch -/
theorem step_quoted {r : RS} {m : MS} {q c : Nat} (hs : m.state = [q]) (hb : m.bent = false) : m.step r c = ({ (m.quoted r c) with place := m.place + 1 }, []) := by
  unfold MS.step
  rw [if_neg (fun h => one_NT q (hs ▸ h.1))]
  simp only [hb, Bool.false_eq_true, if_false, hs, List.cons_ne_nil, one_NT]
  rw [MS.place_quoted]
theorem step_bent {r : RS} {m : MS} {c : Nat} (hs : m.state ≠ NT) (hb : m.bent = true) : m.step r c = ({ (({ m with bent := false } : MS).add c) with place := m.place + 1 }, []) := by
  unfold MS.step
  rw [if_neg (fun h => hs h.1)]
  simp only [hb, if_true]
  rfl
theorem step_plain {r : RS} {m : MS} {c : Nat} (hs : m.state = []) (hb : m.bent = false) : m.step r c = ({ (m.plain r c).1 with place := m.place + 1 }, (m.plain r c).2) := by
  unfold MS.step
  rw [if_neg (fun h => nil_NT (hs ▸ h.1))]
  simp only [hb, Bool.false_eq_true, if_false, hs, if_true]
  rw [MS.place_plain]
theorem fin_lq (r : RS) (hb1 : r.bend.length ≤ 1) (q b : Nat) : ∀ (rest : Tx) (k : Nat) (f w0 : Tx) (m : MS) (acc : List W3), m.state = [q] → m.bent = false → m.word = some (w0 ++ f) → m.place = k → m.opened = b →
    match lq r q b rest k f with
    | .error _ => fin r m rest acc = .error b
    | .ok (g, e) => fin r m rest acc = fin r { m with state := [], word := some (w0 ++ g), place := e } (rest.drop (e - k)) acc
  | [], k, f, w0, m, acc, hs, hb, hw, hp, ho => by
    have : m.fault = some b := by
      unfold MS.fault
      rw [if_pos (.inr ⟨by rw [hs]; simp, by rw [hs]; exact one_NT q⟩), ho]
    simp [lq, fin, MS.run, this]
  | c :: rest, k, f, w0, m, acc, hs, hb, hw, hp, ho => by
    have mem : c ∈ r.bend ↔ r.bend = [c] := by
      constructor
      · intro h
        match hbn : r.bend, h, hb1 with
        | [x], h, _ => rw [List.mem_singleton.mp h]
      · intro h; rw [h]; exact List.mem_singleton.mpr rfl
    rw [fin_step, step_quoted hs hb, List.append_nil]
    by_cases c1 : c = q
    · rw [lq_one c1]
      have : m.quoted r c = { m with state := [] } := by
        unfold MS.quoted
        rw [if_pos (by rw [hs, c1])]
      rw [this]
      show fin r _ rest acc = fin r _ ((c :: rest).drop (k + 1 - k)) acc
      rw [show k + 1 - k = 1 by omega]
      show fin r { m with state := [], place := m.place + 1 } rest acc = fin r { m with state := [], word := some (w0 ++ f), place := k + 1 } rest acc
      rw [hp, ← hw]
    have c1' : ¬ ([c] = m.state) := fun h => c1 (by rw [hs] at h; cases h; rfl)
    by_cases c2 : q ∈ r.soft ∧ r.bend = [c]
    · have qd : m.quoted r c = { m with bent := true } := by
        unfold MS.quoted
        rw [if_neg c1', if_pos ⟨mem.mpr c2.2, by rw [hs]; simpa using c2.1⟩]
      rw [qd]
      cases rest with
      | nil =>
        rw [lq_last c1]
        have : ({ m with bent := true, place := m.place + 1 } : MS).fault = some b := by
          unfold MS.fault
          rw [if_pos (.inl rfl)]
          exact congrArg some ho
        simp [fin, MS.run, this]
      | cons d rest =>
        rw [lq_bend c1 c2, fin_step, step_bent (m := { m with bent := true, place := m.place + 1 }) (by show m.state ≠ NT; rw [hs]; exact one_NT q) rfl, List.append_nil]
        have ih := fin_lq r hb1 q b rest (k + 2) (f ++ [d]) w0 { (({ m with bent := false, place := m.place + 1 } : MS).add d) with place := m.place + 1 + 1 } acc hs rfl (by simp [MS.add, hw]) (by show m.place + 1 + 1 = k + 2; omega) ho
        cases e : lq r q b rest (k + 2) (f ++ [d]) with
        | error x => rw [e] at ih; exact ih
        | ok z =>
          obtain ⟨g, e2⟩ := z
          rw [e] at ih
          have bd := lq_bd r q b rest (k + 2) (f ++ [d])
          rw [e] at bd
          dsimp only at ih bd ⊢
          rw [show e2 - k = (e2 - (k + 2)) + 2 by omega]
          show _ = fin r _ (rest.drop (e2 - (k + 2))) acc
          refine Eq.trans ih ?_
          rw [hb]
          rfl
    · have qd : m.quoted r c = m.add c := by
        unfold MS.quoted
        rw [if_neg c1', if_neg (fun h => c2 ⟨by rw [hs] at h; simpa using h.2, mem.mp h.1⟩)]
      rw [qd, lq_plain c1 c2]
      have ih := fin_lq r hb1 q b rest (k + 1) (f ++ [c]) w0 { (m.add c) with place := m.place + 1 } acc hs hb (by simp [MS.add, hw]) (by show m.place + 1 = k + 1; omega) ho
      cases e : lq r q b rest (k + 1) (f ++ [c]) with
      | error x => rw [e] at ih; exact ih
      | ok z =>
        obtain ⟨g, e2⟩ := z
        rw [e] at ih
        have bd := lq_bd r q b rest (k + 1) (f ++ [c])
        rw [e] at bd
        dsimp only at ih bd ⊢
        rw [show e2 - k = (e2 - (k + 1)) + 1 by omega]
        exact ih
termination_by rest => rest.length
theorem bend_mem {r : RS} (hb1 : r.bend.length ≤ 1) {c : Nat} : c ∈ r.bend ↔ r.bend = [c] := by
  constructor
  · intro h
    match hbn : r.bend, h, hb1 with
    | [x], h, _ => rw [List.mem_singleton.mp h]
  · intro h; rw [h]; exact List.mem_singleton.mpr rfl
theorem begin_some {m : MS} {w : Tx} (h : m.word = some w) : m.begin = m := by
  unfold MS.begin
  rw [h]
theorem fin_lw (r : RS) (hb1 : r.bend.length ≤ 1) (t : Tx) : ∀ (n k : Nat) (f : Tx) (m : MS) (acc : List W3), m.state = [] → m.bent = false → m.word = some f → m.place = k → k ≤ t.length → t.length ≤ n + k →
    match lw r t n k f with
    | .error b => fin r m (t.drop k) acc = .error b
    | .ok (g, e) => (t[e]? = none ∨ ∃ c, t[e]? = some c ∧ c ∈ r.breaks ++ r.note) ∧ ∃ o, fin r m (t.drop k) acc = fin r { m with word := some g, place := e, opened := o } (t.drop e) acc
  | 0, k, f, m, acc, hs, hb, hw, hp, hk, hn => by
    simp only [lw]
    refine ⟨.inl (List.getElem?_eq_none_iff.mpr (by omega)), m.opened, ?_⟩
    rw [← hw, ← hp]
  | n + 1, k, f, m, acc, hs, hb, hw, hp, hk, hn => by
    have stay : ∃ o, fin r m (t.drop k) acc = fin r { m with word := some f, place := k, opened := o } (t.drop k) acc := ⟨m.opened, by rw [← hw, ← hp]⟩
    cases hc : t[k]? with
    | none =>
      simp only [lw, hc]
      exact ⟨.inl trivial, stay⟩
    | some c =>
      have hk' : k < t.length := (List.getElem?_eq_some_iff.mp hc).1
      by_cases c1 : c ∈ r.breaks ++ r.note
      · simp only [lw, hc, if_pos c1]
        exact ⟨.inr ⟨c, rfl, c1⟩, stay⟩
      have c1' : ¬ c ∈ r.breaks ∧ ¬ c ∈ r.note := ⟨fun h => c1 (List.mem_append_left _ h), fun h => c1 (List.mem_append_right _ h)⟩
      have bg := begin_some hw
      rw [drop_at hc, fin_step, step_plain hs hb]
      by_cases c2 : c ∈ r.hard ++ r.soft
      · have pl : m.plain r c = ({ m with state := [c], opened := m.place }, []) := by
          unfold MS.plain
          rw [if_neg c1'.1, if_neg c1'.2, if_pos (show c ∈ r.quotes from c2), bg]
        rw [pl]
        simp only [lw, hc, if_neg c1, if_pos c2, List.append_nil]
        have q := fin_lq r hb1 c k (t.drop (k + 1)) (k + 1) [] f { m with state := [c], opened := m.place, place := m.place + 1 } acc rfl hb (by simp [hw]) (by show m.place + 1 = k + 1; omega) hp
        have bd := lq_bd r c k (t.drop (k + 1)) (k + 1) []
        cases e : lq r c k (t.drop (k + 1)) (k + 1) [] with
        | error b =>
          rw [e] at q bd
          dsimp only at q bd ⊢
          rw [bd]
          exact q
        | ok z =>
          obtain ⟨g, e2⟩ := z
          rw [e] at q bd
          rw [List.length_drop] at bd
          dsimp only at q bd ⊢
          rw [List.drop_drop, show k + 1 + (e2 - (k + 1)) = e2 by omega] at q
          have ih := fin_lw r hb1 t n e2 (f ++ g) { m with state := [], opened := m.place, word := some (f ++ g), place := e2 } acc rfl hb rfl rfl (by omega) (by omega)
          cases e3 : lw r t n e2 (f ++ g) with
          | error b =>
            rw [e3] at ih
            exact Eq.trans q ih
          | ok z =>
            obtain ⟨g3, e4⟩ := z
            rw [e3] at ih
            obtain ⟨i1, o, i2⟩ := ih
            refine ⟨i1, o, Eq.trans q (Eq.trans i2 ?_)⟩
            rw [← hs]
      have c2' : ¬ c ∈ r.quotes := c2
      by_cases c3 : r.bend = [c]
      · have pl : m.plain r c = ({ m with bent := true, opened := m.place }, []) := by
          unfold MS.plain
          rw [if_neg c1'.1, if_neg c1'.2, if_neg c2', if_pos ((bend_mem hb1).mpr c3), bg]
        rw [pl]
        simp only [lw, hc, if_neg c1, if_neg c2, if_pos c3, List.append_nil]
        cases hd : t[k + 1]? with
        | none =>
          have e0 : t.drop (k + 1) = [] := drop_end hd
          rw [e0]
          have : ({ m with bent := true, opened := m.place, place := m.place + 1 } : MS).fault = some k := by
            unfold MS.fault
            rw [if_pos (.inl rfl)]
            exact congrArg some hp
          simp [fin, MS.run, this]
        | some d =>
          have hk2 : k + 1 < t.length := (List.getElem?_eq_some_iff.mp hd).1
          rw [drop_at hd, fin_step, step_bent (m := { m with bent := true, opened := m.place, place := m.place + 1 }) (by show m.state ≠ NT; rw [hs]; exact nil_NT) rfl, List.append_nil]
          have ih := fin_lw r hb1 t n (k + 2) (f ++ [d]) { (({ m with bent := false, opened := m.place, place := m.place + 1 } : MS).add d) with place := m.place + 1 + 1 } acc hs rfl (by simp [MS.add, hw]) (by show m.place + 1 + 1 = k + 2; omega) (by omega) (by omega)
          dsimp only
          cases e3 : lw r t n (k + 2) (f ++ [d]) with
          | error b =>
            rw [e3] at ih
            exact ih
          | ok z =>
            obtain ⟨g3, e4⟩ := z
            rw [e3] at ih
            obtain ⟨i1, o, i2⟩ := ih
            refine ⟨i1, o, Eq.trans i2 ?_⟩
            rw [hb]
            rfl
      · have pl : m.plain r c = (m.add c, []) := by
          unfold MS.plain
          rw [if_neg c1'.1, if_neg c1'.2, if_neg c2', if_neg (fun h => c3 ((bend_mem hb1).mp h)), bg]
        rw [pl]
        simp only [lw, hc, if_neg c1, if_neg c2, if_neg c3, List.append_nil]
        have ih := fin_lw r hb1 t n (k + 1) (f ++ [c]) { (m.add c) with place := m.place + 1 } acc hs hb (by simp [MS.add, hw]) (by show m.place + 1 = k + 1; omega) (by omega) (by omega)
        cases e3 : lw r t n (k + 1) (f ++ [c]) with
        | error b =>
          rw [e3] at ih
          exact ih
        | ok z =>
          obtain ⟨g3, e4⟩ := z
          rw [e3] at ih
          obtain ⟨i1, o, i2⟩ := ih
          exact ⟨i1, o, i2⟩
theorem fin_note (r : RS) : ∀ (rest : Tx) (m : MS) (acc : List W3), m.state = NT → m.bent = false → fin r m rest acc = fin r { m with place := m.place + nlk rest } (rest.drop (nlk rest)) acc
  | [], m, acc, _, _ => rfl
  | c :: rest, m, acc, hs, hb => by
    by_cases h : c = LE
    · simp only [nlk, if_pos h]
      rfl
    · have st : m.step r c = ({ m with place := m.place + 1 }, []) := by
        unfold MS.step
        rw [if_neg (fun z => h z.2)]
        simp only [hb, Bool.false_eq_true, if_false, hs, NT_nil, if_true]
      rw [fin_step, st, List.append_nil]
      simp only [nlk, if_neg h]
      have ih := fin_note r rest { m with place := m.place + 1 } acc hs hb
      rw [ih]
      show fin r { m with place := m.place + 1 + nlk rest } _ acc = fin r { m with place := m.place + (nlk rest + 1) } _ acc
      rw [show m.place + 1 + nlk rest = m.place + (nlk rest + 1) by omega]
      rfl
theorem step_begin {r : RS} {m : MS} {c : Nat} (hs : m.state = []) (hb : m.bent = false) (h1 : ¬ c ∈ r.breaks) (h2 : ¬ c ∈ r.note) : m.step r c = m.begin.step r c := by
  have bs : m.begin.state = [] := by unfold MS.begin; split <;> exact hs
  have bb : m.begin.bent = false := by unfold MS.begin; split <;> exact hb
  have bw : ∃ w, m.begin.word = some w := by
    unfold MS.begin
    cases h : m.word with
    | none => exact ⟨[], rfl⟩
    | some w => exact ⟨w, h⟩
  obtain ⟨w, bw⟩ := bw
  have b2 : m.begin.begin = m.begin := begin_some bw
  rw [step_plain hs hb, step_plain bs bb, MS.place_begin]
  have : m.begin.plain r c = m.plain r c := by
    unfold MS.plain
    rw [if_neg h1, if_neg h2, if_neg h1, if_neg h2, b2]
  rw [this]
theorem fin_lr (r : RS) (ok : r.Ok) (t : Tx) : ∀ (n k : Nat) (acc acc0 : List W3) (m : MS), m.state = [] → m.bent = false → m.place = k → k ≤ t.length → t.length < n + k → acc = acc0 ++ m.out →
    (m.word = none ∨ t[k]? = none ∨ ∃ c, t[k]? = some c ∧ c ∈ r.breaks ++ r.note) → fin r m (t.drop k) acc0 = lr r t n k acc
  | 0, k, acc, acc0, m, _, _, _, hk, hn, _, _ => by omega
  | n + 1, k, acc, acc0, m, hs, hb, hp, hk, hn, ha, hw => by
    have hb1 := ok.l4
    have fault0 : ∀ m' : MS, m'.bent = false → (m'.state = [] ∨ m'.state = NT) → m'.fault = none := fun m' h1 h2 => by
      unfold MS.fault
      rw [if_neg]
      rintro (h | h)
      · rw [h1] at h; cases h
      · exact h2.elim h.1 h.2
    have stop : ∀ (m' : MS) acc', m'.bent = false → (m'.state = [] ∨ m'.state = NT) → fin r m' [] acc' = .ok (acc' ++ m'.out) := fun m' acc' h1 h2 => by
      simp [fin, MS.run, fault0 m' h1 h2]
    cases hc : t[k]? with
    | none =>
      simp only [lr, hc]
      rw [drop_end hc, stop m acc0 hb (.inl hs), ha]
    | some c =>
      have hk' : k < t.length := (List.getElem?_eq_some_iff.mp hc).1
      -- a sign that is not the note's
      have go : ∀ (k1 : Nat) (m : MS) (acc0 : List W3) (c' : Nat), k ≤ k1 → m.state = [] → m.bent = false → m.place = k1 → t[k1]? = some c' → acc = acc0 ++ m.out → (m.word = none ∨ c' ∈ r.breaks ++ r.note) → (c' ∈ r.note → k < k1) →
          fin r m (t.drop k1) acc0 = (if c' ∈ r.breaks then lr r t n (k1 + 1) acc else if c' ∈ r.note then lr r t n k1 acc else match lw r t t.length k1 [] with
            | .error b => .error b
            | .ok (w, e) => lr r t n e (acc ++ [(w, k1, e)])) := fun k1 m acc0 c' hkk hs hb hp hc' ha hw hnn => by
        have hk1 : k1 < t.length := (List.getElem?_eq_some_iff.mp hc').1
        by_cases d1 : c' ∈ r.breaks
        · rw [if_pos d1, drop_at hc', fin_step, step_plain hs hb]
          have pl : m.plain r c' = (m.drop, m.out) := by
            unfold MS.plain
            rw [if_pos d1]
          rw [pl]
          exact fin_lr r ok t n (k1 + 1) acc (acc0 ++ m.out) { m.drop with place := m.place + 1 } hs hb (by show m.place + 1 = _; omega) (by omega) (by omega) (by rw [ha]; simp [MS.out, MS.drop]) (.inl rfl)
        rw [if_neg d1]
        by_cases d2 : c' ∈ r.note
        · rw [if_pos d2]
          have := hnn d2
          exact fin_lr r ok t n k1 acc acc0 m hs hb hp (by omega) (by omega) ha (.inr (.inr ⟨c', hc', List.mem_append_right _ d2⟩))
        rw [if_neg d2]
        have d3 : c' ∉ r.breaks ++ r.note := fun h => (List.mem_append.mp h).elim d1 d2
        have w0 : m.word = none := hw.elim id fun h => absurd h d3
        have out0 : m.out = [] := by unfold MS.out; rw [w0]
        rw [out0, List.append_nil] at ha
        have bg : m.begin = { m with word := some [], begun := m.place } := by
          unfold MS.begin
          rw [w0]
        have e0 : fin r m (t.drop k1) acc0 = fin r m.begin (t.drop k1) acc0 := by
          rw [drop_at hc', fin_step, fin_step, step_begin hs hb d1 d2]
        rw [e0, bg]
        have q := fin_lw r hb1 t t.length k1 [] { m with word := some [], begun := m.place } acc0 hs hb rfl hp (by omega) (by omega)
        cases e : lw r t t.length k1 [] with
        | error b =>
          rw [e] at q
          exact q
        | ok z =>
          obtain ⟨g, e2⟩ := z
          rw [e] at q
          obtain ⟨q1, o, q2⟩ := q
          have bd := lw_bd r t t.length k1 [] (by omega)
          rw [e] at bd
          have ps : k1 + 1 ≤ e2 := by
            obtain ⟨n', hn'⟩ : ∃ n', t.length = n' + 1 := ⟨t.length - 1, by omega⟩
            rw [hn'] at e
            exact lw_pos hc' d3 e
          dsimp only at bd ⊢
          refine Eq.trans q2 ?_
          exact fin_lr r ok t n e2 (acc ++ [(g, k1, e2)]) acc0 { m with word := some g, begun := m.place, place := e2, opened := o } hs hb rfl (by omega) (by omega) (by rw [ha]; simp [MS.out, hp]) (.inr q1)
      by_cases hnote : r.note = [c]
      · have cn : c ∈ r.note := by rw [hnote]; exact List.mem_singleton.mpr rfl
        have cb : ¬ c ∈ r.breaks := fun h => by
          have nd := ok.nd
          simp only [RS.every] at nd
          exact (List.nodup_append.mp nd).2.2 c h c (by simp [cn]) rfl
        have pl : m.plain r c = ({ m.drop with state := NT }, m.out) := by
          unfold MS.plain
          rw [if_neg cb, if_pos cn]
        simp only [lr, hc, if_pos hnote]
        rw [drop_at hc, fin_step, step_plain hs hb, pl]
        dsimp only
        rw [← ha]
        rw [fin_note r (t.drop (k + 1)) { m.drop with state := NT, place := m.place + 1 } acc rfl hb]
        have ns := nlAt_spec (t := t) (i := k + 1) (by omega)
        have ed : (t.drop (k + 1)).drop (nlk (t.drop (k + 1))) = t.drop (nlAt t (k + 1)) := by rw [List.drop_drop]; rfl
        have ep : m.place + 1 + nlk (t.drop (k + 1)) = nlAt t (k + 1) := by rw [hp]; rfl
        rw [ed]
        show fin r { m.drop with state := NT, place := m.place + 1 + nlk (t.drop (k + 1)) } _ acc = _
        rw [ep]
        generalize nlAt t (k + 1) = k1 at *
        cases hc' : t[k1]? with
        | none =>
          dsimp only
          rw [drop_end hc']
          refine Eq.trans (stop { m.drop with state := NT, place := k1 } acc hb (.inr rfl)) ?_
          simp [MS.out, MS.drop]
        | some c' =>
          have hk1 : k1 < t.length := (List.getElem?_eq_some_iff.mp hc').1
          have cl : c' = LE := by
            have := ns.2.2.2 hk1
            rw [hc'] at this
            exact Option.some.inj this
          have e1 : fin r { m.drop with state := NT, place := k1 } (t.drop k1) acc = fin r { m.drop with state := [], place := k1 } (t.drop k1) acc := by
            rw [drop_at hc', fin_step, fin_step]
            have : ({ m.drop with state := NT, place := k1 } : MS).step r c' = ({ m.drop with state := [], place := k1 } : MS).step r c' := by
              rw [step_plain (m := { m.drop with state := [], place := k1 }) rfl hb]
              unfold MS.step
              rw [if_pos ⟨rfl, cl⟩]
              have hb' : ({ m.drop with state := NT, place := k1 } : MS).bent = false := hb
              have hb'' : m.drop.bent = false := hb
              simp only [hb'', Bool.false_eq_true, if_false, if_true]
              rw [MS.place_plain]
            rw [this]
          rw [e1]
          exact go k1 { m.drop with state := [], place := k1 } acc c' (by omega) rfl hb rfl hc' (by simp [MS.out, MS.drop]) (.inl rfl) (fun _ => by omega)
      · simp only [lr, hc, if_neg hnote]
        have cn : ¬ c ∈ r.note := fun h => hnote (by
          have l5 := ok.l5
          match hnn : r.note, h, l5 with
          | [x], h, _ => rw [List.mem_singleton.mp h])
        refine go k m acc0 c (Nat.le_refl _) hs hb hp hc ha ?_ (fun h => absurd h cn)
        rcases hw with h | h | ⟨c', h, h2⟩
        · exact .inl h
        · rw [hc] at h; cases h
        · rw [hc] at h; cases h; exact .inr h2
theorem readAll_lr {r : RS} (ok : r.Ok) (t : Tx) (rp : Addr) : readAll r t rp = lr r t (t.length + 1) 0 [] := by
  have := fin_lr r ok t (t.length + 1) 0 [] [] (MS.zero rp) rfl rfl rfl (Nat.zero_le _) (by omega) rfl (.inl rfl)
  rw [List.drop_zero] at this
  rw [← this]
  unfold readAll fin
  split <;> simp_all
end Qw

set_option Elab.async false
set_option linter.all false
set_option maxRecDepth 100000
set_option maxHeartbeats 4000000
namespace Qw
open PySem L2
section
variable {X : Cx}
/-! ### list(text) -/
def rListStr : List V → Hp → VK → Prop := fun xs H Q => ∃ l : Tx, xs = [.str (S l)] ∧ l.length ≤ 100000 ∧ ∀ p, H p = none → Q (.ref p) (upd H p (.lst (l.map fun c => .str (S [c]))))
theorem call_list_str (hc : X.calm = true) : CallR X (.type "list") rListStr := by
  rintro pins s σ H xs us Q I r ⟨l, rfl, hl, q⟩
  obtain ⟨u, rfl, t, rfl⟩ := vals1 r
  have hz : (S l).cps.size ≤ sizeLine := by rw [S_size]; exact Nat.le_trans hl (by decide)
  refine PySem.call_list_str (hn := hz) (I.ok.hd hc) (S l) t fun h' tk acc c' hk hS hi => ?_
  have hv : Vals (l.map fun c => V.str (S [c])) acc.toList := by
    refine vals_of_at ?_ fun j x u h1 h2 => ?_
    · rw [List.length_map, ← S_size l]; exact hi.1.symm
    · rw [Array.getElem?_toList] at h2
      obtain ⟨c, t', e1, e2⟩ := hi.2 j u h2
      rw [List.getElem?_map] at h1
      have e3 : l[j]? = some c := by simpa [S] using e1
      rw [e3] at h1
      cases h1
      exact ⟨t', e2⟩
  refine ⟨.ref s.heap.objs.size, _, I.laid (t' := tk) (o := .lst (l.map fun c => V.str (S [c]))) hk (Nat.le_refl _) ⟨?_, acc.toList, c', hv, by simpa using hS⟩, rfl, q _ (I.hok.fresh (Nat.le_refl _))⟩
  rw [List.length_map]; rw [S_size] at hz; exact hz
/-! ### text * number -/
def rMulS : R2 := fun x y H Q => ∃ (l : Tx) (n : Nat), x = .str (S l) ∧ y = .int n ∧ n < 1000 ∧ l.length < 1000 ∧ Q (.str (S (List.replicate n l).flatten)) H
theorem foldl_cat (l : Tx) : ∀ (n : Nat) (acc : Array Nat), (List.replicate n (S l).cps).foldl (· ++ ·) acc = acc ++ ((List.replicate n l).flatten).toArray
  | 0, acc => by simp
  | n + 1, acc => by
    rw [List.replicate_succ, List.foldl_cons, foldl_cat l n, List.replicate_succ, List.flatten_cons]
    simp [S]
theorem op_mul_str : OpR X (binaryOp .Mult) rMulS := by
  rintro pins s σ H x y v u Q I rx ry ⟨l, n, rfl, rfl, hn, hl, q⟩
  obtain ⟨t, rfl⟩ := rx
  obtain ⟨t', rfl⟩ := ry
  have hS : (S l).length = l.length := S_len l
  have big : l.length * n ≤ 1000 * 1000 := Nat.mul_le_mul (Nat.le_of_lt hl) (Nat.le_of_lt hn)
  refine P.mul_str ?_ (fun h1 _ => ?_) (fun h1 _ => ?_) ?_
  · have a1 : ¬ ((n : Int) < -(2 ^ 63)) := by omega
    have a2 : ¬ ((n : Int) ≥ 2 ^ 63) := by omega
    rw [decide_eq_false a1, decide_eq_false a2]; rfl
  · rw [hS]
    have h2 : (0 : Int) < n := by omega
    intro z
    have z' : (2 ^ 63 - 1 : Int) / n < l.length := z
    have := (Int.ediv_lt_iff_lt_mul h2).mp z'
    have e : ((l.length : Nat) : Int) * n = ((l.length * n : Nat) : Int) := by push_cast; rfl
    rw [e] at this
    omega
  · rw [hS, Int.toNat_natCast]
    exact decide_eq_false (Nat.not_lt.mpr (Nat.le_trans big (by decide)))
  · have er : ((List.replicate n (S l).cps).foldl (· ++ ·) #[]) = ((List.replicate n l).flatten).toArray := by rw [foldl_cat]; simp
    have el : ((List.replicate n l).flatten).length = n * l.length := by simp
    split
    · have : n = 0 := by omega
      subst this
      exact ⟨Nat.zero_le _, .str (S []), H, I.tok _, ⟨_, rfl⟩, q⟩
    split
    · rename_i h1 h2
      have : n = 1 ∨ l = [] := by
        rcases Bool.or_eq_true _ _ ▸ h2 with h | h
        · left
          have := beq_iff_eq.mp h
          omega
        · right
          have := beq_iff_eq.mp h
          rw [hS] at this
          exact List.length_eq_zero_iff.mp this
      refine ⟨.str (S l), H, I, ⟨_, rfl⟩, ?_⟩
      have e : (List.replicate n l).flatten = l := by
        rcases this with h | h
        · subst h; simp
        · subst h; simp
      rw [e] at q
      exact q
    · rw [Int.toNat_natCast, er]
      refine ⟨?_, .str (S _), H, I.tok _, ⟨_, rfl⟩, q⟩
      show (S _).length ≤ _
      rw [S_len, el, Nat.mul_comm]
      exact Nat.le_trans big (by decide)
/-! ### list.count(True), of truths -/
def rCntB (K : PySem.W.Frag) : V → List V → Hp → VK → Prop := fun x xs H Q => ∃ (p : Addr) (bs : List Bool) (k : Bool), x = .ref p ∧ xs = [.bl k] ∧ SqL K H p (bs.map V.bl) ∧ Q (.int (bs.count k : Nat)) H
def isB (k : Bool) : Value → Bool
  | .bool b => b == k
  | _ => false
theorem mt_lcountB : MtR X "list.count" (rCntB X.K) := by
  rintro pins s σ H x xs v us Q I rx rxs ⟨p, bs, k, rfl, rfl, hs, q⟩
  cases rx
  obtain ⟨u, rfl, ru⟩ := rxs.one
  cases ru
  obtain ⟨its, rv, ⟨⟨cls, dd, data, sl⟩, n, ho, hc, hdn, hd⟩, hlen⟩ := I.list hs
  simp only at hc hd
  subst hc hd
  have bool_at : ∀ {bs : List Bool} {its : List Value}, Vals (bs.map V.bl) its → its.countP (isB k) = bs.count k ∧ ∀ y ∈ its, ∃ b, y = .bool b := by
    intro bs
    induction bs with
    | nil => intro its r; cases r; exact ⟨rfl, fun y hy => by cases hy⟩
    | cons b bs ih =>
      intro its r
      cases r with
      | cons r t =>
        cases r
        obtain ⟨h1, h2⟩ := ih t
        refine ⟨?_, fun y hy => ?_⟩
        · rw [List.countP_cons, List.count_cons, h1]; rfl
        · rcases List.mem_cons.mp hy with e | e
          · exact ⟨b, e⟩
          · exact h2 y e
  obtain ⟨ec, hb⟩ := bool_at rv
  refine call_meets PySem.F.slot_list_count ⟨_, ho, rfl⟩ PySem.F.entry_list_count (PySem.F.args_list_count_2 _ _)
    (SeqAt.list_countAt p its.toArray n dd sl (.bool k) (isB k)) ⟨ho, fun y hy => ?_, ?_⟩
  · obtain ⟨b, rfl⟩ := hb y (by simpa using hy)
    have := eqAt_V (A := X.A.in1) (s := s) (y := .bl b) (x := .bl k) (u := .bool b) (v := .bool k) rfl rfl rfl rfl
    exact this
  · refine ⟨.int (bs.count k : Nat), H, I.tok _, ⟨s.toks, ?_⟩, q⟩
    show Value.int ((its.toArray.toList.countP (isB k) : Nat) : Int) s.toks = Value.int ((bs.count k : Nat) : Int) s.toks
    rw [show its.toArray.toList = its from rfl, ec]
/-! ### text[::-1] -/
def tRevS (te : TE) : TE := fun σ H Q => te σ H fun x H1 => ∃ l : Tx, x = .str (S l) ∧ l.length ≤ 100000 ∧ Q (.str (S l.reverse)) H1
theorem rev_indices (n : Nat) : Builtin.Str.strSliceIndices none none (-1) n = (List.range n).reverse := by
  have h : Builtin.Str.strSliceIndices none none (-1) n = sliceRange ((n : Int) - 1) (-1) (-1) := rfl
  rw [h, PySem.W.krv_sliceRange, PySem.W.krv_range]
theorem pe_revS {e : Expr} {te : TE} {k : Nat} {p1 p2 p3 pos : Pos} (he : PE X e te) : PE X (.Subscript e (.Slice none none (some (.UnaryOp .USub (.Constant (.int 1) k p1) p2)) p3) pos) (tRevS te) := by
  refine ⟨fun pins s σ H Q I h => ?_⟩
  refine PyProof.Rows.Subscript_ (thn (he.run pins s σ H _ I h) fun v s1 hv => ?_)
  obtain ⟨x, H1, I1, r1, l, rfl, hl, q⟩ := hv
  obtain ⟨t, rfl⟩ := r1
  have third : PO X (some (.UnaryOp .USub (.Constant (.int 1) k p1) p2)) (tPart (tUn (rU fun i => .int (-i)) (tC (.int 1)))) := po_some (pe_un un_neg pe_int)
  refine wpAny_Slice (thn (po_none.run pins s1 σ H1 (fun o Hx => o = none ∧ Hx = H1) I1 ⟨rfl, rfl⟩) fun a1 s2 h2 => ?_)
  obtain ⟨o2, H2, I2, p2', rfl, rfl⟩ := h2
  cases p2'
  refine thn (po_none.run pins s2 σ H2 (fun o Hx => o = none ∧ Hx = H2) I2 ⟨rfl, rfl⟩) fun a2 s3 h3 => ?_
  obtain ⟨o3, H3, I3, p3', rfl, rfl⟩ := h3
  cases p3'
  refine thn (third.run pins s3 σ H3 (fun o Hx => o = some (-1) ∧ Hx = H3) I3 ⟨1, rfl, -1, rfl, rfl, rfl⟩) fun a3 s4 h4 => ?_
  obtain ⟨o4, H4, I4, p4', rfl, rfl⟩ := h4
  obtain ⟨t4, rfl⟩ : ∃ t4, a3 = .int (-1) t4 := by cases p4' with | int i t => exact ⟨t, rfl⟩
  have I5 : L2.Inv X pins σ H4 { s4 with heap := s4.heap.push { cls := .type "slice", data := .fields #[.none, .none, .int (-1) t4] } } := I4.kept (t' := s4.toks) fun b ob z => Heap.get?_push_of_some _ z
  refine PyProof.Rows.tail_any (ops := [.str (S l) t, .ref s4.heap.objs.size]) (typeIs_str _ _ _) (PySem.F.slot_str_getitem.lookup) ?_ (by with_unfolding_all rfl)
  refine wpAny_getItem_str_slice (l := none) (u := none) (st := some (-1, t4)) ⟨_, Heap.get?_push_size _ rfl, rfl, rfl⟩ (show ((-1 : Int) == 0) = false by decide) ?_
  have e1 : slicePicked (S l) none none (some (-1, t4)) = (List.range l.length).reverse := by
    show Builtin.Str.strSliceIndices none none (-1) (S l).length = _
    rw [S_len, rev_indices]
  have e2 : ((List.range l.length).reverse.filterMap ((S l).cps[·]?)) = l.reverse := by
    rw [List.filterMap_reverse]
    have := PySem.W.krv_all (S l).cps
    rw [S_size] at this
    rw [this]
    rfl
  unfold sliceMade
  split
  · rename_i hc
    have hc' : ((-1 : Int) == 1 && (slicePicked (S l) none none (some (-1, t4))).length == (S l).length) = true := hc
    rw [show ((-1 : Int) == 1) = false by decide, Bool.false_and] at hc'
    cases hc'
  rw [e1, e2]
  refine ⟨?_, .str (S l.reverse), H4, I5.tok _, ⟨_, rfl⟩, q⟩
  show (S l.reverse).length ≤ _
  rw [S_len, List.length_reverse]
  exact Nat.le_trans hl (by decide)
/-! ### zip(list, tuple) -/
theorem nn {x y : Nat} (h : x ≠ y) : (x : Addr) ≠ y := h
theorem sep_nat (n a b : Nat) (la : a < n) (lb : b < n) : ZipSep2 (n + 4) (n + 2) (n + 3) n (n + 1) [n, a] [n + 1, b] := by
  have nl : ∀ (x y z : Nat), x ≠ y → x ≠ z → x ∉ [y, z] := fun x y z h1 h2 h => by
    rcases List.mem_cons.mp h with e | e
    · exact h1 e
    · exact h2 (List.mem_singleton.mp e)
  exact ⟨nn (by omega), nn (by omega), nn (by omega), nn (by omega), List.mem_cons_self .., nl _ _ _ (by omega) (by omega), nl _ _ _ (by omega) (by omega), nn (by omega), List.mem_cons_self .., nl _ _ _ (by omega) (by omega), nl _ _ _ (by omega) (by omega), nl _ _ _ (by omega) (by omega), nl _ _ _ (by omega) (by omega)⟩
theorem back : ∀ {xs : List V} {us : List Value} {i : Nat} {u : Value}, Vals xs us → us[i]? = some u → ∃ x, xs[i]? = some x ∧ RelV x u
  | _, _, _, _, .nil, e => by simp at e
  | _, _, 0, _, .cons r _, e => by simp at e; subst e; exact ⟨_, rfl, r⟩
  | _, _, i + 1, u, .cons _ t, e => by
    obtain ⟨x, h1, h2⟩ := back (i := i) (u := u) t (by simpa using e)
    exact ⟨x, by simpa using h1, h2⟩
/-- the list at a and the tuple at b as they stand at each turn, the items in new pairs -/
def ItzLT (K : PySem.W.Frag) (a b : Addr) : It :=
  ⟨fun i H => ∃ (xs ys : List V), SqL K H a xs ∧ SqT K H b ys ∧ i < min xs.length ys.length,
    fun i H v H' => ∃ T x y, v = .ref T ∧ H T = none ∧ H' = upd H T (.tup [x, y]) ∧ (∀ xs, SqL K H a xs → xs[i]? = some x) ∧ ∀ ys, SqT K H b ys → ys[i]? = some y,
    fun i H => ∃ xs ys : List V, SqL K H a xs ∧ SqT K H b ys ∧ i = min xs.length ys.length⟩
def ZiSt (a b z TI TO i1 i2 : Addr) (i : Nat) (h : Heap) : Prop :=
  IsZip h z TI TO .none ∧ IsTupOf2 h TI (.ref i1) (.ref i2) ∧ (∃ a1 a2, IsTupOf2 h TO a1 a2) ∧ h.IsListIter i1 a i ∧ h.IsTupleIter i2 b i
theorem in5 {c z TI TO i1 i2 : Addr} : c ∈ [z, TI, TO, i1, i2] ↔ c = z ∨ c = TI ∨ c = TO ∨ c = i1 ∨ c = i2 := by simp
theorem turn_zipLT {P : Program} {w : World} {K : PySem.W.Frag} {elts : List Expr} {kk : Nat} {tpos : Pos} {a b z TI TO i1 i2 : Addr} (D : ZipSep2 z TI TO i1 i2 [i1, a] [i2, b]) (na : a ≠ i1) (nb : b ≠ i2) :
    Turn P w K (.Tuple elts kk tpos) (ItzLT K a b) [z, TI, TO, i1, i2] z (ZiSt a b z TI TO i1 i2) where
  mem := in5.mpr (.inl rfl)
  obj := fun i h st c hc => by
    obtain ⟨h1, h2, ⟨x, y, h3⟩, ⟨o1, e1, _, d1⟩, ⟨o2, e2, _, d2⟩⟩ := st
    rcases in5.mp hc with q | q | q | q | q <;> subst q
    · exact ⟨_, h1, nofun⟩
    · exact ⟨_, h2, nofun⟩
    · exact ⟨_, h3, nofun⟩
    · exact ⟨o1, e1, fun v q => by rw [d1] at q; cases q⟩
    · exact ⟨o2, e2, fun v q => by rw [d2] at q; cases q⟩
  keep := fun i h h' st k => by
    obtain ⟨h1, h2, ⟨x, y, h3⟩, h4, h5⟩ := st
    exact ⟨k z (by simp) _ h1, k TI (by simp) _ h2, ⟨x, y, k TO (by simp) _ h3⟩, h4.at fun o q => k i1 (by simp) o q, h5.at fun o q => k i2 (by simp) o q⟩
  item := by
    intro X hP hw hK hc i pins s σ H E I hf st hg
    subst hP hw hK
    obtain ⟨xs, ys, hqx, hqy, hi⟩ := hg
    obtain ⟨its, rv, p, _⟩ := I.list hqx
    obtain ⟨its2, rv2, p2, _⟩ := I.tuple hqy
    have hh : X.A.in1.handled = none := I.ok.hd hc
    have W := WalksT.zipD2 (prog := X.prog) (w := X.w) D (Draws.list hh i1 a na its.toArray) (Draws.tuple hh i2 b nb its2.toArray)
    obtain ⟨h1, h2, h3, h4, h5⟩ := st
    have l1 := rv.length
    have l2 := rv2.length
    refine W.item i s _ _ (by simp only [List.size_toArray]; omega) ⟨h1, h2, h3, ⟨h4, p.isList⟩, ⟨h5, p2⟩⟩ fun T vals h' tk hv hT tup mid kk' => ⟨_, rfl, ?_⟩
    obtain ⟨x1, x2, y1, y2, rfl⟩ := hv
    have nT : T ∉ [z, TO, i1, i2] := W.apart _ _ _ mid
    refine W.go elts kk tpos i T { s with heap := h', toks := tk } _ _ mid fun h'' st'' k2 => ?_
    have tup2 : PyProof.Rows.IsTup h'' T #[x1, x2] := by
      obtain ⟨o, ho, r⟩ := tup
      exact ⟨o, k2 _ _ nT ho, r⟩
    have g1 : its[i]? = some x1 := by simpa using y1
    have g2 : its2[i]? = some x2 := by simpa using y2
    obtain ⟨v1, e1, r1⟩ := back rv g1
    obtain ⟨v2, e2, r2⟩ := back rv2 g2
    have new : ObjOk X.prog X.w (upd H T (.tup [v1, v2])) h'' T (.tup [v1, v2]) := ⟨by show 2 ≤ sizeLine; decide, [x1, x2], .cons r1 (.cons r2 .nil), tup2⟩
    have sub5 : ∀ c, c ∈ [z, TO, i1, i2] → c ∈ [z, TI, TO, i1, i2] := fun c hc => by
      have : c = z ∨ c = TO ∨ c = i1 ∨ c = i2 := by simpa using hc
      rcases this with q | q | q | q <;> subst q <;> simp
    have I1 : L2.Inv X pins σ (upd H T (.tup [v1, v2])) { s with heap := h'', toks := tk } := I.turnedNew (t' := tk) (ch := [z, TI, TO, i1, i2])
      (fun c o hb q => k2 c o (fun h => hb (sub5 c h)) (kk' c o (fun h => hb (sub5 c h)) q)) hf hT new
    obtain ⟨a1, a2, a3, a4, a5⟩ := st''
    refine ⟨.ref T, _, I1, rfl, ⟨T, v1, v2, rfl, I.hok.fresh hT, rfl, fun l hl => by rw [I.list_inj hl hqx]; exact e1, fun l hl => by rw [I.tuple_inj hl hqy]; exact e2⟩, ⟨a1, a2, a3, a4.1, a5.1⟩, fun c hcm => ?_⟩
    have hlt : c < s.heap.objs.size := by
      obtain ⟨x0, y0, h3⟩ := h3
      rcases in5.mp hcm with q | q | q | q | q <;> subst q
      · exact Heap.lt_size h1
      · exact Heap.lt_size h2
      · exact Heap.lt_size h3
      · obtain ⟨_, e, _⟩ := h4; exact Heap.lt_size e
      · obtain ⟨_, e, _⟩ := h5; exact Heap.lt_size e
    rw [upd_ne (Nat.ne_of_lt (Nat.lt_of_lt_of_le hlt hT))]
    exact (hf c hcm).1
  done := by
    intro X hP hw hK hc i pins s σ H E I hf st hg
    subst hP hw hK
    obtain ⟨xs, ys, hqx, hqy, hi⟩ := hg
    obtain ⟨its, rv, p, _⟩ := I.list hqx
    obtain ⟨its2, rv2, p2, _⟩ := I.tuple hqy
    have hh : X.A.in1.handled = none := I.ok.hd hc
    have W := WalksT.zipD2 (prog := X.prog) (w := X.w) D (Draws.list hh i1 a na its.toArray) (Draws.tuple hh i2 b nb its2.toArray)
    obtain ⟨h1, h2, h3, h4, h5⟩ := st
    have l1 := rv.length
    have l2 := rv2.length
    have hi' : i = min its.toArray.size its2.toArray.size := by simp only [List.size_toArray]; omega
    subst hi'
    refine W.done s _ _ ⟨h1, h2, h3, ⟨h4, p.isList⟩, ⟨h5, p2⟩⟩ fun h' tk k => ⟨rfl, I.turnedL (t' := tk) (ch := [z, TI, TO, i1, i2]) (fun c o hb q => k c o (fun h => hb ?_) q) hf⟩
    have : c = z ∨ c = TO ∨ c = i1 ∨ c = i2 := by simpa using h
    rcases this with q | q | q | q <;> subst q <;> simp
  self := fun A i s Q E st h => wpAny_pyIter_zip st.1 h
def iZipLT (K : PySem.W.Frag) (ta : TA) : TI := fun σ H R => ta σ H fun vs H1 => ∃ a b xs ys, vs = [.ref a, .ref b] ∧ SqL K H1 a xs ∧ SqT K H1 b ys ∧ R (ItzLT K a b) H1
theorem pi_zipLT {e e2 : Expr} {ta : TA} {p pos tpos : Pos} {elts : List Expr} {kk : Nat} (hg : Gl X "zip") (hm : X.mg "zip" = none) (ha : PA X [e, e2] ta)
    (hs : starEach [e, e2] X.env = (false, eval e X.env) :: starEach [e2] X.env := by rfl) (hpl : (backTo pos (starEach [e2] X.env)).any (·.1) = false := by rfl) :
    PI X (.Tuple elts kk tpos) (.Call (.Name "zip" p) [e, e2] [] pos) (iZipLT X.K ta) := by
  refine ⟨fun pins s σ H R I h => ?_⟩
  refine PyProof.Rows.Call_ (ld_blt I hg hm PyProof.Rows.boot_zip (PyProof.Rows.callWith_type1 (thn (ha.run pos pins s σ H _ I h) fun us s1 hv => ?_) hs hpl))
  obtain ⟨vs, H1, I1, r1, a, b, xs, ys, rfl, hqx, hqy, q⟩ := hv
  obtain ⟨u1, u2, rfl, ra, rb⟩ := vals2 r1
  cases ra
  cases rb
  obtain ⟨its, rv, p1, _⟩ := I1.list hqx
  obtain ⟨its2, rv2, p2, _⟩ := I1.tuple hqy
  have la : a < s1.heap.objs.size := by obtain ⟨o, e, _⟩ := p1.isList; exact Heap.lt_size e
  have lb : b < s1.heap.objs.size := by obtain ⟨o, e, _⟩ := p2; exact Heap.lt_size e
  have fr : ∀ c, s1.heap.objs.size ≤ c → FpOk X pins H1 c := fun c hc => I1.fpOk hc (I1.hok.fresh hc)
  generalize hn : s1.heap.objs.size = n at la lb fr
  have D := sep_nat n a b la lb
  refine zip_begins2 (begins_list a its.toArray) (begins_tuple b its2.toArray) p1.isList p2 fun h' hz hTI hTO h1 h2 hsz hk => wpAny_pyIter_zip hz ?_
  rw [hn] at hz hTI hTO h1 h2 hsz ⊢
  have I2 : L2.Inv X pins σ H1 { s1 with heap := h' } := I1.kept (t' := s1.toks) hk
  refine ⟨n + 4, [n + 4, n + 2, n + 3, n, n + 1], _, ItzLT X.K a b, H1, rfl, I2, turn_zipLT D (Nat.ne_of_lt la) (Nat.ne_of_lt (Nat.lt_succ_of_lt lb)), ⟨hz, hTI, ⟨_, _, hTO⟩, ⟨_, h1, rfl, rfl⟩, ⟨_, h2, rfl, rfl⟩⟩, fun c hc => fr c ?_, q⟩
  rcases in5.mp hc with q | q | q | q | q <;> subst q <;> first | exact Nat.le_refl _ | exact Nat.le_add_right _ _
end
/-! ### len(set(text)) -/
/-- the unlike signs, in the turn in which they are met -/
def uniq (l : Tx) : Tx := l.foldl (fun acc c => if c ∈ acc then acc else acc ++ [c]) []
theorem uniq_snoc (l : Tx) (c : Nat) : uniq (l ++ [c]) = if c ∈ uniq l then uniq l else uniq l ++ [c] := by
  unfold uniq
  rw [List.foldl_append]
  rfl
theorem mem_uniq (l : Tx) : ∀ c, c ∈ uniq l ↔ c ∈ l := by
  have key : ∀ (l acc : Tx) (c : Nat), c ∈ l.foldl (fun acc c => if c ∈ acc then acc else acc ++ [c]) acc ↔ c ∈ acc ∨ c ∈ l := by
    intro l
    induction l with
    | nil => intro acc c; simp
    | cons d l ih =>
      intro acc c
      rw [List.foldl_cons, ih]
      by_cases h : d ∈ acc
      · rw [if_pos h]
        constructor
        · rintro (h1 | h1)
          · exact .inl h1
          · exact .inr (List.mem_cons_of_mem _ h1)
        · rintro (h1 | h1)
          · exact .inl h1
          · rcases List.mem_cons.mp h1 with e | e
            · subst e; exact .inl h
            · exact .inr e
      · rw [if_neg h]
        simp only [List.mem_append, List.mem_cons, List.not_mem_nil, or_false, or_assoc]
  intro c
  rw [uniq, key]
  simp
theorem uniq_le (l : Tx) : (uniq l).length ≤ l.length := by
  have key : ∀ (l acc : Tx), (l.foldl (fun acc c => if c ∈ acc then acc else acc ++ [c]) acc).length ≤ acc.length + l.length := by
    intro l
    induction l with
    | nil => intro acc; simp
    | cons d l ih =>
      intro acc
      rw [List.foldl_cons]
      refine Nat.le_trans (ih _) ?_
      split
      · simp only [List.length_cons]; omega
      · simp only [List.length_append, List.length_cons, List.length_nil]; omega
  have := key l []
  rw [List.length_nil, Nat.zero_add] at this
  exact this
theorem uniq_nodup {l : Tx} (h : l.Nodup) : uniq l = l := by
  have key : ∀ (l acc : Tx), (acc ++ l).Nodup → l.foldl (fun acc c => if c ∈ acc then acc else acc ++ [c]) acc = acc ++ l := by
    intro l
    induction l with
    | nil => intro acc _; simp
    | cons d l ih =>
      intro acc h
      have hd : d ∉ acc := fun z => by
        have := (List.nodup_append.mp h).2.2
        exact this d z d (List.mem_cons_self ..) rfl
      rw [List.foldl_cons, if_neg hd, ih (acc ++ [d]) (by rw [List.append_assoc]; exact h), List.append_assoc]
      rfl
  simpa [uniq] using key l [] (by simpa using h)
section
variable {P : Program} {w : World} {A : Around} {R : Result → Shared → Prop} {I : Addr} {St : Nat → Heap → Prop}
/-- what the set at a holds: the signs of l -/
def SetSigns (P : Program) (w : World) (h : Heap) (a : Addr) (l : Tx) : Prop := h.SetOf (PySem.strKind P w) a (fun k => (uniq l).any fun c => decide (k = S [c])) (uniq l).length
theorem fill_set (l : Tx) (hz : l.length ≤ 1000) (W : Walks P w A.in1 I [I] [I] (S l).cps.size (SignAt (S l)) St) (a : Addr) (ha : a ≠ I) :
    ∀ (k i : Nat) (s : Shared), i + k = l.length → St i s.heap → SetSigns P w s.heap a (l.take i) →
      (∀ h' tk, (∀ b o, b ≠ a → b ≠ I → s.heap.get? b = some o → h'.get? b = some o) → SetSigns P w h' a l → R (.ok (.ret .none)) { s with heap := h', toks := tk }) →
      codeAny (model P w) A (.builtin "set.update.loop" ⟨[.ref a, .ref I], []⟩) R s := by
  intro k
  induction k with
  | zero =>
    intro i s hk st hS hR
    refine codeAny_builtin PyProof.Rows.F.entry_set_update_loop ?_
    rw [Around.under_plainId PyProof.Rows.F.plain_set_update_loop _]
    show wpAny _ A.in1 (pyNext (.ref I) >>= _) _ _ s
    have e : i = (S l).cps.size := by rw [S_size]; omega
    subst e
    refine wpAny_bind (W.done s _ _ st fun h' tk kp => ?_)
    refine wpAny_pure (hR h' tk (fun b o _ hb e => kp b o (by simpa using hb) e) ?_)
    rw [S_size, List.take_length] at hS
    obtain ⟨o, es, ep, t, ho, rest⟩ := hS
    exact ⟨o, es, ep, t, kp a o (by simpa using ha) ho, rest⟩
  | succ k ih =>
    intro i s hk st hS hR
    refine codeAny_builtin PyProof.Rows.F.entry_set_update_loop ?_
    rw [Around.under_plainId PyProof.Rows.F.plain_set_update_loop _]
    show wpAny _ A.in1 (pyNext (.ref I) >>= _) _ _ s
    refine wpAny_bind (W.item i s _ _ (by rw [S_size]; omega) st fun v h1 tk1 hv st1 kp => ?_)
    obtain ⟨c, t, hc, rfl⟩ := hv
    have hc' : l[i]? = some c := by simpa [S] using hc
    have hS1 : SetSigns P w h1 a (l.take i) := by
      obtain ⟨o, es, ep, tb, ho, rest⟩ := hS
      exact ⟨o, es, ep, tb, kp a o (by simpa using ha) ho, rest⟩
    show wpAny _ A.in1 (holding [Value.str (S [c]) t] (setAdd a (.str (S [c]) t)) >>= _) _ _ { s with heap := h1, toks := tk1 }
    refine wpAny_bind (wpAny_holding ?_)
    unfold setAdd
    refine wpAny_holding (wpAny_bind ((PySem.strKind P w).pyHash (k := S [c]) (strKind_is _ _ _ _) ?_))
    have room : (uniq (l.take i)).length + 1 < scanBound := by
      have h1 := uniq_le (l.take i)
      have h2 : (l.take i).length ≤ l.length := by rw [List.length_take]; omega
      unfold scanBound
      omega
    refine wpAny_setAddHashed_of (knd := PySem.strKind P w) (s := { s with heap := h1, toks := tk1 + 1 }) (strKind_is _ _ _ _) rfl hS1 room fun h2 sb hS2 => ?_
    have tk' : l.take (i + 1) = l.take i ++ [c] := by
      rw [List.take_add_one, hc']
      rfl
    have hS3 : SetSigns P w h2 a (l.take (i + 1)) := by
      refine PyProof.Rows.SetOf_congr hS2 (fun k' => ?_) ?_
      · rw [tk', uniq_snoc]
        by_cases m : c ∈ uniq (l.take i)
        · rw [if_pos m]
          by_cases e : k' = S [c]
          · subst e
            have : ((uniq (l.take i)).any fun d => decide (S [c] = S [d])) = true := List.any_eq_true.mpr ⟨c, m, by simp⟩
            rw [this]
            rfl
          · rw [decide_eq_false e, Bool.or_false]
        · rw [if_neg m, List.any_append]
          simp
      · rw [tk', uniq_snoc]
        by_cases m : c ∈ uniq (l.take i)
        · rw [if_pos m]
          have : ((uniq (l.take i)).any fun d => decide (S [c] = S [d])) = true := List.any_eq_true.mpr ⟨c, m, by simp⟩
          rw [if_pos this]
        · rw [if_neg m]
          have : ¬ ((uniq (l.take i)).any fun d => decide (S [c] = S [d])) = true := fun z => by
            obtain ⟨d, hd, e⟩ := List.any_eq_true.mp z
            have : [c] = [d] := S_inj.mp (of_decide_eq_true e)
            cases this
            exact m hd
          rw [if_neg this]
          simp
    have st2 : St (i + 1) h2 := W.frame _ h1 _ st1 fun b hb o e => by
      have e' : b = I := by simpa using hb
      subst e'
      exact (sb.2 b (Ne.symm ha)).trans e
    refine wpAny_pure ⟨plainId_quiet PyProof.Rows.F.plain_set_update_loop _, ih (i + 1) _ (by omega) st2 hS3 fun h3 tk3 kp3 hS4 => ?_⟩
    refine hR h3 tk3 (fun b o h1' h2' e => kp3 b o h1' h2' ?_) hS4
    exact (sb.2 b h1').trans (kp b o (by simpa using h2') e)
end
theorem sub_str_set : isSubtype (.type "str") (.type "set") = pure false := by rw [isSubtype_type]; kernel_rfl
theorem sub_str_frozenset : isSubtype (.type "str") (.type "frozenset") = pure false := by rw [isSubtype_type]; kernel_rfl
section
variable {P : Program} {w : World} {A : Around} {E : Value → Shared → Prop} {s : Shared}
theorem call_set_text (hh : A.handled = none) (l : Tx) (t : Tok) (hz : l.length ≤ 1000) {Q : Value → Shared → Prop}
    (h : ∀ (h' : Heap) (tk : Nat), SetSigns P w h' s.heap.objs.size l → (∀ b o, s.heap.get? b = some o → h'.get? b = some o) → Q (.ref s.heap.objs.size) { s with heap := h', toks := tk }) :
    wpAny (model P w) A (call (.type "set") [.str (S l) t]) Q E s := by
  obtain ⟨c, tl, hmro⟩ := PySem.F.called_set.mro
  have hmade := PySem.F.called_set.made
  have hsub := PySem.F.called_set.sub
  refine wpAny_call (codeAny_of_tree ?_)
  show wpAny _ _ (callAny (.type "set") _) _ _ _
  refine wpAny_pure ⟨Code.quiet_builtin _ (by decide +kernel), codeAny_builtin PySem.F.entry_type_call ?_⟩
  rw [Around.under_plain (weight_type_call_type "set" [.str (S l) t] []) rfl]
  have q1 := PySem.F.called_set.notType
  have q2 := PySem.F.called_set.canCreate
  have q3 := PySem.F.typeCall_set_1 (.str (S l) t)
  repeat (any_goals (first | assumption | wp_step))
  refine codeAny_mono (PySem.code_set_new_1 (.str (S l) t) (E := E) (Q₁ := fun obj s₁ => ∃ led : Bool, obj = .ref s.heap.objs.size ∧ s₁ = { s with heap := s.heap.push { cls := .type "set", dict := none, data := .set #[] 0 (.fresh 0 0 led) } }) fun led => ⟨led, rfl, rfl⟩) fun r s₁ hr => ?_
  cases r with
  | error e => exact hr
  | ok fl =>
    cases fl with
    | ret obj =>
      obtain ⟨led, rfl, rfl⟩ := hr
      have hS : (s.heap.push { cls := .type "set", dict := none, data := .set #[] 0 (.fresh 0 0 led) }).get? s.heap.objs.size = some { cls := .type "set", dict := none, data := .set #[] 0 (.fresh 0 0 led) } := Heap.get?_push_size _ rfl
      have hT : Shared.TypeIs { s with heap := s.heap.push { cls := .type "set", dict := none, data := .set #[] 0 (.fresh 0 0 led) } } (.ref s.heap.objs.size) "set" := ⟨_, hS, rfl⟩
      have q4 := PySem.F.called_set.init.lookup
      have q5 := PySem.F.called_set.init.bind (.ref s.heap.objs.size)
      repeat (any_goals (first | assumption | wp_step))
      refine codeAny_mono (codeAny_call_builtin (R := wants (fun r s₂ => r = .none ∧ ∃ h' tk, s₂ = { s with heap := h', toks := tk } ∧ SetSigns P w h' s.heap.objs.size l ∧
          (∀ b o, s.heap.get? b = some o → h'.get? b = some o)) E) PySem.F.called_set.init.plain PySem.F.entry_set_init (PySem.check_set_init_1 hT ?_)) fun r₂ s₂ hr₂ => ?_
      · have q6 := sub_str_set
        have q7 := sub_str_frozenset
        have q8 : (Value.type "str" == Value.type "dict") = false := by decide
        unfold Builtin.«set.__init__» noKeywords Builtin.Frozenset.updateFrom
        generalize hPI : pyIter = PI
        wp_walk
        subst hPI
        refine wpAny_pyIter_str fun o St W st => ?_
        refine wpAny_bind (wpAny_runValue ?_)
        have sz : (s.heap.push { cls := .type "set", dict := none, data := .set #[] 0 (.fresh 0 0 led) }).objs.size = s.heap.objs.size + 1 := Heap.size_push _ _
        have na : s.heap.objs.size ≠ (s.heap.push { cls := .type "set", dict := none, data := .set #[] 0 (.fresh 0 0 led) }).objs.size := by
          rw [sz]; exact Nat.ne_of_lt (Nat.lt_succ_self _)
        refine fill_set l hz (W _ (by simp [hh])) s.heap.objs.size na l.length 0 _ (Nat.zero_add _) st ?_ fun h' tk kp hS' => ?_
        · have hget := Heap.get?_push_of_some o hS
          exact PyProof.Rows.SetOf_congr ((PyProof.Rows.setObjOf_fresh (knd := PySem.strKind P w) led).setOf hget (by unfold scanBound; omega)) (fun _ => rfl) rfl
        · refine wpAny_pure ?_
          show wpAny _ _ (ret Value.none) _ _ _
          refine wpAny_pure ⟨rfl, h', tk, rfl, hS', fun b ob e => ?_⟩
          have lt := Heap.lt_size e
          refine kp b ob (Nat.ne_of_lt lt) ?_ (Heap.get?_push_of_some _ (Heap.get?_push_of_some _ e))
          show b ≠ _
          rw [sz]
          exact Nat.ne_of_lt (Nat.lt_succ_of_lt lt)
      · cases r₂ with
        | error e => exact hr₂
        | ok fl₂ =>
          cases fl₂ with
          | ret r =>
            obtain ⟨rfl, h', tk, rfl, hS', hk'⟩ := hr₂
            repeat (any_goals (first | assumption | wp_step))
            exact h _ _ hS' hk'
          | _ => exact hr₂.elim
    | _ => exact hr.elim
end
section
variable {X : Cx}
def tLenSetS (ta : TE) : TE := fun σ H Q => ta σ H fun x H1 => ∃ l : Tx, x = .str (S l) ∧ l.length ≤ 1000 ∧ Q (.int ((uniq l).length : Nat)) H1
theorem pe_lenSetS {a : Expr} {ta : TE} {p p2 q pos : Pos} (hc : X.calm = true) (hg : Gl X "len") (hm : X.mg "len" = none) (hg2 : Gl X "set") (hm2 : X.mg "set" = none) (ha : PE X a ta)
    (na : starEach [a] X.env = (false, eval a X.env) :: starEach [] X.env := by rfl) : PE X (.Call (.Name "len" p) [.Call (.Name "set" p2) [a] [] q] [] pos) (tLenSetS ta) := by
  refine ⟨fun pins s σ H Q I h => ?_⟩
  refine PyProof.Rows.Call_ (ld_blt I hg hm boot_len (PyProof.Rows.callWith_builtin1 (PyProof.Rows.args_cons ?_ rfl) rfl rfl))
  refine PyProof.Rows.Call_ (ld_blt I hg2 hm2 PyProof.Rows.boot_set (PyProof.Rows.callWith_type1 (PyProof.Rows.args_cons (thn (ha.run pins s σ H _ I h) fun v s1 hv => PyProof.Rows.args_nil ?_) na) na rfl))
  obtain ⟨x, H1, I1, r1, l, rfl, hl, q1⟩ := hv
  obtain ⟨t, rfl⟩ := r1
  refine call_set_text (I1.ok.hd hc) l t hl fun h' tk hS hk => PyProof.Rows.args_nil ?_
  obtain ⟨o, es, ep, tb, ho, hex, hd, _, _, _, hf, hn⟩ := hS
  have I2 : L2.Inv X pins σ H1 { s1 with heap := h', toks := tk } := I1.kept hk
  have hz := Nat.le_trans (uniq_le l) hl
  exact call_len_set ho hex hd hf (by rw [hn] <;> omega) ⟨.int ((uniq l).length : Nat), H1, I2.tok _, ⟨_, by rw [hn]⟩, q1⟩
end
end Qw

set_option Elab.async false
set_option linter.all false
set_option maxRecDepth 100000
set_option maxHeartbeats 4000000
namespace Qw
open PySem L2
/-! ### two rules side by side, in plain Lean: keys and marks -/
/-- where a machine is, but for its word's signs -/
structure Ky where
  st : Tx
  bent : Bool
  wn : Bool
deriving DecidableEq
/-- a mark: the begin of a word, or a sign -/
abbrev Mk1 := Option Nat
def Ky.zero : Ky := ⟨[], false, true⟩
/-- the begin of a word, if none is there -/
def bgn (wn : Bool) : List Mk1 := if wn = true then [none] else []
def Ky.plain (r : RS) (k : Ky) (c : Nat) : Ky × List Mk1 :=
  if c ∈ r.breaks then (⟨k.st, k.bent, true⟩, [])
  else if c ∈ r.note then (⟨NT, k.bent, true⟩, [])
  else if c ∈ r.quotes then (⟨[c], k.bent, false⟩, bgn k.wn)
  else if c ∈ r.bend then (⟨k.st, true, false⟩, bgn k.wn)
  else (⟨k.st, k.bent, false⟩, bgn k.wn ++ [some c])
def Ky.quoted (r : RS) (k : Ky) (c : Nat) : Ky × List Mk1 :=
  if [c] = k.st then (⟨[], k.bent, k.wn⟩, [])
  else if c ∈ r.bend ∧ k.st.all (· ∈ r.soft) = true then (⟨k.st, true, k.wn⟩, [])
  else (k, [some c])
def Ky.mid (k : Ky) (c : Nat) : Ky := if k.st = NT ∧ c = LE then ⟨[], k.bent, k.wn⟩ else k
def Ky.step (r : RS) (k : Ky) (c : Nat) : Ky × List Mk1 :=
  let k := k.mid c
  if k.bent = true then (⟨k.st, false, k.wn⟩, [some c])
  else if k.st = [] then k.plain r c
  else if k.st = NT then (k, [])
  else k.quoted r c
def Ky.run (r : RS) (k : Ky) : Tx → Ky × List Mk1
  | [] => (k, [])
  | c :: t => (((k.step r c).1.run r t).1, (k.step r c).2 ++ ((k.step r c).1.run r t).2)
theorem Ky.run_app (r : RS) : ∀ (t u : Tx) (k : Ky), k.run r (t ++ u) = (((k.run r t).1.run r u).1, (k.run r t).2 ++ ((k.run r t).1.run r u).2)
  | [], u, k => by simp [Ky.run]
  | c :: t, u, k => by
    have ih := Ky.run_app r t u (k.step r c).1
    simp only [List.cons_append, Ky.run, ih, List.append_assoc]
/-- the text may not end here -/
def Ky.fault (k : Ky) : Bool := k.bent || (decide (k.st ≠ []) && decide (k.st ≠ NT))
/-! ### the machine's key -/
def MS.ky (m : MS) : Ky := ⟨m.state, m.bent, m.word.isNone⟩
def marksW (w : Tx) : List Mk1 := none :: w.map some
def marksOf (ws : List Tx) : List Mk1 := ws.flatMap marksW
/-- all that a machine has told, and the word that is there -/
def MS.tm (m : MS) (acc : List W3) : List Mk1 := marksOf (acc.map (·.1)) ++ (match m.word with | none => [] | some w => marksW w)
theorem marksOf_app (a b : List Tx) : marksOf (a ++ b) = marksOf a ++ marksOf b := by simp [marksOf]
theorem marksW_add (w : Tx) (c : Nat) : marksW (w ++ [c]) = marksW w ++ [some c] := by simp [marksW]
theorem marksOf_inj : ∀ {a b : List Tx}, marksOf a = marksOf b → a = b := by
  have split : ∀ (w v : Tx) (x y : List Mk1), (∀ h t, x = h :: t → h = none) → (∀ h t, y = h :: t → h = none) → w.map some ++ x = v.map some ++ y → w = v ∧ x = y := by
    intro w
    induction w with
    | nil =>
      intro v x y hx hy e
      cases v with
      | nil => exact ⟨rfl, e⟩
      | cons c v =>
        have e : x = some c :: (v.map some ++ y) := e
        exact absurd (hx _ _ e) (by simp)
    | cons d w ih =>
      intro v x y hx hy e
      cases v with
      | nil =>
        have e : some d :: (w.map some ++ x) = y := e
        exact absurd (hy _ _ e.symm) (by simp)
      | cons c v =>
        simp only [List.map_cons, List.cons_append, List.cons.injEq, Option.some.injEq] at e
        obtain ⟨rfl, e⟩ := e
        obtain ⟨rfl, z⟩ := ih v x y hx hy e
        exact ⟨rfl, z⟩
  have hd : ∀ (a : List Tx) h t, marksOf a = h :: t → h = none := by
    intro a h t e
    cases a with
    | nil => cases e
    | cons w a =>
      simp only [marksOf, List.flatMap_cons, marksW, List.cons_append, List.cons.injEq] at e
      exact e.1.symm
  intro a
  induction a with
  | nil =>
    intro b e
    cases b with
    | nil => rfl
    | cons v b => simp [marksOf, marksW] at e
  | cons w a ih =>
    intro b e
    cases b with
    | nil => simp [marksOf, marksW] at e
    | cons v b =>
      have e : marksW w ++ marksOf a = marksW v ++ marksOf b := e
      simp only [marksW, List.cons_append, List.cons.injEq, true_and] at e
      obtain ⟨ew, e2⟩ := split w v _ _ (hd a) (hd b) e
      rw [ew, ih e2]
theorem tm_drop (m : MS) (acc : List W3) : MS.tm m.drop (acc ++ m.out) = m.tm acc := by
  unfold MS.tm MS.drop MS.out
  cases h : m.word with
  | none => simp
  | some w => simp [marksOf_app, marksOf]
theorem tm_begin (m : MS) (acc : List W3) : m.begin.tm acc = m.tm acc ++ bgn m.word.isNone := by
  unfold MS.tm MS.begin bgn
  cases h : m.word with
  | none => simp [marksW]
  | some w => simp [h]
theorem tm_add {m : MS} {w : Tx} (h : m.word = some w) (c : Nat) (acc : List W3) : (m.add c).tm acc = m.tm acc ++ [some c] := by
  unfold MS.tm MS.add
  rw [h]
  simp [marksW_add]
theorem tm_word {m m' : MS} (h : m.word = m'.word) (acc : List W3) : m.tm acc = m'.tm acc := by
  unfold MS.tm
  rw [h]
theorem begin_word (m : MS) : ∃ w, m.begin.word = some w := by
  unfold MS.begin
  cases h : m.word with
  | none => exact ⟨[], rfl⟩
  | some w => exact ⟨w, h⟩
theorem begin_st (m : MS) : m.begin.state = m.state ∧ m.begin.bent = m.bent := by
  unfold MS.begin
  cases m.word <;> exact ⟨rfl, rfl⟩
theorem ky_step {m : MS} (ok : m.Ok) (r : RS) (c : Nat) : (m.step r c).1.ky = (m.ky.step r c).1 ∧ ∀ acc, (m.step r c).1.tm (acc ++ (m.step r c).2) = m.tm acc ++ (m.ky.step r c).2 := by
  -- the machine behind a note's end
  have key : ∀ m1 : MS, m1.word = m.word → m1.bent = m.bent → (m1.bent = true → ∃ w, m1.word = some w) → ((m1.state ≠ [] ∧ m1.state ≠ NT) → ∃ w, m1.word = some w) →
      ∀ x, x = (if m1.bent = true then (({ m1 with bent := false } : MS).add c, []) else if m1.state = [] then m1.plain r c else if m1.state = NT then (m1, []) else (m1.quoted r c, [])) →
      ∀ y, y = (if m1.ky.bent = true then (⟨m1.ky.st, false, m1.ky.wn⟩, [some c]) else if m1.ky.st = [] then m1.ky.plain r c else if m1.ky.st = NT then (m1.ky, []) else m1.ky.quoted r c) →
      x.1.ky = y.1 ∧ ∀ acc, x.1.tm (acc ++ x.2) = m1.tm acc ++ y.2 := by
    rintro m1 - - hb hq x rfl y rfl
    by_cases b : m1.bent = true
    · obtain ⟨w, hw⟩ := hb b
      have e1 : m1.ky.bent = true := b
      rw [if_pos b, if_pos e1]
      refine ⟨?_, fun acc => ?_⟩
      · simp [MS.ky, MS.add, hw]
      · rw [List.append_nil]
        exact (tm_add (m := { m1 with bent := false }) (w := w) hw c acc).trans (congrArg (· ++ [some c]) (tm_word rfl acc))
    have e1 : ¬ m1.ky.bent = true := b
    rw [if_neg b, if_neg e1]
    by_cases s0 : m1.state = []
    · have e2 : m1.ky.st = [] := s0
      rw [if_pos s0, if_pos e2]
      unfold MS.plain Ky.plain
      by_cases c1 : c ∈ r.breaks
      · rw [if_pos c1, if_pos c1]
        exact ⟨rfl, fun acc => by rw [List.append_nil]; exact tm_drop m1 acc⟩
      rw [if_neg c1, if_neg c1]
      by_cases c2 : c ∈ r.note
      · rw [if_pos c2, if_pos c2]
        exact ⟨rfl, fun acc => by rw [List.append_nil]; exact (tm_word rfl _).trans (tm_drop m1 acc)⟩
      rw [if_neg c2, if_neg c2]
      obtain ⟨w, hw⟩ := begin_word m1
      obtain ⟨b1, b2⟩ := begin_st m1
      by_cases c3 : c ∈ r.quotes
      · rw [if_pos c3, if_pos c3]
        exact ⟨by simp [MS.ky, hw, b2], fun acc => by rw [List.append_nil]; exact (tm_word (m' := m1.begin) rfl _).trans (tm_begin m1 acc)⟩
      rw [if_neg c3, if_neg c3]
      by_cases c4 : c ∈ r.bend
      · rw [if_pos c4, if_pos c4]
        exact ⟨by simp [MS.ky, hw, b1], fun acc => by rw [List.append_nil]; exact (tm_word (m' := m1.begin) rfl _).trans (tm_begin m1 acc)⟩
      rw [if_neg c4, if_neg c4]
      exact ⟨by simp [MS.ky, MS.add, hw, b1, b2], fun acc => by rw [List.append_nil, tm_add hw, tm_begin, List.append_assoc]; rfl⟩
    have e2 : ¬ m1.ky.st = [] := s0
    rw [if_neg s0, if_neg e2]
    by_cases s1 : m1.state = NT
    · have e3 : m1.ky.st = NT := s1
      rw [if_pos s1, if_pos e3]
      exact ⟨rfl, fun acc => by simp⟩
    have e3 : ¬ m1.ky.st = NT := s1
    rw [if_neg s1, if_neg e3]
    obtain ⟨w, hw⟩ := hq ⟨s0, s1⟩
    unfold MS.quoted Ky.quoted
    by_cases c1 : [c] = m1.state
    · have c1' : [c] = m1.ky.st := c1
      rw [if_pos c1, if_pos c1']
      exact ⟨rfl, fun acc => by rw [List.append_nil, List.append_nil]; exact tm_word rfl _⟩
    have c1' : ¬ [c] = m1.ky.st := c1
    rw [if_neg c1, if_neg c1']
    by_cases c2 : c ∈ r.bend ∧ m1.state.all (· ∈ r.soft) = true
    · have c2' : c ∈ r.bend ∧ m1.ky.st.all (· ∈ r.soft) = true := c2
      rw [if_pos c2, if_pos c2']
      exact ⟨rfl, fun acc => by rw [List.append_nil, List.append_nil]; exact tm_word rfl _⟩
    have c2' : ¬ (c ∈ r.bend ∧ m1.ky.st.all (· ∈ r.soft) = true) := c2
    rw [if_neg c2, if_neg c2']
    exact ⟨by simp [MS.ky, MS.add, hw], fun acc => by rw [List.append_nil]; exact tm_add hw c acc⟩
  unfold MS.step Ky.step
  by_cases n : m.state = NT ∧ c = LE
  · have n' : m.ky.st = NT ∧ c = LE := n
    have z := key { m with state := [] } rfl rfl (fun b => ok.wd (.inl b)) (fun q => absurd rfl q.1) _ rfl _ rfl
    simp only [if_pos n, Ky.mid, if_pos n']
    exact ⟨z.1, fun acc => (tm_word rfl _).trans (z.2 acc)⟩
  · have n' : ¬ (m.ky.st = NT ∧ c = LE) := n
    have z := key m rfl rfl (fun b => ok.wd (.inl b)) (fun q => ok.wd (.inr (by
      rcases ok.st with e | e | e
      · exact absurd e q.1
      · exact absurd e q.2
      · exact e))) _ rfl _ rfl
    simp only [if_neg n, Ky.mid, if_neg n']
    exact ⟨z.1, fun acc => (tm_word rfl _).trans (z.2 acc)⟩
end Qw

set_option Elab.async false
set_option linter.all false
set_option maxRecDepth 100000
set_option maxHeartbeats 4000000
namespace Qw
open PySem L2
/-! ### what two rules tell of a text, by keys and marks -/
theorem ky_run (r : RS) : ∀ (t : Tx) {m : MS} (acc : List W3), m.Ok → (m.run r t).1.ky = (m.ky.run r t).1 ∧ (m.run r t).1.tm (acc ++ (m.run r t).2) = m.tm acc ++ (m.ky.run r t).2
  | [], m, acc, ok => ⟨rfl, by simp [MS.run, Ky.run]⟩
  | c :: t, m, acc, ok => by
    obtain ⟨h1, h2⟩ := ky_step ok r c
    obtain ⟨h3, h4⟩ := ky_run r t (acc ++ (m.step r c).2) (ok.step r c)
    rw [h1] at h3 h4
    refine ⟨h3, ?_⟩
    show ((m.step r c).1.run r t).1.tm (acc ++ ((m.step r c).2 ++ ((m.step r c).1.run r t).2)) = m.tm acc ++ ((m.ky.step r c).2 ++ ((m.ky.step r c).1.run r t).2)
    rw [← List.append_assoc, h4, h2, List.append_assoc]
abbrev runK (r : RS) (rp : Addr) (u : Tx) : MS × List W3 := (MS.zero rp).run r u
abbrev kr (r : RS) (t : Tx) : Ky × List Mk1 := Ky.zero.run r t
theorem run_key (r : RS) (t : Tx) (rp : Addr) : (runK r rp t).1.ky = (kr r t).1 := (ky_run r t [] (MS.Ok.zero rp)).1
theorem run_marks (r : RS) (t : Tx) (rp : Addr) : (runK r rp t).1.tm (runK r rp t).2 = (kr r t).2 := by
  have h := (ky_run r t [] (MS.Ok.zero rp)).2
  rw [List.nil_append] at h
  exact h
theorem fault_ky (m : MS) : m.fault.isSome = m.ky.fault := by
  unfold MS.fault Ky.fault
  show _ = (m.bent || (decide (m.state ≠ []) && decide (m.state ≠ NT)))
  by_cases b : m.bent = true
  · simp [b]
  · by_cases h1 : m.state = [] <;> by_cases h2 : m.state = NT <;> simp [b, h1, h2]
/-- a reading: a fault, or words whose marks are told -/
theorem read_ky (r : RS) (t : Tx) (rp : Addr) : match readAll r t rp with
    | .error _ => (kr r t).1.fault = true
    | .ok ds => (kr r t).1.fault = false ∧ marksOf (ds.map (·.1)) = (kr r t).2 := by
  have h1 := fault_ky (runK r rp t).1
  rw [run_key] at h1
  unfold readAll
  cases e : ((MS.zero rp).run r t).1.fault with
  | some n =>
    simp only
    rw [← h1]
    show Option.isSome (((MS.zero rp).run r t).1.fault) = true
    rw [e]; rfl
  | none =>
    simp only
    refine ⟨by rw [← h1]; show Option.isSome (((MS.zero rp).run r t).1.fault) = false; rw [e]; rfl, ?_⟩
    rw [← run_marks r t rp, List.map_append, marksOf_app]
    unfold MS.tm MS.out
    cases h : ((MS.zero rp).run r t).1.word with
    | none => simp [runK, h, marksOf]
    | some w => simp [runK, h, marksOf]
def alikeT (r r' : RS) (t : Tx) : Bool := ((kr r t).1.fault && (kr r' t).1.fault) || (!(kr r t).1.fault && !(kr r' t).1.fault && decide ((kr r t).2 = (kr r' t).2))
theorem alike_read (r r' : RS) (t : Tx) (rp rp' : Addr) : (match readAll r t rp, readAll r' t rp' with
    | .ok ds, .ok es => decide (ds.map (·.1) = es.map (·.1))
    | .error _, .error _ => true
    | _, _ => false) = alikeT r r' t := by
  have h1 := read_ky r t rp
  have h2 := read_ky r' t rp'
  unfold alikeT
  cases e1 : readAll r t rp <;> cases e2 : readAll r' t rp' <;> rw [e1] at h1 <;> rw [e2] at h2 <;> simp only at h1 h2 ⊢
  · simp [h1, h2]
  · simp [h1, h2.1]
  · simp [h1.1, h2]
  · rw [h1.1, h2.1, ← h1.2, ← h2.2]
    simp only [Bool.and_self, Bool.not_false, Bool.true_and, Bool.false_or, decide_eq_decide]
    exact ⟨fun z => by rw [z], fun z => marksOf_inj z⟩
theorem alike_comm (r r' : RS) (t : Tx) : alikeT r r' t = alikeT r' r t := by
  unfold alikeT
  rw [Bool.and_comm, Bool.and_comm (x := !(kr r t).1.fault), show decide ((kr r t).2 = (kr r' t).2) = decide ((kr r' t).2 = (kr r t).2) from decide_eq_decide.mpr ⟨Eq.symm, Eq.symm⟩]
/-! ### rules that play alike -/
structure SameR (r r' : RS) : Prop where
  br : ∀ c, c ∈ r.breaks ↔ c ∈ r'.breaks
  no : ∀ c, c ∈ r.note ↔ c ∈ r'.note
  be : ∀ c, c ∈ r.bend ↔ c ∈ r'.bend
  qu : ∀ c, c ∈ r.quotes ↔ c ∈ r'.quotes
  so : r.bend ≠ [] → ∀ c, c ∈ r.soft ↔ c ∈ r'.soft
theorem same_step {r r' : RS} (h : SameR r r') (k : Ky) (c : Nat) : k.step r c = k.step r' c := by
  have e1 : ∀ k : Ky, k.plain r c = k.plain r' c := fun k => by
    unfold Ky.plain
    simp only [h.br c, h.no c, h.qu c, h.be c]
  have e2 : ∀ k : Ky, k.quoted r c = k.quoted r' c := fun k => by
    unfold Ky.quoted
    by_cases b : c ∈ r.bend
    · have b' := (h.be c).mp b
      have hs := h.so fun z => by rw [z] at b; cases b
      have : k.st.all (fun x => decide (x ∈ r.soft)) = k.st.all (fun x => decide (x ∈ r'.soft)) := by
        congr 1
        funext x
        exact decide_eq_decide.mpr (hs x)
      rw [this]
      simp only [b, b', true_and]
    · have b' : ¬ c ∈ r'.bend := fun z => b ((h.be c).mpr z)
      simp only [b, b', false_and, if_false]
  unfold Ky.step
  simp only [e1, e2]
theorem same_run {r r' : RS} (h : SameR r r') : ∀ (t : Tx) (k : Ky), k.run r t = k.run r' t
  | [], k => rfl
  | c :: t, k => by
    unfold Ky.run
    rw [same_step h, same_run h t]
theorem same_alike {r r' : RS} (h : SameR r r') (t : Tx) : alikeT r r' t = true := by
  unfold alikeT
  rw [show kr r' t = kr r t from (same_run h t _).symm]
  cases (kr r t).1.fault <;> simp
end Qw

set_option Elab.async false
set_option linter.all false
set_option maxRecDepth 100000
set_option maxHeartbeats 4000000
namespace Qw
open PySem L2
/-! ### the part that a sign plays; short texts that unlike rules part -/
def rl (r : RS) (c : Nat) : Nat := if c ∈ r.breaks then 0 else if c ∈ r.note then 1 else if c ∈ r.hard then 2 else if c ∈ r.soft then 3 else if c ∈ r.bend then 4 else 5
theorem rl_cases (r : RS) (c : Nat) : (rl r c = 0 ∧ c ∈ r.breaks) ∨ (rl r c = 1 ∧ c ∉ r.breaks ∧ c ∈ r.note) ∨ (rl r c = 2 ∧ c ∉ r.breaks ∧ c ∉ r.note ∧ c ∈ r.hard) ∨ (rl r c = 3 ∧ c ∉ r.breaks ∧ c ∉ r.note ∧ c ∉ r.hard ∧ c ∈ r.soft) ∨
    (rl r c = 4 ∧ c ∉ r.breaks ∧ c ∉ r.note ∧ c ∉ r.hard ∧ c ∉ r.soft ∧ c ∈ r.bend) ∨ (rl r c = 5 ∧ c ∉ r.breaks ∧ c ∉ r.note ∧ c ∉ r.hard ∧ c ∉ r.soft ∧ c ∉ r.bend) := by
  unfold rl
  by_cases h0 : c ∈ r.breaks
  · simp [h0]
  by_cases h1 : c ∈ r.note
  · simp [h0, h1]
  by_cases h2 : c ∈ r.hard
  · simp [h0, h1, h2]
  by_cases h3 : c ∈ r.soft
  · simp [h0, h1, h2, h3]
  by_cases h4 : c ∈ r.bend
  · simp [h0, h1, h2, h3, h4]
  · simp [h0, h1, h2, h3, h4]
def rlStep (k : Ky) (c n : Nat) : Ky × List Mk1 := match n with
  | 0 => (⟨k.st, k.bent, true⟩, [])
  | 1 => (⟨NT, k.bent, true⟩, [])
  | 2 => (⟨[c], k.bent, false⟩, bgn k.wn)
  | 3 => (⟨[c], k.bent, false⟩, bgn k.wn)
  | 4 => (⟨k.st, true, false⟩, bgn k.wn)
  | _ => (⟨k.st, k.bent, false⟩, bgn k.wn ++ [some c])
theorem plain_rl (r : RS) (k : Ky) (c : Nat) : k.plain r c = rlStep k c (rl r c) := by
  unfold Ky.plain RS.quotes
  rcases rl_cases r c with ⟨e, h⟩ | ⟨e, h0, h⟩ | ⟨e, h0, h1, h⟩ | ⟨e, h0, h1, h2, h⟩ | ⟨e, h0, h1, h2, h3, h⟩ | ⟨e, h0, h1, h2, h3, h⟩ <;> rw [e] <;> simp [*, rlStep]
theorem zero_step (r : RS) (c : Nat) : Ky.zero.step r c = rlStep Ky.zero c (rl r c) := by
  unfold Ky.step
  rw [show Ky.zero.mid c = Ky.zero from rfl, if_neg (by decide), if_pos (show Ky.zero.st = [] from rfl), plain_rl]
theorem kr_one (r : RS) (c : Nat) : kr r [c] = rlStep Ky.zero c (rl r c) := by
  show ((Ky.zero.step r c).1, (Ky.zero.step r c).2 ++ []) = _
  rw [List.append_nil, zero_step]
theorem kr_cons (r : RS) (c : Nat) (t : Tx) : kr r (c :: t) = (((rlStep Ky.zero c (rl r c)).1.run r t).1, (rlStep Ky.zero c (rl r c)).2 ++ ((rlStep Ky.zero c (rl r c)).1.run r t).2) := by
  show (((Ky.zero.step r c).1.run r t).1, (Ky.zero.step r c).2 ++ ((Ky.zero.step r c).1.run r t).2) = _
  rw [zero_step]
theorem rl_lt (r : RS) (c : Nat) : rl r c ≤ 5 := by
  rcases rl_cases r c with ⟨e, _⟩ | ⟨e, _⟩ | ⟨e, _⟩ | ⟨e, _⟩ | ⟨e, _⟩ | ⟨e, _⟩ <;> omega
/-- one sign parts, but for a break against a note, a bend against a quote, two sorts of quotes -/
theorem part1 {r r' : RS} {c : Nat} (h : rl r c = 5 ∧ rl r' c ≠ 5 ∨ rl r c < 2 ∧ 2 ≤ rl r' c) : alikeT r r' [c] = false := by
  have l1 := rl_lt r c
  have l2 := rl_lt r' c
  unfold alikeT
  rw [kr_one, kr_one]
  generalize rl r c = m at *
  generalize rl r' c = n at *
  match m, l1, n, l2 with
  | 0, _, 0, _ | 0, _, 1, _ | 1, _, 0, _ | 1, _, 1, _ => exact absurd h (by omega)
  | 0, _, 2, _ | 0, _, 3, _ | 0, _, 4, _ | 0, _, 5, _ | 1, _, 2, _ | 1, _, 3, _ | 1, _, 4, _ | 1, _, 5, _ => simp [rlStep, Ky.zero, Ky.fault, bgn]
  | 2, _, _, _ | 3, _, _, _ | 4, _, _, _ => exact absurd h (by omega)
  | 5, _, 0, _ | 5, _, 1, _ | 5, _, 2, _ | 5, _, 3, _ | 5, _, 4, _ => simp [rlStep, Ky.zero, Ky.fault, bgn]
  | 5, _, 5, _ => exact absurd h (by omega)
  | m + 6, l, _, _ => exact absurd l (by omega)
  | 0, _, n + 6, l | 1, _, n + 6, l | 5, _, n + 6, l => exact absurd l (by omega)
/-- a break against a note: an ordinary sign behind -/
theorem part2 {r r' : RS} {c a : Nat} (h1 : rl r c = 0) (h2 : rl r' c = 1) (a1 : rl r a = 5) (a3 : a ≠ LE) : alikeT r r' [c, a] = false := by
  unfold alikeT
  rw [kr_cons, kr_cons, h1, h2]
  have e1 : ((rlStep Ky.zero c 0).1.run r [a]) = (⟨[], false, false⟩, [none, some a]) := by
    show ((Ky.zero.step r a).1, (Ky.zero.step r a).2 ++ []) = _
    rw [zero_step, a1]
    rfl
  have e2 : ((rlStep Ky.zero c 1).1.run r' [a]) = (⟨NT, false, true⟩, []) := by
    show (((⟨NT, false, true⟩ : Ky).step r' a).1, ((⟨NT, false, true⟩ : Ky).step r' a).2 ++ []) = _
    unfold Ky.step Ky.mid
    simp [a3]
  rw [e1, e2]
  simp [rlStep, Ky.fault, Ky.zero]
/-- a bend against a quote: the sign twice -/
theorem part3 {r r' : RS} {c : Nat} (h1 : rl r c = 4) (h2 : rl r' c = 2 ∨ rl r' c = 3) : alikeT r r' [c, c] = false := by
  unfold alikeT
  rw [kr_cons, kr_cons, h1]
  have e1 : ((rlStep Ky.zero c 4).1.run r [c]) = (⟨[], false, false⟩, [some c]) := by
    show (((⟨[], true, false⟩ : Ky).step r c).1, ((⟨[], true, false⟩ : Ky).step r c).2 ++ []) = _
    unfold Ky.step Ky.mid
    simp
  have e2 : ∀ n, n = 2 ∨ n = 3 → ((rlStep Ky.zero c n).1.run r' [c]) = (⟨[], false, false⟩, []) := fun n hn => by
    have : (rlStep Ky.zero c n).1 = ⟨[c], false, false⟩ := by rcases hn with rfl | rfl <;> rfl
    rw [this]
    show (((⟨[c], false, false⟩ : Ky).step r' c).1, ((⟨[c], false, false⟩ : Ky).step r' c).2 ++ []) = _
    unfold Ky.step Ky.mid
    simp [Ky.quoted]
  rw [e1, e2 _ h2]
  rcases h2 with h2 | h2 <;> rw [h2] <;> simp [rlStep, Ky.fault, Ky.zero, bgn]
/-- a hard quote against a soft one: the bend within -/
theorem part4 {r r' : RS} {c b : Nat} (h1 : rl r c = 2) (s1 : c ∉ r.soft) (h2 : rl r' c = 3) (b2 : b ∈ r'.bend) (n : b ≠ c) : alikeT r r' [c, b, c] = false := by
  unfold alikeT
  rw [kr_cons, kr_cons, h1, h2]
  have cs : c ∈ r'.soft := by
    rcases rl_cases r' c with ⟨e, h⟩ | ⟨e, h0, h⟩ | ⟨e, h0, h1, h⟩ | ⟨e, h0, h1, h2, h⟩ | ⟨e, h0, h1, h2, h3, h⟩ | ⟨e, h0, h1, h2, h3, h⟩ <;> first | exact h | (exfalso; omega)
  have e1 : ((rlStep Ky.zero c 2).1.run r [b, c]) = (⟨[], false, false⟩, [some b]) := by
    have q1 : (⟨[c], false, false⟩ : Ky).step r b = (⟨[c], false, false⟩, [some b]) := by
      unfold Ky.step Ky.mid
      simp [Ky.quoted, n, s1]
    have q2 : (⟨[c], false, false⟩ : Ky).step r c = (⟨[], false, false⟩, []) := by
      unfold Ky.step Ky.mid
      simp [Ky.quoted]
    show ((((⟨[c], false, false⟩ : Ky).step r b).1.run r [c]).1, ((⟨[c], false, false⟩ : Ky).step r b).2 ++ (((⟨[c], false, false⟩ : Ky).step r b).1.run r [c]).2) = _
    rw [q1]
    show (((⟨[c], false, false⟩ : Ky).step r c).1, [some b] ++ (((⟨[c], false, false⟩ : Ky).step r c).2 ++ [])) = _
    rw [q2]
    rfl
  have e2 : ((rlStep Ky.zero c 3).1.run r' [b, c]) = (⟨[c], false, false⟩, [some c]) := by
    have q1 : (⟨[c], false, false⟩ : Ky).step r' b = (⟨[c], true, false⟩, []) := by
      unfold Ky.step Ky.mid
      simp [Ky.quoted, n, cs, b2]
    have q2 : (⟨[c], true, false⟩ : Ky).step r' c = (⟨[c], false, false⟩, [some c]) := by
      unfold Ky.step Ky.mid
      simp
    show ((((⟨[c], false, false⟩ : Ky).step r' b).1.run r' [c]).1, ((⟨[c], false, false⟩ : Ky).step r' b).2 ++ (((⟨[c], false, false⟩ : Ky).step r' b).1.run r' [c]).2) = _
    rw [q1]
    show (((⟨[c], true, false⟩ : Ky).step r' c).1, [] ++ (((⟨[c], true, false⟩ : Ky).step r' c).2 ++ [])) = _
    rw [q2]
    rfl
  rw [e1, e2]
  simp [Ky.fault]
end Qw

set_option Elab.async false
set_option linter.all false
set_option maxRecDepth 100000
set_option maxHeartbeats 4000000
namespace Qw
open PySem L2
/-! ### unlike rules are parted by a text of three signs or less -/
theorem rl_iff {r : RS} (ok : r.Ok) (c : Nat) : (c ∈ r.breaks ↔ rl r c = 0) ∧ (c ∈ r.note ↔ rl r c = 1) ∧ (c ∈ r.hard ↔ rl r c = 2) ∧ (c ∈ r.soft ↔ rl r c = 3) ∧ (c ∈ r.bend ↔ rl r c = 4) := by
  have nd := ok.nd
  simp only [RS.every, List.nodup_append, List.mem_append] at nd
  have d : ∀ {x y : Tx}, (∀ a ∈ x, ∀ b ∈ y, a ≠ b) → c ∈ x → c ∉ y := fun h hx hy => h c hx c hy rfl
  have key : (c ∈ r.breaks → c ∉ r.hard ∧ c ∉ r.soft ∧ c ∉ r.bend ∧ c ∉ r.note) ∧ (c ∈ r.hard → c ∉ r.soft ∧ c ∉ r.bend ∧ c ∉ r.note) ∧ (c ∈ r.soft → c ∉ r.bend ∧ c ∉ r.note) ∧ (c ∈ r.bend → c ∉ r.note) := by
    refine ⟨fun h => ⟨fun z => ?_, fun z => ?_, fun z => ?_, fun z => ?_⟩, fun h => ⟨fun z => ?_, fun z => ?_, fun z => ?_⟩, fun h => ⟨fun z => ?_, fun z => ?_⟩, fun h z => ?_⟩ <;>
    · have nd2 := ok.nd
      rw [RS.every] at nd2
      simp only [List.nodup_append] at nd2
      simp only [List.mem_append] at nd2
      grind
  obtain ⟨k1, k2, k3, k4⟩ := key
  rcases rl_cases r c with ⟨e, h⟩ | ⟨e, h0, h⟩ | ⟨e, h0, h1, h⟩ | ⟨e, h0, h1, h2, h⟩ | ⟨e, h0, h1, h2, h3, h⟩ | ⟨e, h0, h1, h2, h3, h⟩ <;> rw [e]
  · have := k1 h; simp [h, this]
  · refine ⟨by simp [h0], by simp [h], ?_, ?_, ?_⟩
    · exact iff_of_false (fun z => (k2 z).2.2 h) (by decide)
    · exact iff_of_false (fun z => (k3 z).2 h) (by decide)
    · exact iff_of_false (fun z => k4 z h) (by decide)
  · have := k2 h; simp [h0, h1, h, this]
  · have := k3 h; simp [h0, h1, h2, h, this]
  · simp [h0, h1, h2, h3, h]
  · simp [h0, h1, h2, h3, h]
/-- the signs of a sort: the same parts in both rules, the line's end or not -/
abbrev cls (r r' : RS) (c : Nat) : Nat × Nat × Bool := (rl r c, rl r' c, decide (c = LE))
/-- what parts unlike rules -/
inductive Unl (r r' : RS) : Prop
  | one (c : Nat) (h : rl r c ≠ rl r' c) (n : ¬ ((rl r c = 2 ∨ rl r c = 3) ∧ (rl r' c = 2 ∨ rl r' c = 3)))
  | two (c b : Nat) (h : rl r b = 4) (h' : rl r' b = 4) (e : rl r c = 2 ∧ rl r' c = 3 ∨ rl r c = 3 ∧ rl r' c = 2)
theorem unl_of {r r' : RS} (ok : r.Ok) (ok' : r'.Ok) (n : ¬ SameR r r') : Unl r r' := by
  refine Classical.byContradiction fun u => n ?_
  have one : ∀ c, rl r c = rl r' c ∨ ((rl r c = 2 ∨ rl r c = 3) ∧ (rl r' c = 2 ∨ rl r' c = 3)) := fun c => Classical.byContradiction fun z => u (.one c (fun e => z (.inl e)) fun e => z (.inr e))
  have i1 := fun c => rl_iff ok c
  have i2 := fun c => rl_iff ok' c
  refine ⟨fun c => ?_, fun c => ?_, fun c => ?_, fun c => ?_, fun hb c => ?_⟩
  · rw [(i1 c).1, (i2 c).1]; have := one c; omega
  · rw [(i1 c).2.1, (i2 c).2.1]; have := one c; omega
  · rw [(i1 c).2.2.2.2, (i2 c).2.2.2.2]; have := one c; omega
  · rw [RS.quotes, RS.quotes, List.mem_append, List.mem_append, (i1 c).2.2.1, (i2 c).2.2.1, (i1 c).2.2.2.1, (i2 c).2.2.2.1]; have := one c; omega
  · obtain ⟨b, hb⟩ := List.exists_mem_of_ne_nil _ hb
    have e1 := (i1 b).2.2.2.2.mp hb
    have e2 : rl r' b = 4 := by have := one b; omega
    rw [(i1 c).2.2.2.1, (i2 c).2.2.2.1]
    have no : ¬ (rl r c = 2 ∧ rl r' c = 3 ∨ rl r c = 3 ∧ rl r' c = 2) := fun e => u (.two c b e1 e2 e)
    have := one c
    omega
/-- a text of three signs or less, of signs of a list that has signs of each sort -/
theorem short_of {r r' : RS} (ok : r.Ok) (ok' : r'.Ok) (u : Unl r r') {A : Tx} {a : Nat} (ha : rl r a = 5 ∧ rl r' a = 5 ∧ a ≠ LE) (hA : ∀ c, (rl r c ≠ 5 ∨ rl r' c ≠ 5 ∨ c = a) → ∃ c' ∈ A, cls r r' c' = cls r r' c) :
    ∃ t : Tx, (∀ c ∈ t, c ∈ A) ∧ t.length ≤ 3 ∧ alikeT r r' t = false := by
  obtain ⟨a', ma, ea⟩ := hA a (.inr (.inr rfl))
  simp only [cls, Prod.mk.injEq, decide_eq_decide] at ea
  obtain ⟨ea1, ea2, ea3⟩ := ea
  rw [ha.1] at ea1
  rw [ha.2.1] at ea2
  have ea3 : a' ≠ LE := fun z => ha.2.2 (ea3.mp z)
  have hs : ∀ c, rl r c = 2 → c ∉ r.soft := fun c e z => by have := (rl_iff ok c).2.2.2.1.mp z; omega
  have hs' : ∀ c, rl r' c = 2 → c ∉ r'.soft := fun c e z => by have := (rl_iff ok' c).2.2.2.1.mp z; omega
  cases u with
  | one c h n =>
    obtain ⟨d, md, ed⟩ := hA c (by omega)
    simp only [cls, Prod.mk.injEq] at ed
    obtain ⟨d1, d2, _⟩ := ed
    rw [← d1, ← d2] at h n
    have l1 := rl_lt r d
    have l2 := rl_lt r' d
    by_cases c1 : rl r d = 5 ∧ rl r' d ≠ 5 ∨ rl r d < 2 ∧ 2 ≤ rl r' d
    · exact ⟨[d], by simpa using md, by simp, part1 c1⟩
    by_cases c2 : rl r' d = 5 ∧ rl r d ≠ 5 ∨ rl r' d < 2 ∧ 2 ≤ rl r d
    · exact ⟨[d], by simpa using md, by simp, by rw [alike_comm]; exact part1 c2⟩
    by_cases c3 : rl r d = 0 ∧ rl r' d = 1
    · exact ⟨[d, a'], by simp [md, ma], by simp, part2 c3.1 c3.2 ea1 ea3⟩
    by_cases c4 : rl r d = 1 ∧ rl r' d = 0
    · exact ⟨[d, a'], by simp [md, ma], by simp, by rw [alike_comm]; exact part2 c4.2 c4.1 ea2 ea3⟩
    by_cases c5 : rl r d = 4
    · exact ⟨[d, d], by simp [md], by simp, part3 c5 (by omega)⟩
    · exact ⟨[d, d], by simp [md], by simp, by rw [alike_comm]; exact part3 (by omega) (by omega)⟩
  | two c b hb hb' e =>
    obtain ⟨d, md, ed⟩ := hA c (by omega)
    obtain ⟨q, mq, eq⟩ := hA b (by omega)
    simp only [cls, Prod.mk.injEq] at ed eq
    obtain ⟨d1, d2, _⟩ := ed
    obtain ⟨q1, q2, _⟩ := eq
    rw [hb] at q1
    rw [hb'] at q2
    rw [← d1, ← d2] at e
    have nqd : q ≠ d := fun z => by rw [z] at q1; omega
    rcases e with ⟨e1, e2⟩ | ⟨e1, e2⟩
    · exact ⟨[d, q, d], by simp [md, mq], by simp, part4 e1 (hs d e1) e2 ((rl_iff ok' q).2.2.2.2.mpr q2) nqd⟩
    · exact ⟨[d, q, d], by simp [md, mq], by simp, by rw [alike_comm]; exact part4 e2 (hs' d e2) e1 ((rl_iff ok q).2.2.2.2.mpr q1) nqd⟩
end Qw

set_option Elab.async false
set_option linter.all false
set_option maxRecDepth 100000
set_option maxHeartbeats 4000000
namespace Qw
open PySem L2
/-! ### other signs of the same parts -/
structure Ren (r : RS) (φ : Nat → Nat) (D : Tx) : Prop where
  pt : ∀ c ∈ D, rl r (φ c) = rl r c
  le : ∀ c ∈ D, φ c = LE ↔ c = LE
  inj : ∀ c ∈ D, ∀ d ∈ D, φ c = φ d → c = d
def mapS (φ : Nat → Nat) : Tx → Tx
  | [q] => [φ q]
  | s => s
def mapK (φ : Nat → Nat) (k : Ky) : Ky := ⟨mapS φ k.st, k.bent, k.wn⟩
/-- a state over signs of D -/
def StD (D : Tx) (st : Tx) : Prop := st = [] ∨ st = NT ∨ ∃ q ∈ D, st = [q]
theorem bgn_map (φ : Nat → Nat) (b : Bool) : (bgn b).map (Option.map φ) = bgn b := by cases b <;> rfl
theorem ren_step {r : RS} (ok : r.Ok) {φ : Nat → Nat} {D : Tx} (R : Ren r φ D) {k : Ky} (hk : StD D k.st) {c : Nat} (hc : c ∈ D) :
    (mapK φ k).step r (φ c) = (mapK φ (k.step r c).1, (k.step r c).2.map (Option.map φ)) ∧ StD D (k.step r c).1.st := by
  have pl : ∀ (b wn : Bool), b = false → (⟨[], b, wn⟩ : Ky).plain r (φ c) = (mapK φ ((⟨[], b, wn⟩ : Ky).plain r c).1, (((⟨[], b, wn⟩ : Ky).plain r c).2).map (Option.map φ)) ∧ StD D ((⟨[], b, wn⟩ : Ky).plain r c).1.st := by
    rintro b wn rfl
    rw [plain_rl, plain_rl, R.pt c hc]
    have l := rl_lt r c
    generalize rl r c = m at *
    match m, l with
    | 0, _ => exact ⟨rfl, .inl rfl⟩
    | 1, _ => exact ⟨rfl, .inr (.inl rfl)⟩
    | 2, _ => exact ⟨by simp [rlStep, mapK, mapS, bgn_map], .inr (.inr ⟨c, hc, rfl⟩)⟩
    | 3, _ => exact ⟨by simp [rlStep, mapK, mapS, bgn_map], .inr (.inr ⟨c, hc, rfl⟩)⟩
    | 4, _ => exact ⟨by simp [rlStep, mapK, mapS, bgn_map], .inl rfl⟩
    | 5, _ => exact ⟨by simp [rlStep, mapK, mapS, bgn_map], .inl rfl⟩
    | n + 6, l => exact absurd l (by omega)
  obtain ⟨st, b, wn⟩ := k
  rcases hk with hk | hk | ⟨q, hq, hk⟩ <;> (dsimp only at hk; subst hk)
  · unfold Ky.step Ky.mid
    cases b with
    | true => simp [mapK, mapS, StD]
    | false =>
      have := pl false wn rfl
      simpa [mapK, mapS] using this
  · have ntm : mapS φ NT = NT := rfl
    unfold Ky.step Ky.mid
    by_cases e : c = LE
    · have e' : φ c = LE := (R.le c hc).mpr e
      subst e
      cases b with
      | true => simp [mapK, ntm, e', StD, mapS]
      | false =>
        have := pl false wn rfl
        rw [e'] at this
        simpa [mapK, ntm, e', mapS] using this
    · have e' : ¬ φ c = LE := fun z => e ((R.le c hc).mp z)
      cases b with
      | true => simp [mapK, ntm, e, e', StD]
      | false => simp [mapK, ntm, e, e', StD]
  · have n1 : ¬ ([q] : Tx) = NT := fun z => by have := congrArg List.length z; simp at this
    have n2 : ¬ ([φ q] : Tx) = NT := fun z => by have := congrArg List.length z; simp at this
    unfold Ky.step Ky.mid
    cases b with
    | true => simp [mapK, mapS, n1, n2, StD, hq]
    | false =>
      have i1 : (φ c = φ q) ↔ c = q := ⟨R.inj c hc q hq, fun z => by rw [z]⟩
      have i2 : (φ c ∈ r.bend) ↔ c ∈ r.bend := by rw [(rl_iff ok _).2.2.2.2, (rl_iff ok _).2.2.2.2, R.pt c hc]
      have i3 : (φ q ∈ r.soft) ↔ q ∈ r.soft := by rw [(rl_iff ok _).2.2.2.1, (rl_iff ok _).2.2.2.1, R.pt q hq]
      by_cases c1 : c = q
      · simp [mapK, mapS, n1, n2, Ky.quoted, c1, StD]
      · by_cases c2 : c ∈ r.bend ∧ q ∈ r.soft
        · simp [mapK, mapS, n1, n2, Ky.quoted, i1, i2, i3, c1, c2, StD, hq]
        · simp only [mapK, mapS, n1, n2, Ky.quoted]
          simp [i1, i2, i3, c1, c2, StD, hq, mapS]
theorem ren_run {r : RS} (ok : r.Ok) {φ : Nat → Nat} {D : Tx} (R : Ren r φ D) : ∀ (t : Tx) {k : Ky}, (∀ c ∈ t, c ∈ D) → StD D k.st → (mapK φ k).run r (t.map φ) = (mapK φ (k.run r t).1, (k.run r t).2.map (Option.map φ))
  | [], k, _, _ => rfl
  | c :: t, k, hD, hk => by
    obtain ⟨h1, h2⟩ := ren_step ok R hk (hD c (.head _))
    have ih := ren_run ok R t (fun d hd => hD d (.tail _ hd)) h2
    show ((((mapK φ k).step r (φ c)).1.run r (t.map φ)).1, ((mapK φ k).step r (φ c)).2 ++ (((mapK φ k).step r (φ c)).1.run r (t.map φ)).2) = _
    rw [h1]
    dsimp only
    rw [ih, ← List.map_append]
    rfl
theorem step_mem {r : RS} (k : Ky) (c : Nat) : ∀ x, some x ∈ (k.step r c).2 → x = c := by
  have b0 : ∀ (b : Bool) x, some x ∉ bgn b := fun b x => by cases b <;> simp [bgn]
  intro x hx
  unfold Ky.step at hx
  generalize k.mid c = m at hx
  dsimp only at hx
  split at hx
  · simpa using hx
  · split at hx
    · rw [plain_rl] at hx
      have l := rl_lt r c
      generalize rl r c = n at *
      match n, l with
      | 0, _ | 1, _ => simp [rlStep] at hx
      | 2, _ | 3, _ | 4, _ => exact absurd hx (b0 _ _)
      | 5, _ => simpa [rlStep, b0] using hx
      | n + 6, l => exact absurd l (by omega)
    · split at hx
      · simp at hx
      · unfold Ky.quoted at hx
        split at hx
        · simp at hx
        · split at hx
          · simp at hx
          · simpa using hx
theorem run_mem {r : RS} : ∀ (t : Tx) (k : Ky) (x : Nat), some x ∈ (k.run r t).2 → x ∈ t
  | [], k, x, h => by simp [Ky.run] at h
  | c :: t, k, x, h => by
    have h : some x ∈ (k.step r c).2 ++ ((k.step r c).1.run r t).2 := h
    rcases List.mem_append.mp h with h | h
    · rw [step_mem k c x h]; exact .head _
    · exact .tail _ (run_mem t _ x h)
theorem map_inj_on {φ : Nat → Nat} {D : Tx} (inj : ∀ c ∈ D, ∀ d ∈ D, φ c = φ d → c = d) : ∀ {a b : List Mk1}, (∀ x, some x ∈ a → x ∈ D) → (∀ x, some x ∈ b → x ∈ D) → a.map (Option.map φ) = b.map (Option.map φ) → a = b
  | [], [], _, _, _ => rfl
  | [], _ :: _, _, _, e => by simp at e
  | _ :: _, [], _, _, e => by simp at e
  | x :: a, y :: b, ha, hb, e => by
    simp only [List.map_cons, List.cons.injEq] at e
    have ih := map_inj_on inj (fun z hz => ha z (.tail _ hz)) (fun z hz => hb z (.tail _ hz)) e.2
    rw [ih]
    congr 1
    cases x with
    | none => cases y with
      | none => rfl
      | some y => simp at e
    | some x => cases y with
      | none => simp at e
      | some y =>
        simp only [Option.map_some, Option.some.injEq] at e
        rw [inj x (ha x (.head _)) y (hb y (.head _)) e.1]
theorem fault_map (φ : Nat → Nat) {D : Tx} {k : Ky} (h : StD D k.st) : (mapK φ k).fault = k.fault := by
  obtain ⟨st, b, wn⟩ := k
  rcases h with h | h | ⟨q, _, h⟩ <;> (dsimp only at h; subst h)
  · rfl
  · rfl
  · simp [Ky.fault, mapK, mapS]
theorem run_std {r : RS} (ok : r.Ok) {D : Tx} : ∀ (t : Tx) {k : Ky}, (∀ c ∈ t, c ∈ D) → StD D k.st → StD D (k.run r t).1.st
  | [], k, _, h => h
  | c :: t, k, hD, h => run_std ok t (fun d hd => hD d (.tail _ hd)) (ren_step ok (φ := id) ⟨fun _ _ => rfl, fun _ _ => Iff.rfl, fun _ _ _ _ e => e⟩ h (hD c (.head _))).2
theorem alike_ren {r r' : RS} (ok : r.Ok) (ok' : r'.Ok) {φ : Nat → Nat} {t : Tx} (R : Ren r φ t) (R' : Ren r' φ t) : alikeT r r' (t.map φ) = alikeT r r' t := by
  have z : StD t Ky.zero.st := .inl rfl
  have e1 : kr r (t.map φ) = _ := ren_run ok R t (k := Ky.zero) (fun c h => h) z
  have e2 : kr r' (t.map φ) = _ := ren_run ok' R' t (k := Ky.zero) (fun c h => h) z
  unfold alikeT
  rw [e1, e2]
  dsimp only
  rw [fault_map φ (run_std ok t (fun c h => h) z), fault_map φ (run_std ok' t (fun c h => h) z)]
  congr 1
  congr 1
  refine decide_eq_decide.mpr ⟨fun e => ?_, fun e => by rw [e]⟩
  exact map_inj_on R.inj (fun x => run_mem t _ x) (fun x => run_mem t _ x) e
/-- a short text over all signs, told by signs of a list that has two signs of each sort -/
theorem small_rep {r r' : RS} (ok : r.Ok) (ok' : r'.Ok) {E A : Tx} (h1 : ∀ c ∈ E, ∃ c' ∈ A, cls r r' c' = cls r r' c) (h2 : ∀ c ∈ E, ∀ d ∈ E, c ≠ d → cls r r' c = cls r r' d → ∃ c' ∈ A, ∃ d' ∈ A, c' ≠ d' ∧ cls r r' c' = cls r r' c ∧ cls r r' d' = cls r r' d) :
    ∀ t : Tx, t.length ≤ 2 → (∀ c ∈ t, c ∈ E) → alikeT r r' t = false → ∃ t' : Tx, t'.length = t.length ∧ (∀ c ∈ t', c ∈ A) ∧ alikeT r r' t' = false := by
  have ren : ∀ {φ : Nat → Nat} {t : Tx}, (∀ c ∈ t, φ c ∈ A ∧ cls r r' (φ c) = cls r r' c) → (∀ c ∈ t, ∀ d ∈ t, φ c = φ d → c = d) → alikeT r r' t = false → ∃ t' : Tx, t'.length = t.length ∧ (∀ c ∈ t', c ∈ A) ∧ alikeT r r' t' = false := fun {φ t} h inj e => by
    have hc : ∀ c ∈ t, rl r (φ c) = rl r c ∧ rl r' (φ c) = rl r' c ∧ (φ c = LE ↔ c = LE) := fun c m => by
      have := (h c m).2
      simpa only [cls, Prod.mk.injEq, decide_eq_decide] using this
    refine ⟨t.map φ, List.length_map _, fun c m => ?_, ?_⟩
    · obtain ⟨d, hd, rfl⟩ := List.mem_map.mp m
      exact (h d hd).1
    · rw [alike_ren ok ok' ⟨fun c m => (hc c m).1, fun c m => (hc c m).2.2, inj⟩ ⟨fun c m => (hc c m).2.1, fun c m => (hc c m).2.2, inj⟩]
      exact e
  intro t hl hE e
  match t, hl, hE, e with
  | [], _, _, e => exact absurd e (by simp [alikeT, Ky.run, Ky.zero, Ky.fault])
  | [c], _, hE, e =>
    obtain ⟨c', m, ec⟩ := h1 c (hE c (.head _))
    refine ren (φ := fun _ => c') (fun d hd => ?_) (fun d hd d' hd' _ => ?_) e
    · rw [List.mem_singleton.mp hd]; exact ⟨m, ec⟩
    · rw [List.mem_singleton.mp hd, List.mem_singleton.mp hd']
  | [c, d], _, hE, e =>
    have mc := hE c (.head _)
    have md := hE d (.tail _ (.head _))
    by_cases cd : c = d
    · subst cd
      obtain ⟨c', m, ec⟩ := h1 c mc
      refine ren (φ := fun _ => c') (fun d hd => ?_) (fun d hd d' hd' _ => ?_) e
      · have : d = c := by simpa using hd
        rw [this]; exact ⟨m, ec⟩
      · have a1 : d = c := by simpa using hd
        have a2 : d' = c := by simpa using hd'
        rw [a1, a2]
    · obtain ⟨c', m1, d', m2, ne, ec, ed⟩ : ∃ c' ∈ A, ∃ d' ∈ A, c' ≠ d' ∧ cls r r' c' = cls r r' c ∧ cls r r' d' = cls r r' d := by
        by_cases q : cls r r' c = cls r r' d
        · obtain ⟨c', m1, d', m2, h⟩ := h2 c mc d md cd q
          exact ⟨c', m1, d', m2, h⟩
        · obtain ⟨c', m1, e1⟩ := h1 c mc
          obtain ⟨d', m2, e2⟩ := h1 d md
          exact ⟨c', m1, d', m2, fun z => q (by rw [← e1, ← e2, z]), e1, e2⟩
      refine ren (φ := fun x => if x = c then c' else d') (fun x hx => ?_) (fun x hx y hy exy => ?_) e
      · have hx : x = c ∨ x = d := by simpa using hx
        rcases hx with rfl | rfl
        · rw [if_pos rfl]; exact ⟨m1, ec⟩
        · rw [if_neg (Ne.symm cd)]; exact ⟨m2, ed⟩
      · have hx : x = c ∨ x = d := by simpa using hx
        have hy : y = c ∨ y = d := by simpa using hy
        rcases hx with rfl | rfl <;> rcases hy with rfl | rfl
        · rfl
        · rw [if_pos rfl, if_neg (Ne.symm cd)] at exy; exact absurd exy ne
        · rw [if_pos rfl, if_neg (Ne.symm cd)] at exy; exact absurd exy.symm ne
        · rfl
  | _ :: _ :: _ :: _, hl, _, _ => exact absurd hl (by simp)
end Qw

set_option Elab.async false
set_option linter.all false
set_option maxRecDepth 100000
set_option maxHeartbeats 4000000
namespace Qw
open PySem L2
/-! ### texts gone through level by level, each node once -/
section
variable {N : Type} [DecidableEq N] (node : Tx → N) (A : Tx) (p : Tx → Bool)
def exp1 (t : Tx) (sm : List N × List Tx) (c : Nat) : List N × List Tx := if node (t ++ [c]) ∈ sm.1 then sm else (sm.1 ++ [node (t ++ [c])], sm.2 ++ [t ++ [c]])
def expT (sm : List N × List Tx) (t : Tx) : List N × List Tx := A.foldl (exp1 node t) sm
def level (seen : List N) (turn : List Tx) : List N × List Tx := turn.foldl (expT node A) (seen, [])
/-- with so many levels at most: none: not enough; some none: no text is parted; some t: the first parted one -/
def bfs : Nat → List N → List Tx → Option (Option Tx)
  | 0, _, _ => none
  | n + 1, seen, turn => if turn = [] then some none else match turn.find? p with
    | some t => some (some t)
    | none => bfs n (level node A seen turn).1 (level node A seen turn).2
variable {node A p}
def OverA (A : Tx) (t : Tx) : Prop := ∀ c ∈ t, c ∈ A
theorem OverA.snoc {t : Tx} {c : Nat} (h : OverA A t) (m : c ∈ A) : OverA A (t ++ [c]) := fun d hd => by
  rcases List.mem_append.mp hd with z | z
  · exact h d z
  · rw [List.mem_singleton.mp z]; exact m
/-- what stands within a level: its texts have i signs -/
structure LvI (node : Tx → N) (A : Tx) (i : Nat) (sm : List N × List Tx) : Prop where
  s : ∀ n ∈ sm.1, ∃ v, OverA A v ∧ node v = n ∧ (v.length ≤ i ∨ v ∈ sm.2)
  m : ∀ x ∈ sm.2, OverA A x ∧ x.length = i + 1
theorem lv_exp1 {i : Nat} {sm : List N × List Tx} (I : LvI node A i sm) {t : Tx} (ht : OverA A t) (hl : t.length = i) {c : Nat} (hc : c ∈ A) :
    LvI node A i (exp1 node t sm c) ∧ (∀ n ∈ sm.1, n ∈ (exp1 node t sm c).1) ∧ (∀ x ∈ sm.2, x ∈ (exp1 node t sm c).2) ∧ node (t ++ [c]) ∈ (exp1 node t sm c).1 := by
  unfold exp1
  by_cases h : node (t ++ [c]) ∈ sm.1
  · rw [if_pos h]
    exact ⟨I, fun _ z => z, fun _ z => z, h⟩
  · rw [if_neg h]
    refine ⟨⟨fun n hn => ?_, fun x hx => ?_⟩, fun n z => List.mem_append_left _ z, fun x z => List.mem_append_left _ z, List.mem_append_right _ (.head _)⟩
    · rcases List.mem_append.mp hn with z | z
      · obtain ⟨v, a1, a2, a3⟩ := I.s n z
        exact ⟨v, a1, a2, a3.imp id fun q => List.mem_append_left _ q⟩
      · exact ⟨t ++ [c], ht.snoc hc, (List.mem_singleton.mp z).symm, .inr (List.mem_append_right _ (.head _))⟩
    · rcases List.mem_append.mp hx with z | z
      · exact I.m x z
      · rw [List.mem_singleton.mp z]
        exact ⟨ht.snoc hc, by simp [hl]⟩
theorem lv_fold1 {i : Nat} {t : Tx} (ht : OverA A t) (hl : t.length = i) : ∀ (cs : Tx) (sm : List N × List Tx), (∀ c ∈ cs, c ∈ A) → LvI node A i sm →
    LvI node A i (cs.foldl (exp1 node t) sm) ∧ (∀ n ∈ sm.1, n ∈ (cs.foldl (exp1 node t) sm).1) ∧ (∀ x ∈ sm.2, x ∈ (cs.foldl (exp1 node t) sm).2) ∧ ∀ c ∈ cs, node (t ++ [c]) ∈ (cs.foldl (exp1 node t) sm).1
  | [], sm, _, I => ⟨I, fun _ z => z, fun _ z => z, fun _ z => nomatch z⟩
  | c :: cs, sm, hA, I => by
    obtain ⟨I1, a1, a2, a3⟩ := lv_exp1 I ht hl (hA c (.head _))
    obtain ⟨I2, b1, b2, b3⟩ := lv_fold1 ht hl cs (exp1 node t sm c) (fun d hd => hA d (.tail _ hd)) I1
    refine ⟨I2, fun n z => b1 n (a1 n z), fun x z => b2 x (a2 x z), fun d hd => ?_⟩
    rcases List.mem_cons.mp hd with rfl | z
    · exact b1 _ a3
    · exact b3 d z
theorem lv_fold {i : Nat} : ∀ (ts : List Tx) (sm : List N × List Tx), (∀ t ∈ ts, OverA A t ∧ t.length = i) → LvI node A i sm →
    LvI node A i (ts.foldl (expT node A) sm) ∧ (∀ n ∈ sm.1, n ∈ (ts.foldl (expT node A) sm).1) ∧ (∀ x ∈ sm.2, x ∈ (ts.foldl (expT node A) sm).2) ∧ ∀ t ∈ ts, ∀ c ∈ A, node (t ++ [c]) ∈ (ts.foldl (expT node A) sm).1
  | [], sm, _, I => ⟨I, fun _ z => z, fun _ z => z, fun _ z => nomatch z⟩
  | t :: ts, sm, hT, I => by
    obtain ⟨I1, a1, a2, a3⟩ := lv_fold1 (hT t (.head _)).1 (hT t (.head _)).2 A sm (fun _ z => z) I
    obtain ⟨I2, b1, b2, b3⟩ := lv_fold ts (expT node A sm t) (fun d hd => hT d (.tail _ hd)) I1
    refine ⟨I2, fun n z => b1 n (a1 n z), fun x z => b2 x (a2 x z), fun d hd c hc => ?_⟩
    rcases List.mem_cons.mp hd with rfl | z
    · exact b1 _ (a3 c hc)
    · exact b3 d z c hc
/-- a shortest parted text is found: L its length -/
theorem bfs_min {L : Nat} (cong : ∀ u v w : Tx, OverA A u → OverA A v → OverA A w → u.length ≤ L → v.length ≤ L → u.length + w.length ≤ L → node u = node v → p (u ++ w) = p (v ++ w))
    (mini : ∀ t, OverA A t → t.length < L → p t = false) :
    ∀ (j i : Nat) (n : Nat) (seen : List N) (turn : List Tx) (v s : Tx), i + j = L → j < n → (∀ q ∈ seen, ∃ v, OverA A v ∧ node v = q ∧ v.length ≤ i) → (∀ t ∈ turn, OverA A t ∧ t.length = i) → v ∈ turn → OverA A s → s.length = j → p (v ++ s) = true →
      ∃ t, bfs node A p n seen turn = some (some t) ∧ OverA A t ∧ t.length = L ∧ p t = true
  | 0, i, n, seen, turn, v, s, hij, hn, hS, hT, hv, hs, hsl, hp => by
    obtain ⟨n, rfl⟩ : ∃ k, n = k + 1 := ⟨n - 1, by omega⟩
    have s0 : s = [] := List.length_eq_zero_iff.mp hsl
    subst s0
    rw [List.append_nil] at hp
    unfold bfs
    rw [if_neg (fun z => by rw [z] at hv; cases hv)]
    cases e : turn.find? p with
    | none => exact absurd (List.find?_eq_none.mp e v hv) (by simp [hp])
    | some t =>
      have := List.mem_of_find?_eq_some e
      exact ⟨t, rfl, (hT t this).1, by rw [(hT t this).2]; omega, List.find?_some e⟩
  | j + 1, i, n, seen, turn, v, s, hij, hn, hS, hT, hv, hs, hsl, hp => by
    obtain ⟨n, rfl⟩ : ∃ k, n = k + 1 := ⟨n - 1, by omega⟩
    obtain ⟨c, s, rfl⟩ : ∃ c s', s = c :: s' := by
      cases s with
      | nil => simp at hsl
      | cons c s => exact ⟨c, s, rfl⟩
    unfold bfs
    rw [if_neg (fun z => by rw [z] at hv; cases hv)]
    have nf : turn.find? p = none := List.find?_eq_none.mpr fun t ht => by
      rw [mini t (hT t ht).1 (by rw [(hT t ht).2]; omega)]
      decide
    rw [nf]
    dsimp only
    obtain ⟨I, _, _, h3⟩ := lv_fold (node := node) (A := A) turn (seen, []) hT ⟨fun q hq => (hS q hq).imp fun v z => ⟨z.1, z.2.1, .inl z.2.2⟩, fun _ z => nomatch z⟩
    have mem := h3 v hv c (hs c (.head _))
    obtain ⟨v', w1, w2, w3⟩ := I.s _ mem
    have vO := (hT v hv).1
    have vl := (hT v hv).2
    have cA := hs c (.head _)
    have sO : OverA A s := fun d hd => hs d (.tail _ hd)
    have sl : s.length = j := by simpa using hsl
    have le' : v'.length ≤ i + 1 := w3.elim (fun z => by omega) fun z => by rw [(I.m v' z).2]; exact Nat.le_refl _
    have pe : p (v' ++ s) = true := by
      rw [cong v' (v ++ [c]) s w1 (vO.snoc cA) sO (by omega) (by simp [vl]; omega) (by omega) w2, List.append_assoc]
      exact hp
    have l1 : ¬ v'.length ≤ i := fun z => by
      have := mini (v' ++ s) (fun d hd => (List.mem_append.mp hd).elim (w1 d) (sO d)) (by simp [sl]; omega)
      rw [pe] at this; cases this
    have vm : v' ∈ (level node A seen turn).2 := w3.resolve_left l1
    exact bfs_min cong mini j (i + 1) n _ _ v' s (by omega) (by omega) (fun q hq => by
      obtain ⟨u, b1, b2, b3⟩ := I.s q hq
      exact ⟨u, b1, b2, b3.elim (fun z => by omega) fun z => by rw [(I.m u z).2]; exact Nat.le_refl _⟩) (fun t ht => I.m t ht) vm sO sl pe
/-! ### no text is parted: it ends -/
theorem le_of_sub {α : Type} [DecidableEq α] : ∀ {l m : List α}, l.Nodup → (∀ x ∈ l, x ∈ m) → l.length ≤ m.length
  | [], m, _, _ => Nat.zero_le _
  | x :: l, m, nd, h => by
    have hx := h x (.head _)
    have nd' := List.nodup_cons.mp nd
    have := le_of_sub (m := m.erase x) nd'.2 fun y hy => (List.mem_erase_of_ne (fun z : y = x => nd'.1 (by rw [← z]; exact hy))).mpr (h y (.tail _ hy))
    rw [List.length_erase_of_mem hx] at this
    have pos : 0 < m.length := List.length_pos_of_mem hx
    simp only [List.length_cons]
    omega
theorem nd_exp1 {sm : List N × List Tx} {k : Nat} (h : sm.1.Nodup ∧ sm.1.length = k + sm.2.length) (t : Tx) (c : Nat) : (exp1 node t sm c).1.Nodup ∧ (exp1 node t sm c).1.length = k + (exp1 node t sm c).2.length := by
  unfold exp1
  by_cases e : node (t ++ [c]) ∈ sm.1
  · rw [if_pos e]; exact h
  · rw [if_neg e]
    refine ⟨?_, by simp only [List.length_append, List.length_cons, List.length_nil]; omega⟩
    rw [List.nodup_append]
    exact ⟨h.1, by simp, fun a ha b hb z => e (by rw [← List.mem_singleton.mp hb, ← z]; exact ha)⟩
theorem nd_level (seen : List N) (h : seen.Nodup) : ∀ (turn : List Tx), (level node A seen turn).1.Nodup ∧ (level node A seen turn).1.length = seen.length + (level node A seen turn).2.length := by
  have one : ∀ (t : Tx) (cs : Tx) (sm : List N × List Tx), (sm.1.Nodup ∧ sm.1.length = seen.length + sm.2.length) → ((cs.foldl (exp1 node t) sm).1.Nodup ∧ (cs.foldl (exp1 node t) sm).1.length = seen.length + (cs.foldl (exp1 node t) sm).2.length) := fun t cs => by
    induction cs with
    | nil => exact fun sm h => h
    | cons c cs ih => exact fun sm h => ih _ (nd_exp1 h t c)
  have all : ∀ (ts : List Tx) (sm : List N × List Tx), (sm.1.Nodup ∧ sm.1.length = seen.length + sm.2.length) → ((ts.foldl (expT node A) sm).1.Nodup ∧ (ts.foldl (expT node A) sm).1.length = seen.length + (ts.foldl (expT node A) sm).2.length) := fun ts => by
    induction ts with
    | nil => exact fun sm h => h
    | cons t ts ih => exact fun sm h => ih _ (one t A sm h)
  exact fun turn => all turn (seen, []) ⟨h, by simp⟩
theorem sub_exp (S : List N) (hS : ∀ t, node t ∈ S) (seen : List N) (h : ∀ n ∈ seen, n ∈ S) (turn : List Tx) : ∀ n ∈ (level node A seen turn).1, n ∈ S := by
  have e1 : ∀ (t : Tx) (c : Nat) (sm : List N × List Tx), (∀ n ∈ sm.1, n ∈ S) → ∀ n ∈ (exp1 node t sm c).1, n ∈ S := fun t c sm h n hn => by
    unfold exp1 at hn
    split at hn
    · exact h n hn
    · rcases List.mem_append.mp hn with z | z
      · exact h n z
      · rw [List.mem_singleton.mp z]; exact hS _
  have one : ∀ (t : Tx) (cs : Tx) (sm : List N × List Tx), (∀ n ∈ sm.1, n ∈ S) → ∀ n ∈ (cs.foldl (exp1 node t) sm).1, n ∈ S := fun t cs => by
    induction cs with
    | nil => exact fun sm h => h
    | cons c cs ih => exact fun sm h => ih _ (e1 t c sm h)
  have all : ∀ (ts : List Tx) (sm : List N × List Tx), (∀ n ∈ sm.1, n ∈ S) → ∀ n ∈ (ts.foldl (expT node A) sm).1, n ∈ S := fun ts => by
    induction ts with
    | nil => exact fun sm h => h
    | cons t ts ih => exact fun sm h => ih _ (one t A sm h)
  exact all turn (seen, []) h
theorem bfs_none (S : List N) (hS : ∀ t, node t ∈ S) (hp : ∀ t, p t = false) : ∀ (k n : Nat) (seen : List N) (turn : List Tx), seen.Nodup → (∀ q ∈ seen, q ∈ S) → S.length ≤ seen.length + k → k + 1 < n → bfs node A p n seen turn = some none
  | k, n, seen, turn, nd, hs, hk, hn => by
    obtain ⟨n, rfl⟩ : ∃ m, n = m + 1 := ⟨n - 1, by omega⟩
    unfold bfs
    by_cases e : turn = []
    · rw [if_pos e]
    rw [if_neg e]
    have nf : turn.find? p = none := List.find?_eq_none.mpr fun t _ => by rw [hp t]; decide
    rw [nf]
    dsimp only
    obtain ⟨n1, n2⟩ := nd_level (node := node) (A := A) seen nd turn
    have sb := sub_exp (node := node) (A := A) S hS seen hs turn
    by_cases m0 : (level node A seen turn).2 = []
    · obtain ⟨n, rfl⟩ : ∃ m, n = m + 1 := ⟨n - 1, by omega⟩
      unfold bfs
      rw [if_pos m0]
    · have pos : 0 < (level node A seen turn).2.length := List.length_pos_iff.mpr m0
      have le := le_of_sub n1 sb
      match k, hk, hn with
      | 0, hk, hn => exfalso; omega
      | k + 1, hk, hn => exact bfs_none S hS hp k n _ _ n1 sb (by omega) (by omega)
end
end Qw

set_option Elab.async false
set_option linter.all false
set_option maxRecDepth 100000
set_option maxHeartbeats 4000000
namespace Qw
open PySem L2
/-! ### nodes: where both rules are, and what one has told more than the other -/
def cpl : List Mk1 → List Mk1 → Nat
  | x :: a, y :: b => if x = y then cpl a b + 1 else 0
  | _, _ => 0
theorem cpl_spec : ∀ (a b : List Mk1), a.take (cpl a b) = b.take (cpl a b) ∧ ∀ x s y t, a.drop (cpl a b) = x :: s → b.drop (cpl a b) = y :: t → x ≠ y
  | [], b => by
    unfold cpl
    exact ⟨by simp, fun x s y t h => by simp at h⟩
  | x :: a, [] => by
    unfold cpl
    exact ⟨by simp, fun x s y t _ h => by simp at h⟩
  | x :: a, y :: b => by
    unfold cpl
    by_cases e : x = y
    · subst e
      rw [if_pos rfl]
      obtain ⟨h1, h2⟩ := cpl_spec a b
      exact ⟨by simp [h1], fun u s v t => by simpa using h2 u s v t⟩
    · rw [if_neg e]
      refine ⟨by simp, fun u s v t h1 h2 => ?_⟩
      simp only [List.drop_zero, List.cons.injEq] at h1 h2
      rw [← h1.1, ← h2.1]
      exact e
/-- what one has told more; none: apart -/
def restA (a b : List Mk1) : Option (List Mk1 × List Mk1) :=
  if (a.drop (cpl a b) ≠ [] ∧ b.drop (cpl a b) ≠ []) ∨ 8 < max (a.drop (cpl a b)).length (b.drop (cpl a b)).length then none else some (a.drop (cpl a b), b.drop (cpl a b))
abbrev NodeA := Ky × Ky × Option (List Mk1 × List Mk1)
def nodeA (r r' : RS) (t : Tx) : NodeA := ((kr r t).1, (kr r' t).1, restA (kr r t).2 (kr r' t).2)
theorem step_len (r : RS) (k : Ky) (c : Nat) : (k.step r c).2.length ≤ 2 := by
  have b1 : ∀ b, (bgn b).length ≤ 1 := fun b => by cases b <;> simp [bgn]
  unfold Ky.step
  generalize k.mid c = m
  dsimp only
  split
  · simp
  · split
    · rw [plain_rl]
      have l := rl_lt r c
      generalize rl r c = n at *
      match n, l with
      | 0, _ | 1, _ => simp [rlStep]
      | 2, _ | 3, _ | 4, _ => exact Nat.le_trans (b1 _) (by decide)
      | 5, _ => simp only [rlStep, List.length_append, List.length_cons, List.length_nil]; have := b1 m.wn; omega
      | n + 6, l => exact absurd l (by omega)
    · split
      · simp
      · unfold Ky.quoted
        split
        · simp
        · split <;> simp
theorem run_len (r : RS) : ∀ (t : Tx) (k : Ky), (k.run r t).2.length ≤ 2 * t.length
  | [], k => by simp [Ky.run]
  | c :: t, k => by
    show ((k.step r c).2 ++ ((k.step r c).1.run r t).2).length ≤ _
    have h1 := step_len r k c
    have h2 := run_len r t (k.step r c).1
    simp only [List.length_append, List.length_cons]
    omega
theorem rest_eq {a b x y : List Mk1} {ra rb : List Mk1} (h : restA a b = some (ra, rb)) : (a ++ x = b ++ y ↔ ra ++ x = rb ++ y) := by
  unfold restA at h
  split at h
  · cases h
  · simp only [Option.some.injEq, Prod.mk.injEq] at h
    obtain ⟨rfl, rfl⟩ := h
    have e := (cpl_spec a b).1
    have ea : a ++ x = a.take (cpl a b) ++ (a.drop (cpl a b) ++ x) := by rw [← List.append_assoc, List.take_append_drop]
    have eb : b ++ y = a.take (cpl a b) ++ (b.drop (cpl a b) ++ y) := by rw [e, ← List.append_assoc, List.take_append_drop]
    rw [ea, eb]
    exact ⟨fun z => List.append_cancel_left z, fun z => by rw [z]⟩
theorem rest_none {a b x y : List Mk1} (h : restA a b = none) (la : a.length ≤ 8) (lb : b.length ≤ 8) : a ++ x ≠ b ++ y := by
  unfold restA at h
  split at h
  · rename_i q
    rcases q with ⟨q1, q2⟩ | q
    · obtain ⟨u, s, e1⟩ : ∃ u s, a.drop (cpl a b) = u :: s := by
        cases e : a.drop (cpl a b) with
        | nil => exact absurd e q1
        | cons u s => exact ⟨u, s, rfl⟩
      obtain ⟨v, t, e2⟩ : ∃ v t, b.drop (cpl a b) = v :: t := by
        cases e : b.drop (cpl a b) with
        | nil => exact absurd e q2
        | cons u s => exact ⟨u, s, rfl⟩
      obtain ⟨e, ne⟩ := cpl_spec a b
      have ne := ne u s v t e1 e2
      intro z
      have ea : a ++ x = a.take (cpl a b) ++ (a.drop (cpl a b) ++ x) := by rw [← List.append_assoc, List.take_append_drop]
      have eb : b ++ y = a.take (cpl a b) ++ (b.drop (cpl a b) ++ y) := by rw [e, ← List.append_assoc, List.take_append_drop]
      rw [ea, eb, e1, e2] at z
      have z := List.append_cancel_left z
      simp only [List.cons_append, List.cons.injEq] at z
      exact ne z.1
    · simp only [List.length_drop] at q
      omega
  · cases h
theorem node_cong {r r' : RS} {u v : Tx} (w : Tx) (lu : u.length ≤ 4) (lv : v.length ≤ 4) (e : nodeA r r' u = nodeA r r' v) : alikeT r r' (u ++ w) = alikeT r r' (v ++ w) := by
  simp only [nodeA, Prod.mk.injEq] at e
  obtain ⟨k1, k2, er⟩ := e
  have b1 : (kr r u).2.length ≤ 2 * u.length := run_len r u Ky.zero
  have b2 : (kr r' u).2.length ≤ 2 * u.length := run_len r' u Ky.zero
  have b3 : (kr r v).2.length ≤ 2 * v.length := run_len r v Ky.zero
  have b4 : (kr r' v).2.length ≤ 2 * v.length := run_len r' v Ky.zero
  have au : ∀ (r : RS) (u : Tx), kr r (u ++ w) = (((kr r u).1.run r w).1, (kr r u).2 ++ ((kr r u).1.run r w).2) := fun r u => Ky.run_app r u w _
  unfold alikeT
  rw [au r u, au r' u, au r v, au r' v, k1, k2]
  dsimp only
  congr 1
  congr 1
  refine decide_eq_decide.mpr ?_
  generalize ((kr r v).1.run r w).2 = x
  generalize ((kr r' v).1.run r' w).2 = y
  cases h : restA (kr r v).2 (kr r' v).2 with
  | some q =>
    obtain ⟨ra, rb⟩ := q
    rw [rest_eq h, rest_eq (er.trans h)]
  | none =>
    have n1 := rest_none (x := x) (y := y) h (by omega) (by omega)
    have n2 := rest_none (x := x) (y := y) (er.trans h) (by omega) (by omega)
    exact ⟨fun z => absurd z n2, fun z => absurd z n1⟩
/-! ### nodes of rules that play alike -/
theorem cpl_self : ∀ a : List Mk1, cpl a a = a.length
  | [] => rfl
  | x :: a => by unfold cpl; rw [if_pos rfl, cpl_self a]; rfl
theorem rest_self (a : List Mk1) : restA a a = some ([], []) := by
  unfold restA
  rw [cpl_self, List.drop_length]
  simp
/-- all keys that a rule's machine comes to -/
def keysOf (r : RS) : List Ky := ([] :: NT :: r.quotes.map fun q => [q]).flatMap fun st => [⟨st, false, false⟩, ⟨st, false, true⟩, ⟨st, true, false⟩, ⟨st, true, true⟩]
theorem key_mem {r : RS} {k : Ky} (h : StD r.quotes k.st) : k ∈ keysOf r := by
  obtain ⟨st, b, wn⟩ := k
  refine List.mem_flatMap.mpr ⟨st, ?_, by cases b <;> cases wn <;> simp⟩
  rcases h with h | h | ⟨q, hq, h⟩ <;> (dsimp only at h; subst h)
  · exact .head _
  · exact .tail _ (.head _)
  · exact .tail _ (.tail _ (List.mem_map.mpr ⟨q, hq, rfl⟩))
theorem step_q {r : RS} {k : Ky} (h : StD r.quotes k.st) (c : Nat) : StD r.quotes (k.step r c).1.st := by
  have hm : StD r.quotes (k.mid c).st := by
    unfold Ky.mid
    split
    · exact .inl rfl
    · exact h
  unfold Ky.step
  generalize k.mid c = m at hm
  dsimp only
  split
  · exact hm
  · split
    · unfold Ky.plain
      split
      · exact hm
      · split
        · exact .inr (.inl rfl)
        · split
          · rename_i q; exact .inr (.inr ⟨c, q, rfl⟩)
          · split <;> exact hm
    · split
      · exact hm
      · unfold Ky.quoted
        split
        · exact .inl rfl
        · split <;> exact hm
theorem run_q {r : RS} : ∀ (t : Tx) {k : Ky}, StD r.quotes k.st → StD r.quotes (k.run r t).1.st
  | [], _, h => h
  | c :: t, k, h => run_q t (step_q h c)
theorem same_node {r r' : RS} (h : SameR r r') (t : Tx) : nodeA r r' t ∈ (keysOf r).map fun k => ((k, k, some ([], [])) : NodeA) := by
  refine List.mem_map.mpr ⟨(kr r t).1, key_mem (run_q t (.inl rfl)), ?_⟩
  unfold nodeA
  rw [show kr r' t = kr r t from (same_run h t _).symm, rest_self]
theorem sum4 (l : Tx) : (l.map fun _ => 4).sum = 4 * l.length := by
  induction l with
  | nil => rfl
  | cons a l ih => simp only [List.map_cons, List.sum_cons, List.length_cons, ih]; omega
theorem keys_len (r : RS) : (keysOf r).length = 4 * (2 + r.quotes.length) := by
  unfold keysOf
  rw [List.length_flatMap]
  simp [Function.comp_def, sum4]
  omega
end Qw

set_option Elab.async false
set_option linter.all false
set_option maxRecDepth 100000
set_option maxHeartbeats 4000000
namespace Qw
open PySem L2
/-! ### two signs of each sort -/
section
variable {γ : Type} [DecidableEq γ] (f : Nat → γ)
def fewGo (seen : Tx) : Tx → Tx
  | [] => []
  | c :: t => if (seen.filter fun x => decide (f x = f c)).length < 2 then c :: fewGo (seen ++ [c]) t else fewGo (seen ++ [c]) t
variable {f}
theorem few_mem : ∀ (l : Tx) {seen : Tx}, ∀ c ∈ fewGo f seen l, c ∈ l
  | [], _, c, h => by cases h
  | x :: l, seen, c, h => by
    unfold fewGo at h
    split at h
    · rcases List.mem_cons.mp h with rfl | h
      · exact .head _
      · exact .tail _ (few_mem l c h)
    · exact .tail _ (few_mem l c h)
theorem cnt_snoc (seen : Tx) (x : Nat) (g : γ) : ((seen ++ [x]).filter fun y => decide (f y = g)).length = (seen.filter fun y => decide (f y = g)).length + if f x = g then 1 else 0 := by
  rw [List.filter_append, List.length_append]
  congr 1
  by_cases e : f x = g <;> simp [e]
theorem few_rep : ∀ (l : Tx) (seen : Tx) (c : Nat), c ∈ l → (seen.filter fun y => decide (f y = f c)).length < 2 → ∃ c' ∈ fewGo f seen l, f c' = f c
  | [], _, c, h, _ => by cases h
  | x :: l, seen, c, h, hs => by
    unfold fewGo
    by_cases e : f x = f c
    · rw [e, if_pos hs]
      exact ⟨x, .head _, e⟩
    · have hc : c ∈ l := (List.mem_cons.mp h).resolve_left fun z => e (by rw [z])
      obtain ⟨c', m, ec⟩ := few_rep l (seen ++ [x]) c hc (by rw [cnt_snoc, if_neg e]; exact hs)
      split
      · exact ⟨c', .tail _ m, ec⟩
      · exact ⟨c', m, ec⟩
theorem few_two : ∀ (l : Tx) (seen : Tx), l.Nodup → ∀ c ∈ l, ∀ d ∈ l, c ≠ d → f c = f d → (seen.filter fun y => decide (f y = f c)).length = 0 → ∃ c' ∈ fewGo f seen l, ∃ d' ∈ fewGo f seen l, c' ≠ d' ∧ f c' = f c ∧ f d' = f d
  | [], _, _, c, h, _, _, _, _, _ => by cases h
  | x :: l, seen, nd, c, hc, d, hd, ne, ef, h0 => by
    have nd' := List.nodup_cons.mp nd
    unfold fewGo
    by_cases e : f x = f c
    · rw [e, if_pos (by omega)]
      -- another one of the sort stands behind
      obtain ⟨y, hy, ey⟩ : ∃ y ∈ l, f y = f c := by
        by_cases q : x = c
        · subst q
          exact ⟨d, (List.mem_cons.mp hd).resolve_left fun z => ne z.symm, ef.symm⟩
        · exact ⟨c, (List.mem_cons.mp hc).resolve_left fun z => q z.symm, rfl⟩
      obtain ⟨y', m, e'⟩ := few_rep (f := f) l (seen ++ [x]) y hy (by rw [ey, cnt_snoc, if_pos e]; omega)
      exact ⟨x, .head _, y', .tail _ m, fun z => nd'.1 (z ▸ few_mem l y' m), e, by rw [e', ey, ef]⟩
    · have hc' : c ∈ l := (List.mem_cons.mp hc).resolve_left fun z => e (by rw [z])
      have hd' : d ∈ l := (List.mem_cons.mp hd).resolve_left fun z => e (by rw [ef, z])
      obtain ⟨c', m1, d', m2, h⟩ := few_two l (seen ++ [x]) nd'.2 c hc' d hd' ne ef (by rw [cnt_snoc, if_neg e]; exact h0)
      split
      · exact ⟨c', .tail _ m1, d', .tail _ m2, h⟩
      · exact ⟨c', m1, d', m2, h⟩
end
/-! ### the signs that the program goes through -/
def LET : Tx := [97, 98, 99, 100, 101, 102, 103, 104, 105, 106, 107, 108, 109, 110, 111, 112, 113, 114, 115, 116, 117, 118, 119, 120, 121, 122, 48, 49, 50, 51, 52, 53, 54, 55, 56, 57]
def everyT (r r' : RS) : Tx := LE :: (r.every ++ r'.every ++ LET)
def fewT (r r' : RS) : Tx := fewGo (cls r r') [] (uniq (everyT r r'))
theorem uniq_nd (l : Tx) : (uniq l).Nodup := by
  have key : ∀ (l acc : Tx), acc.Nodup → (l.foldl (fun acc c => if c ∈ acc then acc else acc ++ [c]) acc).Nodup := by
    intro l
    induction l with
    | nil => exact fun acc h => h
    | cons c l ih =>
      intro acc h
      refine ih _ ?_
      show (if c ∈ acc then acc else acc ++ [c]).Nodup
      split
      · exact h
      · rename_i n
        rw [List.nodup_append]
        exact ⟨h, by simp, fun a ha b hb z => n (by rw [← List.mem_singleton.mp hb, ← z]; exact ha)⟩
  exact key l [] List.nodup_nil
theorem few_h1 (r r' : RS) : ∀ c ∈ everyT r r', ∃ c' ∈ fewT r r', cls r r' c' = cls r r' c := fun c hc => few_rep _ [] c ((mem_uniq _ c).mpr hc) (by simp)
theorem few_h2 (r r' : RS) : ∀ c ∈ everyT r r', ∀ d ∈ everyT r r', c ≠ d → cls r r' c = cls r r' d → ∃ c' ∈ fewT r r', ∃ d' ∈ fewT r r', c' ≠ d' ∧ cls r r' c' = cls r r' c ∧ cls r r' d' = cls r r' d := fun c hc d hd ne e =>
  few_two _ [] (uniq_nd _) c ((mem_uniq _ c).mpr hc) d ((mem_uniq _ d).mpr hd) ne e (by simp)
theorem every_len {r : RS} (ok : r.Ok) : r.every.length ≤ 10 := by
  have h1 := ok.l1; have h2 := ok.l2; have h3 := ok.l3; have h4 := ok.l4; have h5 := ok.l5
  simp only [RS.every, List.length_append]; omega
theorem rl_out {r : RS} {c : Nat} (h : c ∉ r.every) : rl r c = 5 := by
  simp only [RS.every, List.mem_append, not_or] at h
  obtain ⟨h1, h2, h3, h4, h5⟩ := h
  simp [rl, h1, h2, h3, h4, h5]
theorem rl_in {r : RS} {c : Nat} (h : rl r c ≠ 5) : c ∈ r.every := Classical.byContradiction fun z => h (rl_out z)
/-- a letter that neither rules name -/
theorem letter {r r' : RS} (ok : r.Ok) (ok' : r'.Ok) : ∃ a ∈ LET, rl r a = 5 ∧ rl r' a = 5 ∧ a ≠ LE := by
  refine Classical.byContradiction fun n => ?_
  have sub : ∀ x ∈ LET, x ∈ r.every ++ r'.every := fun x hx => Classical.byContradiction fun z => by
    rw [List.mem_append, not_or] at z
    exact n ⟨x, hx, rl_out z.1, rl_out z.2, fun e => by rw [e] at hx; exact absurd hx (by decide)⟩
  have := le_of_sub (l := LET) (by decide) sub
  have l1 := every_len ok
  have l2 := every_len ok'
  rw [List.length_append] at this
  have : (36 : Nat) ≤ r.every.length + r'.every.length := this
  omega
/-- unlike rules: a shortest parted text is found -/
theorem first_unl {N : Type} [DecidableEq N] {node : Tx → N} {r r' : RS} (ok : r.Ok) (ok' : r'.Ok) (n : ¬ SameR r r') (hn : ∀ u v, OverA (fewT r r') u → OverA (fewT r r') v → u.length ≤ 3 → v.length ≤ 3 → node u = node v → nodeA r r' u = nodeA r r' v) :
    ∃ t, bfs node (fewT r r') (fun t => !alikeT r r' t) 4 [] [[]] = some (some t) ∧ OverA (fewT r r') t ∧ t.length ≤ 3 ∧ alikeT r r' t = false ∧ ∀ s : Tx, (∀ c ∈ s, c ∈ everyT r r') → s.length < t.length → alikeT r r' s = true := by
  obtain ⟨a, ha, a1⟩ := letter ok ok'
  have inE : ∀ c, (rl r c ≠ 5 ∨ rl r' c ≠ 5 ∨ c = a) → c ∈ everyT r r' := fun c h => by
    refine List.mem_cons_of_mem _ (List.mem_append.mpr ?_)
    rcases h with h | h | h
    · exact .inl (List.mem_append_left _ (rl_in h))
    · exact .inl (List.mem_append_right _ (rl_in h))
    · rw [h]; exact .inr ha
  obtain ⟨t0, o0, l0, p0⟩ := short_of ok ok' (unl_of ok ok' n) (A := fewT r r') a1 fun c h => few_h1 r r' c (inE c h)
  -- a shortest one
  have wf : ∀ m : Nat, ∀ t : Tx, t.length = m → OverA (fewT r r') t → alikeT r r' t = false → ∃ t' : Tx, t'.length ≤ m ∧ OverA (fewT r r') t' ∧ alikeT r r' t' = false ∧ ∀ s, OverA (fewT r r') s → s.length < t'.length → alikeT r r' s = true := by
    intro m
    induction m using Nat.strongRecOn with
    | ind m ih =>
      intro t ht ot pt
      by_cases q : ∃ s : Tx, OverA (fewT r r') s ∧ s.length < t.length ∧ alikeT r r' s = false
      · obtain ⟨s, os, ls, ps⟩ := q
        obtain ⟨t', a1, a2⟩ := ih s.length (by omega) s rfl os ps
        exact ⟨t', by omega, a2⟩
      · refine ⟨t, by omega, ot, pt, fun s os ls => ?_⟩
        cases e : alikeT r r' s with
        | true => rfl
        | false => exact absurd ⟨s, os, ls, e⟩ q
  obtain ⟨t1, l1, o1, p1, m1⟩ := wf t0.length t0 rfl o0 p0
  have L3 : t1.length ≤ 3 := by omega
  obtain ⟨t, b, ot, lt, pt⟩ := bfs_min (node := node) (A := fewT r r') (p := fun t => !alikeT r r' t) (L := t1.length)
    (fun u v w hu hv hw lu lv _ e => by
      show (!alikeT r r' (u ++ w)) = !alikeT r r' (v ++ w)
      rw [node_cong w (by omega) (by omega) (hn u v hu hv (by omega) (by omega) e)])
    (fun t ot lt => by show (!alikeT r r' t) = false; rw [m1 t ot lt]; rfl) t1.length 0 4 [] [[]] [] t1 (by omega) (by omega) (fun q h => by cases h) (fun t h => by rw [List.mem_singleton.mp h]; exact ⟨fun c h => (by cases h), rfl⟩) (.head _) o1 rfl (by show (!alikeT r r' t1) = true; rw [p1]; rfl)
  have pt' : alikeT r r' t = false := by
    have : (!alikeT r r' t) = true := pt
    simpa using this
  refine ⟨t, b, ot, by omega, pt', fun s hs ls => ?_⟩
  cases e : alikeT r r' s with
  | true => rfl
  | false =>
    obtain ⟨s', a1, a2, a3⟩ := small_rep ok ok' (few_h1 r r') (few_h2 r r') s (by omega) hs e
    have := m1 s' a2 (by omega)
    rw [a3] at this; cases this
/-- rules that play alike: none is found, it ends -/
theorem first_same {N : Type} [DecidableEq N] {node : Tx → N} {r r' : RS} (ok : r.Ok) (h : SameR r r') (enc : NodeA → N) (hn : ∀ u, node u = enc (nodeA r r' u)) : bfs node (fewT r r') (fun t => !alikeT r r' t) 26 [] [[]] = some none := by
  refine bfs_none (((keysOf r).map fun k => ((k, k, some ([], [])) : NodeA)).map enc) (fun t => ?_) (fun t => by show (!alikeT r r' t) = false; rw [same_alike h]; rfl) 24 26 [] [[]] List.nodup_nil (fun q h => by cases h) ?_ (by decide)
  · rw [hn]
    exact List.mem_map.mpr ⟨_, same_node h t, rfl⟩
  · rw [List.length_map, List.length_map, keys_len]
    have h2 := ok.l2; have h3 := ok.l3
    simp only [RS.quotes, List.length_append, List.length_nil]
    omega
end Qw

set_option Elab.async false
set_option linter.all false
set_option maxRecDepth 100000
set_option maxHeartbeats 4000000
namespace Qw
open PySem L2 PySem
/-! ### nodes as texts: no two nodes are shown alike -/
def cps (x : Str) : List Nat := x.cps.toList
theorem cps_app (x y : Str) : cps (x ++ y) = cps x ++ cps y := by
  show (x.cps ++ y.cps).toList = _
  rw [Array.toList_append]
  rfl
theorem cps_inj {x y : Str} (h : cps x = cps y) : x = y := by
  cases x; cases y
  exact congrArg Str.mk (Array.toList_inj.mp h)
def tailB : List (List Nat) → List Nat
  | [] => []
  | t :: r => [44, 32] ++ t ++ tailB r
def bodyB : List (List Nat) → List Nat
  | [] => []
  | t :: r => t ++ tailB r
theorem cps_from : ∀ (ts : List Str) (k : Nat) (acc : Str), 0 < k → cps (textFrom k acc ts) = cps acc ++ tailB (ts.map cps)
  | [], k, acc, _ => by simp [textFrom, tailB]
  | t :: r, k, acc, hk => by
    show cps (textFrom (k + 1) (acc ++ (if k > 0 then ", " else "" : String) ++ t) r) = _
    rw [cps_from r (k + 1) _ (Nat.succ_pos k), cps_app, cps_app, if_pos hk]
    show (cps acc ++ [44, 32] ++ cps t) ++ _ = cps acc ++ ([44, 32] ++ cps t ++ tailB (r.map cps))
    simp only [List.append_assoc]
theorem cps_list (ts : List Str) : cps (listText ts) = 91 :: (bodyB (ts.map cps) ++ [93]) := by
  unfold listText
  rw [cps_app]
  cases ts with
  | nil => rfl
  | cons t r =>
    show cps (textFrom 1 ((("[" : Str) ++ ((if 0 > 0 then ", " else "" : String) : Str)) ++ t) r) ++ [93] = _
    rw [cps_from r 1 _ (by decide), cps_app, cps_app]
    simp [bodyB, cps]
    rfl
/-! the codes of single pieces -/
def mkD : Mk1 → PyData
  | none => .str (S [98, 101, 103, 105, 110])
  | some c => .str (S [c])
def mkC (m : Mk1) : List Nat := cps (mkD m).shown
def sgns : Tx := 10 :: (List.range 95).map (· + 32)
theorem mem_sgns {c : Nat} (h : sgn c = true) : c ∈ sgns := by
  have : c = 10 ∨ (32 ≤ c ∧ c ≤ 126) := by
    simp only [sgn, Bool.or_eq_true, decide_eq_true_eq] at h
    omega
  rcases this with rfl | ⟨h1, h2⟩
  · exact .head _
  · exact .tail _ (List.mem_map.mpr ⟨c - 32, List.mem_range.mpr (by omega), by omega⟩)
def allM : List Mk1 := none :: sgns.map some
/-- a mark of a sign that may stand in a text -/
def MkOk (m : Mk1) : Prop := ∀ c, m = some c → sgn c = true
theorem mem_allM {m : Mk1} (h : MkOk m) : m ∈ allM := by
  cases m with
  | none => exact .head _
  | some c => exact .tail _ (List.mem_map.mpr ⟨c, mem_sgns (h c rfl), rfl⟩)
theorem pf_of {a b x y : List Nat} (h : a ++ x = b ++ y) : a.isPrefixOf b = true ∨ b.isPrefixOf a = true := by
  simp only [List.isPrefixOf_iff_prefix]
  exact List.prefix_or_prefix_of_prefix (l₃ := a ++ x) (List.prefix_append a x) (h ▸ List.prefix_append b y)
theorem mk_pf : allM.all (fun m => allM.all fun m' => decide (m = m') || !(mkC m).isPrefixOf (mkC m')) = true := by decide +kernel
theorem mk_inj {m m' : Mk1} (h : MkOk m) (h' : MkOk m') {x y : List Nat} (e : mkC m ++ x = mkC m' ++ y) : m = m' ∧ x = y := by
  have one : ∀ {m m' : Mk1}, MkOk m → MkOk m' → (mkC m).isPrefixOf (mkC m') = true → m = m' := fun {m m'} h h' p => by
    have := List.all_eq_true.mp (List.all_eq_true.mp mk_pf m (mem_allM h)) m' (mem_allM h')
    simpa [p] using this
  have em : m = m' := by
    rcases pf_of e with p | p
    · exact one h h' p
    · exact (one h' h p).symm
  subst em
  exact ⟨rfl, List.append_cancel_left e⟩
theorem tail_inj : ∀ {a b : List Mk1} {x y : List Nat}, (∀ m ∈ a, MkOk m) → (∀ m ∈ b, MkOk m) → tailB (a.map mkC) ++ (93 :: x) = tailB (b.map mkC) ++ (93 :: y) → a = b ∧ x = y
  | [], [], x, y, _, _, e => by simpa [tailB] using e
  | [], m :: b, x, y, _, _, e => by simp [tailB] at e
  | m :: a, [], x, y, _, _, e => by simp [tailB] at e
  | m :: a, m' :: b, x, y, ha, hb, e => by
    simp only [List.map_cons, tailB, List.append_assoc, List.cons_append, List.nil_append, List.cons.injEq, true_and] at e
    obtain ⟨em, e2⟩ := mk_inj (ha m (.head _)) (hb m' (.head _)) e
    obtain ⟨ea, e3⟩ := tail_inj (fun z hz => ha z (.tail _ hz)) (fun z hz => hb z (.tail _ hz)) e2
    exact ⟨by rw [em, ea], e3⟩
theorem mk_head : allM.all (fun m => (mkC m).head? == some 39 || (mkC m).head? == some 34) = true := by decide +kernel
theorem mk_ne {m : Mk1} (h : MkOk m) {x y : List Nat} (e : mkC m ++ x = 93 :: y) : False := by
  have := List.all_eq_true.mp mk_head m (mem_allM h)
  cases q : mkC m with
  | nil => rw [q] at this; simp at this
  | cons c l =>
    rw [q] at this e
    simp only [List.head?_cons, List.cons_append, List.cons.injEq] at this e
    rw [e.1] at this
    simp at this
theorem body_inj {a b : List Mk1} {x y : List Nat} (ha : ∀ m ∈ a, MkOk m) (hb : ∀ m ∈ b, MkOk m) (e : bodyB (a.map mkC) ++ (93 :: x) = bodyB (b.map mkC) ++ (93 :: y)) : a = b ∧ x = y := by
  match a, b, ha, hb, e with
  | [], [], _, _, e => simpa [bodyB] using e
  | [], m :: b, _, hb, e =>
    simp only [List.map_nil, List.map_cons, bodyB, List.nil_append, List.append_assoc] at e
    exact (mk_ne (hb m (.head _)) e.symm).elim
  | m :: a, [], ha, _, e =>
    simp only [List.map_nil, List.map_cons, bodyB, List.nil_append, List.append_assoc] at e
    exact (mk_ne (ha m (.head _)) e).elim
  | m :: a, m' :: b, ha, hb, e =>
    simp only [List.map_cons, bodyB, List.append_assoc] at e
    obtain ⟨em, e2⟩ := mk_inj (ha m (.head _)) (hb m' (.head _)) e
    obtain ⟨ea, e3⟩ := tail_inj (fun z hz => ha z (.tail _ hz)) (fun z hz => hb z (.tail _ hz)) e2
    exact ⟨by rw [em, ea], e3⟩
end Qw

set_option Elab.async false
set_option linter.all false
set_option maxRecDepth 100000
set_option maxHeartbeats 4000000
namespace Qw
open PySem L2
/-! ### keys and nodes as texts -/
def kst (st : Tx) : List Nat := cps (PyData.str (S st)).shown
def blC (b : Bool) : List Nat := cps (PyData.bool b).shown
def allS : List Tx := [] :: NT :: sgns.map fun c => [c]
def StOk (st : Tx) : Prop := st = [] ∨ st = NT ∨ ∃ c, sgn c = true ∧ st = [c]
theorem mem_allS {st : Tx} (h : StOk st) : st ∈ allS := by
  rcases h with rfl | rfl | ⟨c, hc, rfl⟩
  · exact .head _
  · exact .tail _ (.head _)
  · exact .tail _ (.tail _ (List.mem_map.mpr ⟨c, mem_sgns hc, rfl⟩))
theorem st_pf : allS.all (fun m => allS.all fun m' => decide (m = m') || !(kst m).isPrefixOf (kst m')) = true := by decide +kernel
theorem st_inj {m m' : Tx} (h : StOk m) (h' : StOk m') {x y : List Nat} (e : kst m ++ x = kst m' ++ y) : m = m' ∧ x = y := by
  have one : ∀ {m m' : Tx}, StOk m → StOk m' → (kst m).isPrefixOf (kst m') = true → m = m' := fun {m m'} h h' p => by
    have := List.all_eq_true.mp (List.all_eq_true.mp st_pf m (mem_allS h)) m' (mem_allS h')
    simpa [p] using this
  have em : m = m' := by
    rcases pf_of e with p | p
    · exact one h h' p
    · exact (one h' h p).symm
  subst em
  exact ⟨rfl, List.append_cancel_left e⟩
theorem bl_inj {b b' : Bool} {x y : List Nat} (e : blC b ++ x = blC b' ++ y) : b = b' ∧ x = y := by
  have t : blC true = [84, 114, 117, 101] := by decide +kernel
  have f : blC false = [70, 97, 108, 115, 101] := by decide +kernel
  cases b <;> cases b'
  · exact ⟨rfl, List.append_cancel_left e⟩
  · rw [t, f] at e; simp at e
  · rw [t, f] at e; simp at e
  · exact ⟨rfl, List.append_cancel_left e⟩
def keyD (k : Ky) : PyData := .tuple [.str (S k.st), .bool k.bent, .bool k.wn]
theorem cps_key (k : Ky) : cps (keyD k).shown = 40 :: (kst k.st ++ ([44, 32] ++ (blC k.bent ++ ([44, 32] ++ (blC k.wn ++ [41]))))) := by
  show cps (("(" : Str) ++ ((PyData.str (S k.st)).shown ++ ", " ++ ((PyData.bool k.bent).shown ++ ", " ++ (PyData.bool k.wn).shown)) ++ (")" : String)) = _
  simp only [cps_app, List.append_assoc]
  rfl
def KyOk (k : Ky) : Prop := StOk k.st
theorem key_inj {k k' : Ky} (h : KyOk k) (h' : KyOk k') {x y : List Nat} (e : cps (keyD k).shown ++ x = cps (keyD k').shown ++ y) : k = k' ∧ x = y := by
  rw [cps_key, cps_key] at e
  simp only [List.cons_append, List.append_assoc, List.cons.injEq, true_and, List.nil_append] at e
  obtain ⟨e1, f1⟩ := st_inj h h' e
  simp only [List.cons.injEq, true_and] at f1
  obtain ⟨e2, f2⟩ := bl_inj f1
  simp only [List.cons.injEq, true_and] at f2
  obtain ⟨e3, f3⟩ := bl_inj f2
  simp only [List.cons.injEq, true_and] at f3
  refine ⟨?_, f3⟩
  obtain ⟨a, b, c⟩ := k
  obtain ⟨a', b', c'⟩ := k'
  dsimp only at e1 e2 e3
  rw [e1, e2, e3]
def restD : Option (List Mk1 × List Mk1) → PyData
  | none => .str (S [97, 112, 97, 114, 116])
  | some (a, b) => .list [.list (a.map mkD), .list (b.map mkD)]
def nodeD (n : NodeA) : PyData := .list [keyD n.1, keyD n.2.1, restD n.2.2]
theorem all_map (a : List Mk1) : (PyData.shownAll (a.map mkD)).map cps = a.map mkC := by
  induction a with
  | nil => rfl
  | cons m a ih => simp only [List.map_cons, PyData.shownAll, ih]; rfl
theorem cps_marks (a : List Mk1) : cps (PyData.list (a.map mkD)).shown = 91 :: (bodyB (a.map mkC) ++ [93]) := by
  show cps (listText (PyData.shownAll (a.map mkD))) = _
  rw [cps_list, all_map]
theorem cps_rest (a b : List Mk1) : cps (restD (some (a, b))).shown = 91 :: (91 :: (bodyB (a.map mkC) ++ (93 :: ([44, 32] ++ (91 :: (bodyB (b.map mkC) ++ (93 :: [93]))))))) := by
  show cps (listText [(PyData.list (a.map mkD)).shown, (PyData.list (b.map mkD)).shown]) = _
  rw [cps_list]
  simp only [List.map_cons, List.map_nil, bodyB, tailB, cps_marks]
  simp
theorem cps_node (n : NodeA) : cps (nodeD n).shown = 91 :: (cps (keyD n.1).shown ++ ([44, 32] ++ (cps (keyD n.2.1).shown ++ ([44, 32] ++ (cps (restD n.2.2).shown ++ [93]))))) := by
  show cps (listText [(keyD n.1).shown, (keyD n.2.1).shown, (restD n.2.2).shown]) = _
  rw [cps_list]
  simp only [List.map_cons, List.map_nil, bodyB, tailB]
  simp
structure NOk (n : NodeA) : Prop where
  k1 : KyOk n.1
  k2 : KyOk n.2.1
  r : ∀ a b, n.2.2 = some (a, b) → (∀ m ∈ a, MkOk m) ∧ ∀ m ∈ b, MkOk m
theorem rest_inj {q q' : Option (List Mk1 × List Mk1)} (h : ∀ a b, q = some (a, b) → (∀ m ∈ a, MkOk m) ∧ ∀ m ∈ b, MkOk m) (h' : ∀ a b, q' = some (a, b) → (∀ m ∈ a, MkOk m) ∧ ∀ m ∈ b, MkOk m) (e : cps (restD q).shown = cps (restD q').shown) : q = q' := by
  have ap : (cps (restD none).shown).head? = some 39 := by decide +kernel
  match q, q', h, h', e with
  | none, none, _, _, _ => rfl
  | none, some (a, b), _, _, e => rw [e, cps_rest] at ap; simp at ap
  | some (a, b), none, _, _, e => rw [← e, cps_rest] at ap; simp at ap
  | some (a, b), some (a', b'), h, h', e =>
    rw [cps_rest, cps_rest] at e
    simp only [List.cons.injEq, true_and] at e
    obtain ⟨e1, e2⟩ := body_inj (h a b rfl).1 (h' a' b' rfl).1 e
    simp only [List.cons_append, List.nil_append, List.cons.injEq, true_and] at e2
    obtain ⟨e3, _⟩ := body_inj (h a b rfl).2 (h' a' b' rfl).2 e2
    rw [e1, e3]
def nodeS (n : NodeA) : Str := (nodeD n).shown
theorem nodeS_inj {n m : NodeA} (h : NOk n) (h' : NOk m) (e : nodeS n = nodeS m) : n = m := by
  have e : cps (nodeD n).shown = cps (nodeD m).shown := congrArg cps e
  rw [cps_node, cps_node] at e
  simp only [List.cons.injEq, true_and] at e
  obtain ⟨e1, e⟩ := key_inj h.k1 h'.k1 e
  simp only [List.cons_append, List.nil_append, List.cons.injEq, true_and] at e
  obtain ⟨e2, e⟩ := key_inj h.k2 h'.k2 e
  simp only [List.cons_append, List.nil_append, List.cons.injEq, true_and] at e
  have e3 := rest_inj h.r h'.r (List.append_cancel_right e)
  obtain ⟨a, b, c⟩ := n
  obtain ⟨a', b', c'⟩ := m
  dsimp only at e1 e2 e3
  rw [e1, e2, e3]
/-! the nodes that texts come to -/
theorem stok_of {r : RS} (ok : r.Ok) {st : Tx} (h : StD r.quotes st) : StOk st := by
  rcases h with h | h | ⟨q, hq, h⟩
  · exact .inl h
  · exact .inr (.inl h)
  · refine .inr (.inr ⟨q, List.all_eq_true.mp ok.sg q ?_, h⟩)
    rcases List.mem_append.mp hq with z | z <;> simp [RS.every, z]
theorem node_ok {r r' : RS} (ok : r.Ok) (ok' : r'.Ok) {t : Tx} (ht : t.all sgn = true) : NOk (nodeA r r' t) := by
  have mo : ∀ (r : RS), ∀ m ∈ (kr r t).2, MkOk m := fun r m hm c e => List.all_eq_true.mp ht c (run_mem t Ky.zero c (e ▸ hm))
  refine ⟨stok_of ok (run_q t (.inl rfl)), stok_of ok' (run_q t (.inl rfl)), fun a b e => ?_⟩
  have e : restA (kr r t).2 (kr r' t).2 = some (a, b) := e
  unfold restA at e
  split at e
  · cases e
  · simp only [Option.some.injEq, Prod.mk.injEq] at e
    obtain ⟨rfl, rfl⟩ := e
    exact ⟨fun m hm => mo r m (List.mem_of_mem_drop hm), fun m hm => mo r' m (List.mem_of_mem_drop hm)⟩
end Qw

set_option Elab.async false
set_option linter.all false
set_option maxRecDepth 100000
set_option maxHeartbeats 4000000
namespace Qw
open PySem L2
/-! ### shortest parted texts, whichever the signs -/
/-- a list of signs that has two signs of each sort (or all of it) -/
structure RepA (r r' : RS) (A : Tx) : Prop where
  one : ∀ c, ∃ c' ∈ A, cls r r' c' = cls r r' c
  two : ∀ c d, c ≠ d → cls r r' c = cls r r' d → ∃ c' ∈ A, ∃ d' ∈ A, c' ≠ d' ∧ cls r r' c' = cls r r' c ∧ cls r r' d' = cls r r' d
theorem cls_out {r r' : RS} {c : Nat} (h : c ∉ everyT r r') : cls r r' c = (5, 5, false) := by
  simp only [everyT, List.mem_cons, List.mem_append, not_or] at h
  obtain ⟨h1, ⟨h2, h3⟩, h4⟩ := h
  simp only [cls, Prod.mk.injEq]
  exact ⟨rl_out h2, rl_out h3, decide_eq_false h1⟩
/-- two letters that neither rules name -/
theorem letters {r r' : RS} (ok : r.Ok) (ok' : r'.Ok) : ∃ a ∈ LET, ∃ b ∈ LET, a ≠ b ∧ cls r r' a = (5, 5, false) ∧ cls r r' b = (5, 5, false) := by
  refine Classical.byContradiction fun n => ?_
  have free : ∀ x ∈ LET, x ∉ r.every ++ r'.every → cls r r' x = (5, 5, false) := fun x hx z => by
    rw [List.mem_append, not_or] at z
    simp only [cls, Prod.mk.injEq]
    exact ⟨rl_out z.1, rl_out z.2, decide_eq_false fun e => by rw [e] at hx; exact absurd hx (by decide)⟩
  obtain ⟨a, ha, a1, a2, a3⟩ := letter ok ok'
  have ca : cls r r' a = (5, 5, false) := by
    simp only [cls, Prod.mk.injEq]
    exact ⟨a1, a2, decide_eq_false a3⟩
  have sub : ∀ x ∈ LET, x ∈ a :: (r.every ++ r'.every) := fun x hx => Classical.byContradiction fun z => by
    rw [List.mem_cons, not_or] at z
    exact n ⟨a, ha, x, hx, fun e => z.1 e.symm, ca, free x hx z.2⟩
  have := le_of_sub (l := LET) (by decide) sub
  have l1 := every_len ok
  have l2 := every_len ok'
  rw [List.length_cons, List.length_append] at this
  have : (36 : Nat) ≤ r.every.length + r'.every.length + 1 := this
  omega
theorem rep_of {r r' : RS} {A : Tx} (h1 : ∀ c ∈ everyT r r', ∃ c' ∈ A, cls r r' c' = cls r r' c) (h2 : ∀ c ∈ everyT r r', ∀ d ∈ everyT r r', c ≠ d → cls r r' c = cls r r' d → ∃ c' ∈ A, ∃ d' ∈ A, c' ≠ d' ∧ cls r r' c' = cls r r' c ∧ cls r r' d' = cls r r' d)
    (ok : r.Ok) (ok' : r'.Ok) : RepA r r' A := by
  obtain ⟨a, ha, b, hb, ab, ca, cb⟩ := letters ok ok'
  have inE : ∀ x ∈ LET, x ∈ everyT r r' := fun x hx => List.mem_cons_of_mem _ (List.mem_append_right _ hx)
  refine ⟨fun c => ?_, fun c d ne e => ?_⟩
  · by_cases hc : c ∈ everyT r r'
    · exact h1 c hc
    · obtain ⟨c', m, e⟩ := h1 a (inE a ha)
      exact ⟨c', m, by rw [e, ca, cls_out hc]⟩
  · by_cases q : cls r r' c = (5, 5, false)
    · obtain ⟨c', m1, d', m2, n, e1, e2⟩ := h2 a (inE a ha) b (inE b hb) ab (by rw [ca, cb])
      exact ⟨c', m1, d', m2, n, by rw [e1, ca, q], by rw [e2, cb, ← e, q]⟩
    · have hc : c ∈ everyT r r' := Classical.byContradiction fun z => q (cls_out z)
      have hd : d ∈ everyT r r' := Classical.byContradiction fun z => q (by rw [e]; exact cls_out z)
      exact h2 c hc d hd ne e
theorem rep_few {r r' : RS} (ok : r.Ok) (ok' : r'.Ok) : RepA r r' (fewT r r') := rep_of (few_h1 r r') (few_h2 r r') ok ok'
theorem rep_rep {r r' : RS} (ok : r.Ok) (ok' : r'.Ok) {A : Tx} (h : RepA r r' A) {t : Tx} (hl : t.length ≤ 2) (e : alikeT r r' t = false) : ∃ t' : Tx, t'.length = t.length ∧ (∀ c ∈ t', c ∈ A) ∧ alikeT r r' t' = false :=
  small_rep ok ok' (E := t) (fun c _ => h.one c) (fun c _ d _ => h.two c d) t hl (fun _ z => z) e
/-- a shortest one -/
structure MinP (r r' : RS) (t : Tx) : Prop where
  p : alikeT r r' t = false
  l : t.length ≤ 3
  m : ∀ s : Tx, s.length < t.length → alikeT r r' s = true
theorem MinP.len {r r' : RS} {t u : Tx} (h : MinP r r' t) (k : MinP r r' u) : t.length = u.length := by
  have h1 : ¬ t.length < u.length := fun z => by have := k.m t z; rw [h.p] at this; cases this
  have h2 : ¬ u.length < t.length := fun z => by have := h.m u z; rw [k.p] at this; cases this
  omega
theorem short_in {r r' : RS} (ok : r.Ok) (ok' : r'.Ok) {A : Tx} (h : RepA r r' A) (n : ¬ SameR r r') : ∃ t : Tx, (∀ c ∈ t, c ∈ A) ∧ t.length ≤ 3 ∧ alikeT r r' t = false := by
  obtain ⟨a, ha, a1, a2, a3⟩ := letter ok ok'
  exact short_of ok ok' (unl_of ok ok' n) ⟨a1, a2, a3⟩ fun c _ => h.one c
theorem not_same {r r' : RS} {t : Tx} (e : alikeT r r' t = false) : ¬ SameR r r' := fun h => by rw [same_alike h] at e; cases e
/-- texts shorter than four signs are parted just if such ones over A are -/
theorem less_in {r r' : RS} (ok : r.Ok) (ok' : r'.Ok) {A : Tx} (h : RepA r r' A) {k : Nat} (hk : k ≤ 4) : (∃ s : Tx, (∀ c ∈ s, c ∈ A) ∧ s.length < k ∧ alikeT r r' s = false) ↔ ∃ s : Tx, s.length < k ∧ alikeT r r' s = false := by
  refine ⟨fun ⟨s, _, h2⟩ => ⟨s, h2⟩, fun ⟨s, h1, h2⟩ => ?_⟩
  by_cases l : s.length ≤ 2
  · obtain ⟨t, t1, t2, t3⟩ := rep_rep ok ok' h l h2
    exact ⟨t, t2, by omega, t3⟩
  · obtain ⟨t, t1, t2, t3⟩ := short_in ok ok' h (not_same h2)
    exact ⟨t, t1, by omega, t3⟩
/-- a text is a shortest one: parted, of no more than three signs, and none shorter over A is -/
theorem min_in {r r' : RS} (ok : r.Ok) (ok' : r'.Ok) {A : Tx} (h : RepA r r' A) {t u : Tx} (M : MinP r r' t) (hu : u.length ≤ 4) : (t.length = u.length ∧ alikeT r r' u = false) ↔ (alikeT r r' u = false ∧ ¬ ∃ s : Tx, (∀ c ∈ s, c ∈ A) ∧ s.length < u.length ∧ alikeT r r' s = false) := by
  rw [less_in ok ok' h hu]
  refine ⟨fun ⟨e, p⟩ => ⟨p, fun ⟨s, h1, h2⟩ => ?_⟩, fun ⟨p, n⟩ => ⟨?_, p⟩⟩
  · have := M.m s (by omega)
    rw [h2] at this; cases this
  · have h1 : ¬ t.length < u.length := fun z => n ⟨t, z, M.p⟩
    have h2 : ¬ u.length < t.length := fun z => by have := M.m u z; rw [p] at this; cases this
    omega
/-- unlike rules: a shortest one is found -/
theorem first_min {N : Type} [DecidableEq N] {node : Tx → N} {r r' : RS} (ok : r.Ok) (ok' : r'.Ok) (n : ¬ SameR r r') (hn : ∀ u v, OverA (fewT r r') u → OverA (fewT r r') v → u.length ≤ 3 → v.length ≤ 3 → node u = node v → nodeA r r' u = nodeA r r' v) :
    ∃ t, bfs node (fewT r r') (fun t => !alikeT r r' t) 4 [] [[]] = some (some t) ∧ OverA (fewT r r') t ∧ MinP r r' t := by
  obtain ⟨t, h1, h2, h3, h4, h5⟩ := first_unl ok ok' n hn
  refine ⟨t, h1, h2, h4, h3, fun s hs => ?_⟩
  cases e : alikeT r r' s with
  | true => rfl
  | false =>
    obtain ⟨s', a1, a2, a3⟩ := rep_rep ok ok' (rep_few ok ok') (by omega) e
    have := h5 s' (fun c hc => (mem_uniq _ c).mp (few_mem _ c (a2 c hc))) (by omega)
    rw [a3] at this; cases this
/-! ### signs that may stand in texts -/
theorem every_sgn {r r' : RS} (ok : r.Ok) (ok' : r'.Ok) : ∀ c ∈ everyT r r', sgn c = true := fun c h => by
  simp only [everyT, List.mem_cons, List.mem_append] at h
  rcases h with h | (h | h) | h
  · rw [h]; decide
  · exact List.all_eq_true.mp ok.sg c h
  · exact List.all_eq_true.mp ok'.sg c h
  · have : LET.all sgn = true := by decide
    exact List.all_eq_true.mp this c h
theorem few_sgn {r r' : RS} (ok : r.Ok) (ok' : r'.Ok) {t : Tx} (h : OverA (fewT r r') t) : t.all sgn = true :=
  List.all_eq_true.mpr fun c hc => every_sgn ok ok' c ((mem_uniq _ c).mp (few_mem _ c (h c hc)))
/-! ### how much is seen -/
section
variable {N : Type} [DecidableEq N] (node : Tx → N) (A : Tx) (p : Tx → Bool)
/-- no more than B nodes are seen on the way -/
def bfsOk (B : Nat) : Nat → List N → List Tx → Prop
  | 0, _, _ => True
  | n + 1, seen, turn => turn ≠ [] → (level node A seen turn).1.length ≤ B ∧ (turn.find? p = none → bfsOk B n (level node A seen turn).1 (level node A seen turn).2)
variable {node A p}
theorem bfsOk_sub {B : Nat} (S : List N) (hS : ∀ t, node t ∈ S) (hB : S.length ≤ B) : ∀ (n : Nat) (seen : List N) (turn : List Tx), seen.Nodup → (∀ q ∈ seen, q ∈ S) → bfsOk node A p B n seen turn
  | 0, _, _, _, _ => trivial
  | n + 1, seen, turn, nd, hs => fun _ => by
    obtain ⟨n1, n2⟩ := nd_level (node := node) (A := A) seen nd turn
    have sb := sub_exp (node := node) (A := A) S hS seen hs turn
    exact ⟨Nat.le_trans (le_of_sub n1 sb) hB, fun _ => bfsOk_sub S hS hB n _ _ n1 sb⟩
theorem len_exp1 (t : Tx) (c : Nat) (sm : List N × List Tx) : sm.1.length ≤ (exp1 node t sm c).1.length ∧ sm.2.length ≤ (exp1 node t sm c).2.length ∧ (exp1 node t sm c).1.length ≤ sm.1.length + 1 ∧ (exp1 node t sm c).2.length ≤ sm.2.length + 1 := by
  unfold exp1
  split
  · exact ⟨Nat.le_refl _, Nat.le_refl _, Nat.le_succ _, Nat.le_succ _⟩
  · simp only [List.length_append, List.length_cons, List.length_nil]
    omega
theorem len_expT (t : Tx) : ∀ (cs : Tx) (sm : List N × List Tx), sm.1.length ≤ (cs.foldl (exp1 node t) sm).1.length ∧ sm.2.length ≤ (cs.foldl (exp1 node t) sm).2.length ∧ (cs.foldl (exp1 node t) sm).1.length ≤ sm.1.length + cs.length ∧ (cs.foldl (exp1 node t) sm).2.length ≤ sm.2.length + cs.length
  | [], sm => ⟨Nat.le_refl _, Nat.le_refl _, Nat.le_refl _, Nat.le_refl _⟩
  | c :: cs, sm => by
    have h1 := len_exp1 (node := node) t c sm
    have h2 := len_expT t cs (exp1 node t sm c)
    simp only [List.foldl_cons, List.length_cons]
    omega
theorem len_level : ∀ (ts : List Tx) (sm : List N × List Tx), sm.1.length ≤ (ts.foldl (expT node A) sm).1.length ∧ sm.2.length ≤ (ts.foldl (expT node A) sm).2.length ∧ (ts.foldl (expT node A) sm).1.length ≤ sm.1.length + ts.length * A.length ∧ (ts.foldl (expT node A) sm).2.length ≤ sm.2.length + ts.length * A.length
  | [], sm => by simp
  | t :: ts, sm => by
    have h1 := len_expT (node := node) t A sm
    have h2 := len_level ts (expT node A sm t)
    have e : (t :: ts).length * A.length = ts.length * A.length + A.length := by rw [List.length_cons, Nat.succ_mul]
    rw [e]
    have e1 : A.foldl (exp1 node t) sm = expT node A sm t := rfl
    rw [e1] at h1
    show sm.1.length ≤ (ts.foldl (expT node A) (expT node A sm t)).1.length ∧ sm.2.length ≤ (ts.foldl (expT node A) (expT node A sm t)).2.length ∧ (ts.foldl (expT node A) (expT node A sm t)).1.length ≤ _ ∧ (ts.foldl (expT node A) (expT node A sm t)).2.length ≤ _
    omega
theorem bfsOk_pow {a B m : Nat} (hA : A.length ≤ a) (ha : 2 ≤ a) (hB : 2 * a ^ m + a ^ (m + 1) ≤ B) : ∀ (n i : Nat) (seen : List N) (turn : List Tx), turn.length ≤ a ^ i → seen.length ≤ 2 * a ^ i → i + n ≤ m + 1 → bfsOk node A p B n seen turn
  | 0, _, _, _, _, _, _ => trivial
  | n + 1, i, seen, turn, h1, h2, hm => fun _ => by
    obtain ⟨_, _, l1, l2⟩ := len_level (node := node) (A := A) turn (seen, [])
    have m1 : turn.length * A.length ≤ a ^ (i + 1) := by
      rw [Nat.pow_succ]
      exact Nat.mul_le_mul h1 hA
    have m2 : 2 * a ^ i ≤ a ^ (i + 1) := by
      rw [Nat.pow_succ, Nat.mul_comm]
      exact Nat.mul_le_mul (Nat.le_refl _) ha
    have m3 : a ^ i ≤ a ^ m := Nat.pow_le_pow_right (by omega) (by omega)
    have m4 : a ^ (i + 1) ≤ a ^ (m + 1) := Nat.pow_le_pow_right (by omega) (by omega)
    have q1 : (level node A seen turn).1.length ≤ seen.length + turn.length * A.length := l1
    have q2 : (level node A seen turn).2.length ≤ 0 + turn.length * A.length := l2
    exact ⟨by omega, fun _ => bfsOk_pow hA ha hB n (i + 1) _ _ (by omega) (by omega) (by omega)⟩
end
theorem uniq_len (l : Tx) : (uniq l).length ≤ l.length := le_of_sub (uniq_nd l) fun c h => (mem_uniq l c).mp h
theorem few_len {γ : Type} [DecidableEq γ] {f : Nat → γ} : ∀ (l seen : Tx), (fewGo f seen l).length ≤ l.length
  | [], _ => Nat.le_refl _
  | c :: l, seen => by
    have := few_len (f := f) l (seen ++ [c])
    unfold fewGo
    split <;> simp only [List.length_cons] <;> omega
theorem fewT_len {r r' : RS} (ok : r.Ok) (ok' : r'.Ok) : (fewT r r').length ≤ 57 := by
  have h1 := few_len (f := cls r r') (uniq (everyT r r')) []
  have h2 := uniq_len (everyT r r')
  have h3 := every_len ok
  have h4 := every_len ok'
  have h5 : (everyT r r').length = r.every.length + r'.every.length + 37 := by
    simp only [everyT, List.length_cons, List.length_append]
    have : LET.length = 36 := rfl
    omega
  unfold fewT
  omega
/-- what first_parted tells -/
def oV1 : Option Tx → V
  | none => .non
  | some t => .str (S t)
def FirstT (r r' : RS) (o : Option Tx) : Prop := match o with
  | none => SameR r r'
  | some t => MinP r r' t ∧ t.all sgn = true
theorem first_tells {r r' : RS} (ok : r.Ok) (ok' : r'.Ok) : ∃ n o, n ≤ 26 ∧ bfs (fun t => nodeS (nodeA r r' t)) (fewT r r') (fun t => !alikeT r r' t) n [] [[]] = some o ∧ bfsOk (fun t => nodeS (nodeA r r' t)) (fewT r r') (fun t => !alikeT r r' t) 11000000 n [] [[]] ∧ FirstT r r' o := by
  by_cases h : SameR r r'
  · refine ⟨26, none, Nat.le_refl _, first_same ok h nodeS (fun _ => rfl), ?_, h⟩
    refine bfsOk_sub (((keysOf r).map fun k => ((k, k, some ([], [])) : NodeA)).map nodeS) (fun t => List.mem_map.mpr ⟨_, same_node h t, rfl⟩) ?_ 26 [] [[]] List.nodup_nil fun q z => nomatch z
    rw [List.length_map, List.length_map, keys_len]
    have h2 := ok.l2; have h3 := ok.l3
    simp only [RS.quotes, List.length_append]
    omega
  · obtain ⟨t, h1, h2, h3⟩ := first_min (node := fun t => nodeS (nodeA r r' t)) ok ok' h fun u v hu hv _ _ e => nodeS_inj (node_ok ok ok' (few_sgn ok ok' hu)) (node_ok ok ok' (few_sgn ok ok' hv)) e
    refine ⟨4, some t, by decide, h1, ?_, h3, few_sgn ok ok' h2⟩
    exact bfsOk_pow (m := 3) (fewT_len ok ok') (by decide) (by decide) 4 0 [] [[]] (by decide) (by decide) (by decide)
end Qw

set_option Elab.async false
set_option linter.all false
set_option maxRecDepth 100000
set_option maxHeartbeats 4000000
namespace Qw
open PySem L2 PySem
/-! ### sorts of signs as texts -/
def partB (r : RS) (c : Nat) : List Bool := [decide (c ∈ r.breaks), decide (c ∈ r.hard), decide (c ∈ r.soft), decide (c ∈ r.bend), decide (c ∈ r.note)]
def rlB (n : Nat) : List Bool := [decide (n = 0), decide (n = 2), decide (n = 3), decide (n = 4), decide (n = 1)]
theorem part_rl {r : RS} (ok : r.Ok) (c : Nat) : partB r c = rlB (rl r c) := by
  obtain ⟨h1, h2, h3, h4, h5⟩ := rl_iff ok c
  simp only [partB, rlB, h1, h2, h3, h4, h5]
def boolsD (bs : List Bool) : PyData := .list (bs.map PyData.bool)
def sortD (k : Nat × Nat × Bool) : PyData := .list [boolsD (rlB k.1), boolsD (rlB k.2.1), .bool k.2.2]
def sortS (k : Nat × Nat × Bool) : Str := (sortD k).shown
def allSorts : List (Nat × Nat × Bool) := (List.range 6).flatMap fun m => (List.range 6).flatMap fun n => [(m, n, false), (m, n, true)]
theorem mem_sorts {k : Nat × Nat × Bool} (h1 : k.1 ≤ 5) (h2 : k.2.1 ≤ 5) : k ∈ allSorts := by
  obtain ⟨m, n, b⟩ := k
  refine List.mem_flatMap.mpr ⟨m, List.mem_range.mpr (by dsimp only at h1; omega), List.mem_flatMap.mpr ⟨n, List.mem_range.mpr (by dsimp only at h2; omega), ?_⟩⟩
  cases b <;> simp
theorem sorts_nd : (allSorts.map fun k => cps (sortS k)).Nodup := by decide +kernel
theorem inj_of_nd {α β : Type} {f : α → β} : ∀ {l : List α}, (l.map f).Nodup → ∀ x ∈ l, ∀ y ∈ l, f x = f y → x = y
  | [], _, x, h, _, _, _ => nomatch h
  | a :: l, nd, x, hx, y, hy, e => by
    rw [List.map_cons, List.nodup_cons] at nd
    rcases List.mem_cons.mp hx with rfl | hx'
    · rcases List.mem_cons.mp hy with rfl | hy'
      · rfl
      · exact absurd (List.mem_map.mpr ⟨y, hy', e.symm⟩) nd.1
    · rcases List.mem_cons.mp hy with rfl | hy'
      · exact absurd (List.mem_map.mpr ⟨x, hx', e⟩) nd.1
      · exact inj_of_nd nd.2 x hx' y hy' e
theorem sort_inj {r r' : RS} {c d : Nat} : sortS (cls r r' c) = sortS (cls r r' d) ↔ cls r r' c = cls r r' d :=
  ⟨fun e => inj_of_nd sorts_nd (cls r r' c) (mem_sorts (k := cls r r' c) (rl_lt r c) (rl_lt r' c)) (cls r r' d) (mem_sorts (k := cls r r' d) (rl_lt r d) (rl_lt r' d)) (congrArg cps e), fun e => by rw [e]⟩
theorem sorts_fit : allSorts.all (fun k => (sortD k).showable && !(sortD k).hasDict && decide ((sortD k).depth ≤ 32) && decide ((cps (sortS k)).length ≤ 1000)) = true := by decide +kernel
theorem sort_fits (r r' : RS) (c : Nat) : (sortD (cls r r' c)).showable = true ∧ (sortD (cls r r' c)).hasDict = false ∧ (sortD (cls r r' c)).depth ≤ 32 ∧ (sortD (cls r r' c)).shown.length ≤ sizeLine := by
  have := List.all_eq_true.mp sorts_fit (cls r r' c) (mem_sorts (k := cls r r' c) (rl_lt r c) (rl_lt r' c))
  simp only [Bool.and_eq_true, Bool.not_eq_true', decide_eq_true_eq] at this
  obtain ⟨⟨⟨h1, h2⟩, h3⟩, h4⟩ := this
  exact ⟨h1, h2, h3, Nat.le_trans (show (sortS (cls r r' c)).length ≤ 1000 from h4) (by decide)⟩
/-! ### unlike signs in turn -/
theorem uniq_range (l : Tx) : ∀ n, n ≤ l.length → ((List.range n).filter fun i => decide (l.getD i 0 ∉ l.take i)).map (fun i => l.getD i 0) = uniq (l.take n)
  | 0, _ => rfl
  | n + 1, h => by
    have hc : l[n]? = some l[n] := List.getElem?_eq_getElem h
    have ih := uniq_range l n (by omega)
    rw [List.range_succ, List.filter_append, List.map_append, ih, List.take_succ, hc]
    show _ = uniq (l.take n ++ [l[n]])
    rw [uniq_snoc]
    simp only [mem_uniq]
    have e : l.getD n 0 = l[n] := by rw [List.getD_eq_getElem?_getD, hc]; rfl
    by_cases q : l[n] ∈ l.take n
    · rw [if_pos q, List.filter_cons, if_neg (by rw [e]; simpa using q)]
      simp
    · rw [if_neg q, List.filter_cons, if_pos (by rw [e]; simpa using q)]
      simp only [List.filter_nil, List.map_cons, List.map_nil, e]
/-! ### counts of sorts -/
section
variable {γ : Type} [DecidableEq γ] (f : Nat → γ)
def cntF (seen : Tx) (g : γ) : Nat := (seen.filter fun x => decide (f x = g)).length
/-- the dict's entries: counts of the sorts seen -/
def CntD (enc : γ → Str) (kvs : List (Key × V)) (seen : Tx) : Prop := ∀ c, valV kvs (.inr (enc (f c))) = if cntF f seen (f c) = 0 then none else some (.int (cntF f seen (f c) : Nat))
theorem CntD.nil (enc : γ → Str) : CntD f enc [] [] := fun c => by simp [cntF, valV_nil]
theorem CntD.put {enc : γ → Str} {kvs : List (Key × V)} {seen : Tx} (h : CntD f enc kvs seen) (inj : ∀ c d, enc (f c) = enc (f d) ↔ f c = f d) (x : Nat) : CntD f enc (putK kvs (.inr (enc (f x))) (.int ((cntF f seen (f x) + 1 : Nat) : Int))) (seen ++ [x]) := fun c => by
  have e : cntF f (seen ++ [x]) (f c) = cntF f seen (f c) + if f x = f c then 1 else 0 := cnt_snoc seen x (f c)
  rw [valV_put]
  by_cases q : f c = f x
  · rw [if_pos (show (Sum.inr (enc (f c)) : Key) = .inr (enc (f x)) by rw [q]), e, if_pos q.symm, if_neg (by omega), q]
  · have e' : cntF f (seen ++ [x]) (f c) = cntF f seen (f c) := by
      rw [e, if_neg (fun z => q z.symm), Nat.add_zero]
    rw [e', if_neg (fun z => q ((inj c x).mp (Sum.inr.inj z)))]
    exact h c
theorem CntD.get {enc : γ → Str} {kvs : List (Key × V)} {seen : Tx} (h : CntD f enc kvs seen) (c : Nat) : (valV kvs (.inr (enc (f c)))).getD (.int 0) = .int (cntF f seen (f c) : Nat) := by
  rw [h c]
  split
  · rename_i z; rw [z]; rfl
  · rfl
end
end Qw

set_option Elab.async false
set_option linter.all false
set_option maxRecDepth 100000
set_option maxHeartbeats 4000000
namespace Qw
open PySem L2 PySem.Spec PyProof.Rows
/-! ### enumerate(text) -/
/-- each sign in a new pair -/
def Ites (x : Str) : It :=
  ⟨fun i _ => i < x.cps.size, fun i H v H' => ∃ T c, v = .ref T ∧ H T = none ∧ H' = upd H T (.tup [.int (i : Nat), .str ⟨#[c]⟩]) ∧ x.cps[i]? = some c, fun i _ => i = x.cps.size⟩
theorem turn_enumS {P : Program} {w : World} {K : PySem.W.Frag} {elts : List Expr} {kk : Nat} {tpos : Pos} (x : Str) (t : Tok) (e it : Addr) :
    Turn P w K (.Tuple elts kk tpos) (Ites x) [e, it] e (fun i h => (∃ old, IsEnum h e it ((i : Nat) : Int) old) ∧ h.IsStrIter it (strIterType x) x t i ∧ e ≠ it) where
  mem := by simp
  obj := fun i h st b hb => by
    obtain ⟨⟨old, he⟩, ⟨o, ho, hc, hd⟩, _⟩ := st
    have e' : b = e ∨ b = it := by simpa using hb
    rcases e' with z | z
    · rw [z]; exact ⟨_, he, fun v q => nomatch q⟩
    · rw [z]; exact ⟨o, ho, fun v q => by rw [hd] at q; cases q⟩
  keep := fun i h h' st k => let ⟨⟨old, he⟩, ⟨o, ho, r⟩, hne⟩ := st; ⟨⟨old, k e (by simp) _ he⟩, ⟨o, k it (by simp) o ho, r⟩, hne⟩
  item := by
    intro X hP hw hK hc i pins s σ H E I hf st hg
    subst hP hw hK
    obtain ⟨⟨old, he⟩, hit, hne⟩ := st
    have D := Draws.text (prog := X.prog) (w := X.w) (A := X.A.in1) (I.ok.hd hc) it x t
    have hel : e < s.heap.objs.size := Heap.lt_size he
    have hil : it < s.heap.objs.size := by obtain ⟨_, q, _⟩ := hit; exact Heap.lt_size q
    refine wpAny_pyNext_enum_itemD D he hit hg hne (by simpa using hne) fun v h' tk hv ho hit' hT hsz hk => ?_
    obtain ⟨c, u, hcx, rfl⟩ := hv
    refine ⟨_, rfl, wpAny_letOwnedTupleGo_enum (s := { s with heap := h', toks := tk + 1 }) ho fun h'' he' sb => ?_⟩
    have hT2 : h''.get? s.heap.objs.size = some { cls := .type "tuple", data := .seq #[.int i tk, .str ⟨#[c]⟩ u] } := (sb.2 _ (Nat.ne_of_gt hel)).trans hT
    have new : ObjOk X.prog X.w (upd H s.heap.objs.size (.tup [.int (i : Nat), .str ⟨#[c]⟩])) h'' s.heap.objs.size (.tup [.int (i : Nat), .str ⟨#[c]⟩]) :=
      ⟨by show 2 ≤ sizeLine; decide, [.int i tk, .str ⟨#[c]⟩ u], .cons ⟨_, rfl⟩ (.cons ⟨_, rfl⟩ .nil), ⟨_, hT2, rfl, _, rfl⟩⟩
    have I1 : Inv X pins σ (upd H s.heap.objs.size (.tup [.int (i : Nat), .str ⟨#[c]⟩])) { s with heap := h'', toks := tk + 1 } :=
      I.turnedNew (ch := [e, it]) (fun b ob hb q => (sb.2 b (fun z => hb (by simp [z]))).trans (hk b ob (fun z => hb (by simp [z])) (fun z => hb (by simp [z])) q)) hf (Nat.le_refl _) new
    refine ⟨.ref s.heap.objs.size, _, I1, rfl, ⟨_, c, rfl, I.hok.fresh (Nat.le_refl _), rfl, hcx⟩, ⟨⟨.str ⟨#[c]⟩ u, ?_⟩, ?_, hne⟩, fun b hb => ?_⟩
    · have e1 : ((i + 1 : Nat) : Int) = (i : Int) + 1 := by omega
      rw [e1]; exact he'
    · obtain ⟨o, ho', r⟩ := hit'
      exact ⟨o, (sb.2 it (Ne.symm hne)).trans ho', r⟩
    · have hb' : b < s.heap.objs.size := by
        have e' : b = e ∨ b = it := by simpa using hb
        rcases e' with z | z
        · rw [z]; exact hel
        · rw [z]; exact hil
      rw [upd_ne (Nat.ne_of_lt hb')]
      exact (hf b hb).1
  done := by
    intro X hP hw hK hc i pins s σ H E I hf st hg
    subst hP hw hK
    obtain ⟨⟨old, he⟩, hit, hne⟩ := st
    obtain ⟨f0, f1, f2, f3, f4, f5⟩ := hf it (by simp)
    have D := Draws.text (prog := X.prog) (w := X.w) (A := X.A.in1) (I.ok.hd hc) it x t
    have hg : i = x.cps.size := hg
    subst hg
    exact wpAny_pyNext_enum_endD D he hit fun h' eb => ⟨rfl, I.turned (t' := s.toks) (fun b o hb q => eb b o (by simpa using hb) q) f0 f1 f3 f4 f5⟩
  self := fun A i s Q E st h => let ⟨⟨_, he⟩, _⟩ := st; wpAny_pyIter_enum he h
def iEnumS (ta : TA) : TI := fun σ H R => ta σ H fun vs H1 => ∃ x, vs = [.str x] ∧ R (Ites x) H1
theorem pi_enumS {X : Cx} {e : Expr} {ta : TA} {p pos tpos : Pos} {elts : List Expr} {kk : Nat} (hg : Gl X "enumerate") (hm : X.mg "enumerate" = none) (ha : PA X [e] ta) (hs : starEach [e] X.env = [(false, eval e X.env)] := by rfl) :
    PI X (.Tuple elts kk tpos) (.Call (.Name "enumerate" p) [e] [] pos) (iEnumS ta) := by
  refine ⟨fun pins s σ H R I h => ?_⟩
  refine Call_ (ld_blt I hg hm boot_enumerate (PyProof.Rows.callWith_type1 (thn (ha.run pos pins s σ H _ I h) fun us s1 ⟨vs, H1, I1, r1, q1⟩ => ?_) hs rfl))
  obtain ⟨x, ex, q⟩ := q1
  subst ex
  obtain ⟨u, rfl, t, rfl⟩ := vals1 r1
  refine call_enumerate_str fun h' he hit hsz hk => wpAny_pyIter_enum he ?_
  have I2 : Inv X pins σ H1 { s1 with heap := h' } := I1.kept (t' := s1.toks) hk
  refine ⟨s1.heap.objs.size + 1, [s1.heap.objs.size + 1, s1.heap.objs.size], _, _, H1, rfl, I2, turn_enumS x t (s1.heap.objs.size + 1) s1.heap.objs.size, ⟨⟨.none, he⟩, hit, Nat.succ_ne_self _⟩, fun b hb => ?_, q⟩
  have e' : b = s1.heap.objs.size + 1 ∨ b = s1.heap.objs.size := by simpa using hb
  have hle : s1.heap.objs.size ≤ b := by
    rcases e' with z | z
    · rw [z]; exact Nat.le_add_right _ _
    · rw [z]; exact Nat.le_refl _
  exact I1.fpOk hle (I1.hok.fresh hle)
theorem walk_enumS {t : Tx} : Walk (Ites (S t)) t.length (fun _ => True) (fun i H v H' => ∃ T c, v = .ref T ∧ H T = none ∧ H' = upd H T (.tup [.int (i : Nat), .str (S [c])]) ∧ t[i]? = some c) where
  goes := fun i _ hi _ => by show i < (S t).cps.size; rw [show (S t).cps.size = t.length by simp [S]]; exact hi
  stops := fun _ _ => by show t.length = (S t).cps.size; simp [S]
  yields := fun i H v H' _ _ ⟨T, c, a1, a2, a3, a4⟩ => ⟨T, c, a1, a2, a3, by simpa [S] using a4⟩
end Qw

set_option Elab.async false
set_option linter.all false
set_option maxRecDepth 100000
set_option maxHeartbeats 4000000
namespace Qw
open PySem L2 PySem.Spec PyProof.Rows
/-! ### C() of a class without an __init__ of its own -/
def tMakeBare (C : Addr) : TE := fun _ H Q => ∀ x dx, H x = none → H dx = none → dx ≠ x → Q (.ref x) (upd (upd H dx (.own x)) x (.ins C dx []))
section
variable {X : Cx} {k : Nat} {f C : Addr} {fd : FuncData} {ps : List Str} {sp : Sp} {E : XK} {x m : Str} {p pos apos : Pos} {e o : Expr} {es : List Expr} {ta : TE} {t : TA}
theorem pe_makeBare (M : Mk0 X.K C) (hr : Room (k + 1) X.A) (hg : Gl X x) (hm : X.mg x = some (.ref C)) (hdb : (x == ("__debug__" : Str)) = false := by decide) : PE X (.Call (.Name x p) [] [] pos) (tMakeBare C) := by
  refine ⟨fun pins s σ H Q I h => ?_⟩
  refine wpAny_Call_Name_kw (ld_glob I hg hm ?_ hdb)
  refine PySem.W.callWith_K0 I.kIn M.kp ?_
  have hq := h (s.heap.objs.size + 1) s.heap.objs.size (I.hok.fresh (Nat.le_succ _)) (I.hok.fresh (Nat.le_refl _)) (Nat.ne_of_lt (Nat.lt_succ_self _))
  have I2 := Inv.made (C := C) I
  have Y := PySem.W.makes_of (M := model X.prog X.w) I.kIn M.makes
  have hx : ((s.heap.push PySem.W.emptyDict).push (PySem.W.instObj C s.heap.objs.size)).get? (s.heap.objs.size + 1) = some (PySem.W.instObj C s.heap.objs.size) := by
    rw [← Heap.size_push s.heap PySem.W.emptyDict]
    exact Heap.get?_push_size _ rfl
  refine wpAny_call (make_map0 I.kIn M.makes M.init (fun self => PySem.W.Looks.of_pure (PySem.W.oi_bind self)) ?_)
  have t1 : PySem.W.Looks (model X.prog X.w) ((s.heap.push PySem.W.emptyDict).push (PySem.W.instObj C s.heap.objs.size)) (typeOf (.ref (s.heap.objs.size + 1))) (.ref C) := (PySem.W.Looks.ld hx).andThen .now
  have t2 : PySem.W.Looks (model X.prog X.w) ((s.heap.push PySem.W.emptyDict).push (PySem.W.instObj C s.heap.objs.size)) (isInstance (.ref (s.heap.objs.size + 1)) (.type "object")) true := t1.andThen (Y.top.keeps fun b o e => Heap.get?_push_of_some _ (Heap.get?_push_of_some _ e))
  refine codeAny_call_builtin PySem.W.oi_plain PySem.W.entry_oi (PySem.W.check_slot PySem.W.oi_kind PySem.W.oi_split t2 (PySem.W.oi_args (.ref (s.heap.objs.size + 1))) ?_)
  rw [PySem.W.oi_run]
  exact wpAny_pure (And.intro rfl ⟨V.ref (s.heap.objs.size + 1), _, I2, rfl, hq⟩)
/-! ### o.m(..) of a def that knows that no list is being shown -/
theorem pe_methG {pl : Sem Bool} (he : PE X o ta) (c : Cls X.K C) (hm : Meth X.K C m f) (F : FnG X.prog X.w X.K X.mg X.base k f fd ps sp) (hf : Free X.A) (hr : Room k X.A) (hb : Binds X.K fd ps []) (ha : PA X (e :: es) t)
    (hst : starEach (e :: es) X.env = (false, eval e X.env) :: starEach es X.env := by rfl) (hpl : (backTo pos (starEach es X.env)).any (·.1) = false := by rfl)
    (ht : eval (.Call (.Attribute o m apos) (e :: es) [] pos) X.env = (do
      let ov ← eval o X.env
      standAt apos.atName
      let (f, first) ← holding [ov] (getMethod ov m pl)
      callWith pos f first (backTo pos (starEach (e :: es) X.env)) (backToKw pos (keywordEach [] X.env))) := by rfl) :
    PE X (.Call (.Attribute o m apos) (e :: es) [] pos) (tMeth C m sp [] E0 ta t) := by
  refine ⟨fun pins s σ H Q I h => ?_⟩
  refine PySem.W.methodCall_KW (pl := pl) (thn (he.run pins s σ H _ I h) fun u s1 ⟨x, H1, I1, rx, a, dx, fs, ex, ea, l, q⟩ => ?_) ht
  subst ex
  obtain rfl : u = Value.ref a := rx
  refine getmeth_ok I1 ea c hm l ?_
  refine PySem.W.callWith_K (first := [.ref a]) (h₀ := X.base) I.ok.mod.kin hm.kp (thn (ha.run pos pins s1 σ H1 _ I1 q) fun us s2 ⟨vs, H2, I2, r, q2⟩ => ⟨I2.kIn, ?_⟩) hst hpl
  have q2 : sp (.ref a :: (vs ++ [])) H2 Q E0 := q2
  rw [List.append_nil] at q2
  exact run_fnG (us := .ref a :: us) (vs := .ref a :: vs) F hf hr hb I2 (.cons rfl r) q2
end
/-! ### sorted(text) -/
section
variable {X : Cx}
def rSortTx : List V → Hp → VK → Prop := fun xs H Q => ∃ l : Tx, xs = [.str (S l)] ∧ l.length < 64 ∧ ∀ (ys : List Str) (p : Addr), ys.Perm (l.map fun c => S [c]) → sortedS ys = true → H p = none → Q (.ref p) (upd H p (.lst (ys.map V.str)))
theorem strs_signs : ∀ {l : Tx} {vs : List Value}, vs.length = l.length → (∀ (j : Nat) (v : Value), vs[j]? = some v → ∃ c u, l[j]? = some c ∧ v = .str (S [c]) u) → StrsAre vs (l.map fun c => S [c])
  | [], [], _, _ => .nil
  | [], _ :: _, h, _ => by cases h
  | _ :: _, [], h, _ => by cases h
  | c :: l, v :: vs, h, k => by
    obtain ⟨c', u, e1, e2⟩ := k 0 v rfl
    cases (Option.some.inj e1 : c = c')
    rw [e2]
    exact StrsAre.cons _ u (strs_signs (by simpa using h) fun j v hv => k (j + 1) v hv)
theorem cr_sortTx (hc : X.calm = true) : CallR X (.builtin "sorted") rSortTx := by
  intro pins s σ H vs us Q I r h
  obtain ⟨l, rfl, h64, q⟩ := h
  obtain ⟨u, rfl, t, rfl⟩ := vals1 r
  have hz : (S l).cps.size ≤ sizeLine := by rw [S_size]; exact Nat.le_trans (Nat.le_of_lt h64) (by decide)
  refine Calls.call_function_entry kind_sorted plain_sorted entry_sorted (args_sorted1 _) ?_
  unfold Builtin.«sorted»
  refine wpAny_bind (m := checkCount "sorted" 1 1 _) (wpAny_pure ?_)
  refine wpAny_bind (wpAny_collect_str (hn := hz) (show X.A.in1.handled = none from I.ok.hd hc) (S l) t fun s' acc k1 g d o hi => ?_)
  have hS : StrsAre acc.toList (l.map fun c => S [c]) := by
    refine strs_signs (by rw [← S_size l]; exact hi.1) fun j v hv => ?_
    rw [Array.getElem?_toList] at hv
    obtain ⟨c, u, e1, e2⟩ := hi.2 j v hv
    exact ⟨c, u, by simpa [S] using e1, e2⟩
  have hl : acc.toList.length = l.length := by rw [← S_size l]; exact hi.1
  refine wpAny_bind (wpAny_newList ?_)
  have hoL : (s'.heap.push (seqObj "list" acc.toList.toArray 0)).get? s'.heap.objs.size = some (seqObj "list" acc.toList.toArray 0) := Heap.get?_push_size _ rfl
  have hlt : s'.heap.objs.size < (s'.heap.push (seqObj "list" acc.toList.toArray 0)).objs.size := by rw [Heap.size_push]; exact Nat.lt_succ_self _
  refine wpAny_bind (wpAny_holding (wpAny_call_entry slot_list_sort ⟨_, hoL, rfl⟩ entry_list_sort (list_sort_treeK strKind_oneLt hoL hS.keysOf (fun v₁ v₂ rest e => keyKind_strs (by rw [← e]; exact hS)) (by rw [hl]; exact h64) fun st' hp hs => ⟨_, rfl, ?_⟩) (args_list_sort _)))
  obtain ⟨ys, a1, a2, a3⟩ := sorted_out_str hS hp hs
  obtain ⟨ep, he⟩ := sortedHeap_at (vs := acc.toList) (out := (arrOf st').map (·.2)) hoL
  have fr : H s'.heap.objs.size = none := (I.hok.kept k1).fresh (Nat.le_refl _)
  have hp0 : s.heap.get? s'.heap.objs.size = none := by
    cases z : s.heap.get? s'.heap.objs.size with
    | none => rfl
    | some o => exact absurd (Heap.lt_size (k1 _ _ z)) (Nat.lt_irrefl _)
  have e : ({ s' with heap := sortedHeap (s'.heap.push (seqObj "list" acc.toList.toArray 0)) s'.heap.objs.size acc.toList ((arrOf st').map (·.2)) } : Shared) = { s with heap := sortedHeap (s'.heap.push (seqObj "list" acc.toList.toArray 0)) s'.heap.objs.size acc.toList ((arrOf st').map (·.2)), toks := s'.toks } := by
    cases s'
    cases s
    cases g
    cases d
    cases o
    rfl
  have hlen : (ys.map V.str).length ≤ sizeLine := by rw [List.length_map, a2.length_eq, List.length_map]; exact Nat.le_trans (Nat.le_of_lt h64) (by decide)
  refine wpAny_pure ⟨_, rfl, ?_⟩
  show EP X pins σ Q _ ({ s' with heap := sortedHeap (s'.heap.push (seqObj "list" acc.toList.toArray 0)) s'.heap.objs.size acc.toList ((arrOf st').map (·.2)) } : Shared)
  rw [e]
  exact ⟨.ref s'.heap.objs.size, _, I.laidN (t' := s'.toks) (o := .lst (ys.map V.str)) (fun b u hb => by
      have hb' := k1 _ _ hb
      have lt' := Heap.lt_size hb'
      rw [sortedHeap_old (Nat.ne_of_lt lt') (Nat.lt_trans lt' hlt)]
      exact Heap.get?_push_of_some _ hb') hp0 fr ⟨hlen, _, ep, vals_of_strs a1, he⟩, rfl, q ys _ a2 a3 fr⟩
end
end Qw

set_option Elab.async false
set_option linter.all false
set_option maxRecDepth 100000
set_option maxHeartbeats 4000000
namespace Qw
open PySem L2
local macro_rules | `(tactic| walk_at "rd") => `(tactic| simp only [iEnum, iRng3, tRevL, rSlS, rSlL, gSub, rSetL, wipe, List.map_cons, List.map_nil, rAll, rAny, rIsi, tM1, tM0, iZipLT, iZip, iRng2, tLenSetS, rListStr, rMulS, rRep, rCntB, tRevS, rNeD, rEqD, tSeq, tNext, tAsg, tRet, tRetN, tDrop, tIfS, sFld, sFldAug, tVar, tC, tOp, tUn, tTest, tB, tAnd, tOr, tNot, tAndV, tOrV, tNotV, tIf, tTup, tLst, tCons, tNil, tCB, tCall, tMeth, tMake, tFld, rI, rI0, rU, rEq, rNe, rCat, gName, gTup, gCons, gNil, tPar, tPar3, tBM, tBM0, rAppend, rExtend, rPopAt, rIxL, rIxT, rIxS, tSl, rSlS, rSlL, tPart, tNoPart, iStr, iTup, iList, iRng1, tAug, ipI, L2.rAdd, L2.rSub, L2.rAddS, tChain, rIsB, rNotB, scal_ss, scal_ii, scal_bb, scal_nn, scal_in, scal_ni, tYes,
  cx_K, cx_N, List.getElem?_cons_zero, List.getElem?_cons_succ, List.set_cons_zero, List.set_cons_succ, List.nil_append, List.cons_append, List.append_nil, List.length_cons, List.length_nil, Nat.zero_add,
  Option.some.injEq, V.ref.injEq, V.int.injEq, V.str.injEq, V.bl.injEq, HO.ins.injEq, HO.lst.injEq, HO.tup.injEq, List.cons.injEq, exists_eq_left, exists_eq_left', exists_eq_right, exists_eq_right', and_true, true_and, exists_and_left, exists_and_right, and_assoc, decide_eq_true_eq, Bool.not_eq_true', decide_eq_false_iff_not, reduceCtorEq, exists_const, forall_const, if_true, if_false, false_and, and_false, ite_true, ite_false, Bool.true_eq_false, Bool.false_eq_true, Nat.reduceLeDiff, Nat.reduceAdd, small_line, small_lt, upd_ne, ne_eq, not_false_eq_true, Nat.zero_le, Prod.mk.injEq, upd_same, upd_upd, S_tl, S_len, S_app, S_one, S_inj,
  lk_breaks, lk_hard, lk_soft, lk_bend, lk_note, lk_rules, lk_state, lk_bent, lk_word, lk_begun, lk_opened, lk_place, pt_state, pt_bent, pt_word, pt_wordS, pt_wordN, pt_begun, pt_opened, pt_place, pt_place1, len_mf, litv_empty, litv_note, litv_nl, mf_inj, rf_inj, lkn_begin, lkn_ended, lkn_plain, lkn_quoted, lkn_step, lkn_fault, lkn_key, lkn_told, lkn_quotes, lkn_special, pt_open1, not_true_eq_false, not_false_eq_true])
local macro_rules | `(tactic| walk_at "rdh") => `(tactic| simp only [iEnum, iRng3, tRevL, rSlS, rSlL, gSub, rSetL, wipe, List.map_cons, List.map_nil, rAll, rAny, rIsi, tM1, tM0, iZipLT, iZip, iRng2, tLenSetS, rListStr, rMulS, rRep, rCntB, tRevS, rNeD, rEqD, tSeq, tNext, tAsg, tRet, tRetN, tDrop, tIfS, sFld, sFldAug, tVar, tC, tOp, tUn, tTest, tB, tAnd, tOr, tNot, tAndV, tOrV, tNotV, tIf, tTup, tLst, tCons, tNil, tCB, tCall, tMeth, tMake, tFld, rI, rI0, rU, rEq, rNe, rCat, gName, gTup, gCons, gNil, tPar, tPar3, tBM, tBM0, rAppend, rExtend, rPopAt, rIxL, rIxT, rIxS, tSl, rSlS, rSlL, tPart, tNoPart, iStr, iTup, iList, iRng1, tAug, ipI, L2.rAdd, L2.rSub, L2.rAddS, tChain, rIsB, rNotB, scal_ss, scal_ii, scal_bb, scal_nn, scal_in, scal_ni, tYes,
  cx_K, cx_N, List.getElem?_cons_zero, List.getElem?_cons_succ, List.set_cons_zero, List.set_cons_succ, List.nil_append, List.cons_append, List.append_nil, List.length_cons, List.length_nil, Nat.zero_add,
  Option.some.injEq, V.ref.injEq, V.int.injEq, V.str.injEq, V.bl.injEq, HO.ins.injEq, HO.lst.injEq, HO.tup.injEq, List.cons.injEq, exists_eq_left, exists_eq_left', exists_eq_right, exists_eq_right', and_true, true_and, exists_and_left, exists_and_right, and_assoc, decide_eq_true_eq, Bool.not_eq_true', decide_eq_false_iff_not, reduceCtorEq, exists_const, forall_const, if_true, if_false, false_and, and_false, ite_true, ite_false, Bool.true_eq_false, Bool.false_eq_true, Nat.reduceLeDiff, Nat.reduceAdd, small_line, small_lt, upd_ne, ne_eq, not_false_eq_true, Nat.zero_le, Prod.mk.injEq, upd_same, upd_upd, S_tl, S_len, S_app, S_one, S_inj,
  lk_breaks, lk_hard, lk_soft, lk_bend, lk_note, lk_rules, lk_state, lk_bent, lk_word, lk_begun, lk_opened, lk_place, pt_state, pt_bent, pt_word, pt_wordS, pt_wordN, pt_begun, pt_opened, pt_place, pt_place1, len_mf, litv_empty, litv_note, litv_nl, mf_inj, rf_inj, lkn_begin, lkn_ended, lkn_plain, lkn_quoted, lkn_step, lkn_fault, lkn_key, lkn_told, lkn_quotes, lkn_special, pt_open1, not_true_eq_false, not_false_eq_true, *])
local macro_rules | `(tactic| walk_at "pl") => `(tactic| (first | decide | (refine Nat.lt_of_le_of_lt (length_putF _ _ _) ?_; repeat (first | decide | refine pl2 ?_))))
local macro_rules | `(tactic| walk_at "al") => `(tactic| (intro p hp; generalize hH : upd _ p _ = H1; obtain ⟨S, e⟩ := gen_new hH hp; clear hH))
theorem walk_zipLT {K : PySem.W.Frag} {p q : Addr} {xs ys : List V} {n : Nat} (hn : n = min xs.length ys.length) : Walk (ItzLT K p q) n (fun H => SqL K H p xs ∧ SqT K H q ys) (YPair (fun i => xs[i]?) (fun i => ys[i]?)) := by
  subst hn
  refine ⟨fun i H hi g => ⟨xs, ys, g.1, g.2, hi⟩, fun H g => ⟨xs, ys, g.1, g.2, rfl⟩, ?_⟩
  rintro i H v H' hi g ⟨T, x, y, h1, h2, h3, h4, h5⟩
  exact ⟨T, x, y, h1, h2, h3, h4 _ g.1, h5 _ g.2⟩
def WF (p q : Addr) : List (Str × V) := [("words", .ref p), ("places", .ref q)]
theorem Paired.at' {α β : Type} {F : α → β → Prop} : ∀ {l : List α} {m : List β} {i : Nat} {x : α} {y : β}, Paired F l m → m[i]? = some y → l[i]? = some x → F x y
  | _, _, 0, _, _, .cons r _, h1, h2 => by cases h1; cases h2; exact r
  | _, _, i + 1, _, _, .cons _ t, h1, h2 => Paired.at' t (by simpa using h1) (by simpa using h2)
  | _, _, _, _, _, .nil, h1, _ => by simp at h1
theorem fnds_pl {H : Hp} : ∀ {xs : List V} {ds : List W3}, Fnds H xs ds → ∃ us : List V, us.length = ds.length ∧ Paired (Pls H) us (ds.map fun d => ((d.2.1 : Int), (d.2.2 : Int))) ∧
    ∀ (i : Nat) (x u : V), xs[i]? = some x → us[i]? = some u → ∃ b w, x = .ref b ∧ H b = some (.tup [w, u])
  | _, _, .nil => ⟨[], rfl, .nil, fun i x u h _ => by simp at h⟩
  | _, _, .cons r t => by
    obtain ⟨us, h1, h2, h3⟩ := fnds_pl t
    obtain ⟨b, u, rfl, g1, g2⟩ := r
    refine ⟨.ref u :: us, by simp [h1], .cons ⟨u, rfl, g2⟩ h2, fun i x v e1 e2 => ?_⟩
    match i, e1, e2 with
    | 0, e1, e2 => cases e1; cases e2; exact ⟨b, _, rfl, g1⟩
    | i + 1, e1, e2 => exact h3 i x v (by simpa using e1) (by simpa using e2)
section
variable {P : Program} {w : World} {K : PySem.W.Frag} {mg : Str → Option Value} {base : Heap} {a : Ad}
def sp_are_signs (a : Ad) : Sp := fun vs H Q _ => ∃ t, vs = [.str (S t)] ∧ t.length ≤ 50000 ∧ ∀ H', Same H H' → Q (.bl (t.all sgn)) H'
theorem ok_are_signs (T : Txt K mg a) : FnOk P w K mg base CX0 1 a.f_are_signs a.d_are_signs P_are_signs (sp_are_signs a) := by
  refine T.F_are_signs.ok sc_are_signs (fun vs H Q E h => ?_) (fun cdv A outer s H vs Q E hr h => ?_)
  · obtain ⟨t, rfl, _⟩ := h
    rfl
  · obtain ⟨t, rfl, ht, k⟩ := h

    refine ⟨_,
(pss_one (ps_ret (pe_and (pe_callB (call_isi) (by rfl) T.b_isinstance (by decide +kernel) (pa_cons (pv 0) (pa_cons (pe_bltn (v := .ty "str") (u := .type "str") rfl T.b_str (by decide +kernel) rfl) pa_nil))) (pe_one (pe_callB (cr_all rfl) (by rfl) T.b_all (by decide +kernel) (pa_cons (pe_lc (own := [("sign", 1)]) (g := gName 1) (tt := tYes) rfl sc_are_signs.nd (pi_str (pv 0)) (blkOk_by (own := [("sign", 1)]) (N := N_are_signs) (sc := defScope st_are_signs) (by decide +kernel)) (fun _ _ _ _ _ => (pg_name (i := 1) sc_are_signs.nd rfl (by first | exact Or.inl rfl | exact Or.inr rfl))) (fun _ _ _ _ _ => pts_nil) (fun _ _ _ _ _ => (pe_or (pe_chain op_le_str op_le_str pe_str (pv 1) pe_str) (pe_one (pe_cmpR op_eq (pv 1) (pe_glob (v := .str ("\n" : Str)) rfl T.g_LINE_END ⟨_, rfl⟩) (nomark _)))))) pa_nil))))))
      , ?_⟩
    rw [show start N_are_signs [V.str (S t)] = [some (.str (S t)), none] from rfl]
    walk_at "rdh"
    refine ⟨_, _, .ty _, .base (.str _), _, kit_ty (b := "str") (r := true) (by decide +kernel), ?_⟩
    refine iteT (tlc_map t (fun c => .bl (sgn c)) (J := Its (S t)) (H1 := H) (fun R hR => ?_) walk_text (by omega) (fun _ _ => trivial) ?_ ?_)
    · exact ⟨_, rfl, _, rfl, hR⟩
    · rintro R R' i c x H2 H3 hi s1 ⟨rfl, c', hc, rfl⟩ hR
      rw [hi] at hc
      cases hc
      walk_at "rdh"
      rw [show (Str.ofString " ").cps.toList = [32] by decide +kernel, show (Str.ofString "~").cps.toList = [126] by decide +kernel]
      have e1 := one_lt c 32
      have e2 := one_lt 126 c
      rw [sgn] at hR
      have hR := hR H3 (Same.refl _)
      refine ite2 (fun c1 => ?_) (fun c1 => ?_)
      · rw [e1] at c1
        refine ite2 (fun c2 => ?_) (fun c2 => ?_)
        · rw [e2] at c2
          rw [decide_eq_true (show 32 ≤ c ∧ c ≤ 126 by omega)] at hR
          exact hR
        · rw [e2] at c2
          rw [decide_eq_false (show ¬ (32 ≤ c ∧ c ≤ 126) by omega)] at hR
          exact hR
      · rw [e1] at c1
        rw [decide_eq_false (show ¬ (32 ≤ c ∧ c ≤ 126) by omega)] at hR
        exact hR
    · intro D H2 hD s1 e
      walk_at "rdh"
      refine ⟨t.map sgn, .inl (.inl (by rw [List.map_map]; exact e)), ?_⟩
      rw [List.all_map]
      exact k H2 s1
def sp_Rules_init (a : Ad) : Sp := fun vs H Q _ => ∃ p dx r, vs = [.ref p, .str (S r.breaks), .str (S r.hard), .str (S r.soft), .str (S r.bend), .str (S r.note)] ∧ r.Ok ∧ H p = some (.ins a.c_Rules dx []) ∧
  ∀ H', H' p = some (.ins a.c_Rules dx (RS.f r)) → Kp p H H' → Q .non H'
theorem ok_Rules_init (T : Txt K mg a) : FnOk P w K mg base CX0 2 a.f_Rules_init a.d_Rules_init P_Rules_init (sp_Rules_init a) := by
  refine T.F_Rules_init.ok sc_Rules_init (fun vs H Q E h => ?_) (fun cdv A outer s H vs Q E hr h => ?_)
  · obtain ⟨p, dx, r, rfl, _⟩ := h
    rfl
  · obtain ⟨p, dx, r, rfl, ok, hM, k⟩ := h
    have G_are_signs := ok_are_signs (P := P) (w := w) (base := base) T
    have B_are_signs := bi_are_signs T
    refine ⟨_,
(pss_cons (ps_set (i := 6) sc_Rules_init.nd rfl (by first | exact Or.inl rfl | exact Or.inr rfl) (pe_lst (pa_cons (pv 1) (pa_cons (pv 2) (pa_cons (pv 3) (pa_cons (pv 4) (pa_cons (pv 5) pa_nil)))))))
    (pss_cons (ps_if (PW.pt (pw_or (pt_not (pt_val (pe_callB (cr_all rfl) (by rfl) T.b_all (by decide +kernel) (pa_cons (pe_lc (own := [("part", 8), ("most", 9)]) (g := gTup _ 2 (gCons (gName 8) (gCons (gName 9) (gNil)))) (tt := tYes) rfl sc_Rules_init.nd (pi_zipLT rfl T.b_zip (pa_cons (pv 6) (pa_cons (pe_glob (v := .ref a.a_MOST) rfl T.g_MOST rfl) pa_nil))) (blkOk_by (own := [("part", 8), ("most", 9)]) (N := N_Rules_init) (sc := defScope st_Rules_init) (by decide +kernel)) (fun _ _ _ _ _ => (pg_tup rfl (pgs_cons (pg_name (i := 8) sc_Rules_init.nd rfl (by first | exact Or.inl rfl | exact Or.inr rfl)) (pgs_cons (pg_name (i := 9) sc_Rules_init.nd rfl (by first | exact Or.inl rfl | exact Or.inr rfl)) pgs_nil)))) (fun _ _ _ _ _ => pts_nil) (fun _ _ _ _ _ => (pe_and (pe_call G_are_signs (hr.mono (by decide)) rfl T.f_are_signs.g T.f_are_signs.k B_are_signs .nil pass0 (pa_cons (pv 8) pa_nil)) (pe_one (pe_cmpR op_le (pe_callB call_len_str (by rfl) T.b_len PySem.boot_len (pa_cons (pv 8) pa_nil)) (pv 9) (nomark _)))))) pa_nil)))) (pw_or1 (pt_cmpR op_eq (pv 1) pe_str (nomark _))))) (pss_one ps_never) pss_nil)
    (pss_cons (ps_set (i := 7) sc_Rules_init.nd rfl (by first | exact Or.inl rfl | exact Or.inr rfl) (pe_join pe_str (pv 6)))
    (pss_cons (ps_if (pt_cmpR op_lt (pe_lenSetS rfl rfl T.b_len rfl T.b_set (pv 7)) (pe_callB call_len_str (by rfl) T.b_len PySem.boot_len (pa_cons (pv 7) pa_nil)) (nomark _)) (pss_one ps_never) pss_nil)
    (pss_cons (ps_fld (pv 0) (pv 1) rfl)
    (pss_cons (ps_fld (pv 0) (pv 2) rfl)
    (pss_cons (ps_fld (pv 0) (pv 3) rfl)
    (pss_cons (ps_fld (pv 0) (pv 4) rfl)
    (pss_one (ps_fld (pv 0) (pv 5) rfl))))))))))
      , ?_⟩
    rw [show start N_Rules_init [V.ref p, V.str (S r.breaks), V.str (S r.hard), V.str (S r.soft), V.str (S r.bend), V.str (S r.note)] = [some (.ref p), some (.str (S r.breaks)), some (.str (S r.hard)), some (.str (S r.soft)), some (.str (S r.bend)), some (.str (S r.note)), none, none, none, none] from rfl]
    have hc := T.c_Rules.cl
    have n1 := T.n_Rules_breaks
    have n2 := T.n_Rules_hard
    have n3 := T.n_Rules_soft
    have n4 := T.n_Rules_bend
    have n5 := T.n_Rules_note
    walk_at "rd"
    intro l hl
    have S1 := same_new (o := HO.lst [V.str (S r.breaks), V.str (S r.hard), V.str (S r.soft), V.str (S r.bend), V.str (S r.note)]) hl
    have hL : upd H l (HO.lst [V.str (S r.breaks), V.str (S r.hard), V.str (S r.soft), V.str (S r.bend), V.str (S r.note)]) l = _ := upd_same
    generalize upd H l (HO.lst [V.str (S r.breaks), V.str (S r.hard), V.str (S r.soft), V.str (S r.bend), V.str (S r.note)]) = H1 at *
    have sm := T.s_MOST
    refine tlc_map (α := Tx × Int) [(r.breaks, 4), (r.hard, 2), (r.soft, 2), (r.bend, 1), (r.note, 1)] (fun _ => .bl true) (J := ItzLT K l a.a_MOST) (H1 := H1)
      (G := fun H => SqL K H l [V.str (S r.breaks), V.str (S r.hard), V.str (S r.soft), V.str (S r.bend), V.str (S r.note)] ∧ SqT K H a.a_MOST [.int 4, .int 2, .int 2, .int 1, .int 1]) (fun R hR => ?_) (walk_zipLT rfl) (by simp only [List.length_cons, List.length_nil]; omega) (fun H s => ⟨.inl (.inl (s _ _ hL)), sm H⟩) ?_ ?_
    · walk_at "rd"
      exact ⟨⟨_, .inl (.inl hL)⟩, ⟨_, sm _⟩, hR⟩
    · rintro R R' i ⟨c, n⟩ x H2 H3 hi s1 ⟨t, x, y, rfl, ht, rfl, hx, hy⟩ hR
      have hxy : x = .str (S c) ∧ y = .int n ∧ c.all sgn = true ∧ (c.length : Int) ≤ n ∧ n ≤ 4 := by
        have hs := ok.sg
        simp only [RS.every, List.all_append, Bool.and_eq_true] at hs
        obtain ⟨s1, s2, s3, s4, s5⟩ := hs
        match i, hi, hx, hy with
        | 0, hi, hx, hy => cases hi; cases hx; cases hy; exact ⟨rfl, rfl, s1, by have := ok.l1; omega, by decide⟩
        | 1, hi, hx, hy => cases hi; cases hx; cases hy; exact ⟨rfl, rfl, s2, by have := ok.l2; omega, by decide⟩
        | 2, hi, hx, hy => cases hi; cases hx; cases hy; exact ⟨rfl, rfl, s3, by have := ok.l3; omega, by decide⟩
        | 3, hi, hx, hy => cases hi; cases hx; cases hy; exact ⟨rfl, rfl, s4, by have := ok.l4; omega, by decide⟩
        | 4, hi, hx, hy => cases hi; cases hx; cases hy; exact ⟨rfl, rfl, s5, by have := ok.l5; omega, by decide⟩
      obtain ⟨rfl, rfl, g1, g2, g3⟩ := hxy
      walk_at "rdh"
      refine ⟨_, .inl (.inl upd_same), rfl, _, _, rfl, _, _, rfl, rfl, c, rfl, by omega, fun H4 s4 => ?_⟩
      walk_at "rdh"
      exact ⟨Nat.le_trans (show c.length ≤ 4 by omega) (by decide), hR _ ((same_new ht).trans s4)⟩
    · intro D H2 hD s1 e
      walk_at "rdh"
      refine ⟨[true, true, true, true, true], .inl (.inl e), ?_⟩
      refine ite2 (fun c => absurd c (by decide)) (fun _ => ?_)
      have ne := ok.ne
      walk_at "rdh"
      have ev : r.every.length ≤ 10 := by
        have h1 := ok.l1; have h2 := ok.l2; have h3 := ok.l3; have h4 := ok.l4; have h5 := ok.l5
        simp only [RS.every, List.length_append]; omega
      have jn : Txt.join (S []) [S r.breaks, S r.hard, S r.soft, S r.bend, S r.note] = S r.every := by
        have := join_flat [r.breaks, r.hard, r.soft, r.bend, r.note]
        simpa [RS.every] using this
      have hp := S1 _ _ hM
      have hp2 := s1 _ _ hp
      refine ⟨⟨_, rfl⟩, [S r.breaks, S r.hard, S r.soft, S r.bend, S r.note], .inl (.inl (.inl (s1 _ _ hL))), ?_, ?_⟩
      · have h1 := ok.l1; have h2 := ok.l2; have h3 := ok.l3; have h4 := ok.l4; have h5 := ok.l5
        simp only [List.map_cons, List.map_nil, List.sum_cons, List.sum_nil, S_len, List.length_cons, List.length_nil]; omega
      · rw [jn]
        refine ⟨_, rfl, by omega, ?_⟩
        walk_at "rdh"
        refine ⟨Nat.le_trans ev (by decide), ?_⟩
        rw [uniq_nodup ok.nd]
        refine ite2 (fun c => absurd c (by omega)) (fun _ => ?_)
        refine ⟨by walk_at "pl", by walk_at "pl", by walk_at "pl", by walk_at "pl", by walk_at "pl", ?_⟩
        refine k _ ?_ ((S1.trans s1).kp p).upd
        rw [upd_same]
        exact congrArg (fun l => some (HO.ins a.c_Rules dx l)) (show _ = r.f by kernel_rfl)
def sp_told (a : Ad) : Sp := fun vs H Q _ => ∃ p dr r, vs = [.ref p] ∧ H p = some (.ins a.c_Rules dr (RS.f r)) ∧
  ∀ t H', H t = none → H' = upd H t (.tup [.str (S r.breaks), .str (S r.hard), .str (S r.soft), .str (S r.bend), .str (S r.note)]) → Q (.ref t) H'
theorem ok_Rules_told (T : Txt K mg a) : FnOk P w K mg base CX0 1 a.f_Rules_told a.d_Rules_told P_Rules_told (sp_told a) := by
  refine T.F_Rules_told.ok sc_Rules_told (fun vs H Q E h => ?_) (fun cdv A outer s H vs Q E hr h => ?_)
  · obtain ⟨p, dx, r, rfl, _⟩ := h
    rfl
  · obtain ⟨p, dx, r, rfl, hM, k⟩ := h
    refine ⟨_,
(pss_one (ps_ret (pe_tup (pa_cons (pe_fld (pv 0) rfl) (pa_cons (pe_fld (pv 0) rfl) (pa_cons (pe_fld (pv 0) rfl) (pa_cons (pe_fld (pv 0) rfl) (pa_cons (pe_fld (pv 0) rfl) pa_nil))))))))
      , ?_⟩
    rw [show start N_Rules_told [V.ref p] = [some (.ref p)] from rfl]
    have hc := T.c_Rules.cl
    have n1 := T.n_Rules_breaks
    have n2 := T.n_Rules_hard
    have n3 := T.n_Rules_soft
    have n4 := T.n_Rules_bend
    have n5 := T.n_Rules_note
    walk_at "rdh"
    exact fun t ht => k t _ ht rfl
end
end Qw

set_option Elab.async false
set_option linter.all false
set_option maxRecDepth 100000
set_option maxHeartbeats 4000000
namespace Qw
open PySem L2
local macro_rules | `(tactic| walk_at "rd") => `(tactic| simp only [iEnum, iRng3, tRevL, rSlS, rSlL, gSub, rSetL, wipe, List.map_cons, List.map_nil, rAll, rAny, rIsi, tM1, tM0, iZipLT, iZip, iRng2, tLenSetS, rListStr, rMulS, rRep, rCntB, tRevS, rNeD, rEqD, tSeq, tNext, tAsg, tRet, tRetN, tDrop, tIfS, sFld, sFldAug, tVar, tC, tOp, tUn, tTest, tB, tAnd, tOr, tNot, tAndV, tOrV, tNotV, tIf, tTup, tLst, tCons, tNil, tCB, tCall, tMeth, tMake, tFld, rI, rI0, rU, rEq, rNe, rCat, gName, gTup, gCons, gNil, tPar, tPar3, tBM, tBM0, rAppend, rExtend, rPopAt, rIxL, rIxT, rIxS, tSl, rSlS, rSlL, tPart, tNoPart, iStr, iTup, iList, iRng1, tAug, ipI, L2.rAdd, L2.rSub, L2.rAddS, tChain, rIsB, rNotB, scal_ss, scal_ii, scal_bb, scal_nn, scal_in, scal_ni, tYes,
  cx_K, cx_N, List.getElem?_cons_zero, List.getElem?_cons_succ, List.set_cons_zero, List.set_cons_succ, List.nil_append, List.cons_append, List.append_nil, List.length_cons, List.length_nil, Nat.zero_add,
  Option.some.injEq, V.ref.injEq, V.int.injEq, V.str.injEq, V.bl.injEq, HO.ins.injEq, HO.lst.injEq, HO.tup.injEq, List.cons.injEq, exists_eq_left, exists_eq_left', exists_eq_right, exists_eq_right', and_true, true_and, exists_and_left, exists_and_right, and_assoc, decide_eq_true_eq, Bool.not_eq_true', decide_eq_false_iff_not, reduceCtorEq, exists_const, forall_const, if_true, if_false, false_and, and_false, ite_true, ite_false, Bool.true_eq_false, Bool.false_eq_true, Nat.reduceLeDiff, Nat.reduceAdd, small_line, small_lt, upd_ne, ne_eq, not_false_eq_true, Nat.zero_le, Prod.mk.injEq, upd_same, upd_upd, S_tl, S_len, S_app, S_one, S_inj,
  lk_breaks, lk_hard, lk_soft, lk_bend, lk_note, lk_rules, lk_state, lk_bent, lk_word, lk_begun, lk_opened, lk_place, pt_state, pt_bent, pt_word, pt_wordS, pt_wordN, pt_begun, pt_opened, pt_place, pt_place1, len_mf, litv_empty, litv_note, litv_nl, mf_inj, rf_inj, lkn_begin, lkn_ended, lkn_plain, lkn_quoted, lkn_step, lkn_fault, lkn_key, lkn_told, lkn_quotes, lkn_special, pt_open1, not_true_eq_false, not_false_eq_true])
local macro_rules | `(tactic| walk_at "rdh") => `(tactic| simp only [iEnum, iRng3, tRevL, rSlS, rSlL, gSub, rSetL, wipe, List.map_cons, List.map_nil, rAll, rAny, rIsi, tM1, tM0, iZipLT, iZip, iRng2, tLenSetS, rListStr, rMulS, rRep, rCntB, tRevS, rNeD, rEqD, tSeq, tNext, tAsg, tRet, tRetN, tDrop, tIfS, sFld, sFldAug, tVar, tC, tOp, tUn, tTest, tB, tAnd, tOr, tNot, tAndV, tOrV, tNotV, tIf, tTup, tLst, tCons, tNil, tCB, tCall, tMeth, tMake, tFld, rI, rI0, rU, rEq, rNe, rCat, gName, gTup, gCons, gNil, tPar, tPar3, tBM, tBM0, rAppend, rExtend, rPopAt, rIxL, rIxT, rIxS, tSl, rSlS, rSlL, tPart, tNoPart, iStr, iTup, iList, iRng1, tAug, ipI, L2.rAdd, L2.rSub, L2.rAddS, tChain, rIsB, rNotB, scal_ss, scal_ii, scal_bb, scal_nn, scal_in, scal_ni, tYes,
  cx_K, cx_N, List.getElem?_cons_zero, List.getElem?_cons_succ, List.set_cons_zero, List.set_cons_succ, List.nil_append, List.cons_append, List.append_nil, List.length_cons, List.length_nil, Nat.zero_add,
  Option.some.injEq, V.ref.injEq, V.int.injEq, V.str.injEq, V.bl.injEq, HO.ins.injEq, HO.lst.injEq, HO.tup.injEq, List.cons.injEq, exists_eq_left, exists_eq_left', exists_eq_right, exists_eq_right', and_true, true_and, exists_and_left, exists_and_right, and_assoc, decide_eq_true_eq, Bool.not_eq_true', decide_eq_false_iff_not, reduceCtorEq, exists_const, forall_const, if_true, if_false, false_and, and_false, ite_true, ite_false, Bool.true_eq_false, Bool.false_eq_true, Nat.reduceLeDiff, Nat.reduceAdd, small_line, small_lt, upd_ne, ne_eq, not_false_eq_true, Nat.zero_le, Prod.mk.injEq, upd_same, upd_upd, S_tl, S_len, S_app, S_one, S_inj,
  lk_breaks, lk_hard, lk_soft, lk_bend, lk_note, lk_rules, lk_state, lk_bent, lk_word, lk_begun, lk_opened, lk_place, pt_state, pt_bent, pt_word, pt_wordS, pt_wordN, pt_begun, pt_opened, pt_place, pt_place1, len_mf, litv_empty, litv_note, litv_nl, mf_inj, rf_inj, lkn_begin, lkn_ended, lkn_plain, lkn_quoted, lkn_step, lkn_fault, lkn_key, lkn_told, lkn_quotes, lkn_special, pt_open1, not_true_eq_false, not_false_eq_true, *])
local macro_rules | `(tactic| walk_at "pl") => `(tactic| (first | decide | (refine Nat.lt_of_le_of_lt (length_putF _ _ _) ?_; repeat (first | decide | refine pl2 ?_))))
local macro_rules | `(tactic| walk_at "al") => `(tactic| (intro p hp; generalize hH : upd _ p _ = H1; obtain ⟨S, e⟩ := gen_new hH hp; clear hH))
theorem while_rule {c : TT} {tb : TS} {D : Ends} {σ : St} {H : Hp} (W : Nat → St → Hp → Prop) (n0 : Nat) (h0 : W n0 σ H)
    (hs : ∀ n σ1 H1 (R : Bool → Hp → Prop), W n σ1 H1 →
      (∀ H2, tb { D with nx := fun σ' H' => ∃ n', n' < n ∧ W n' σ' H', ct := fun σ' H' => ∃ n', n' < n ∧ W n' σ' H', bk := D.nx } σ1 H2 → R true H2) → (∀ H2, D.nx σ1 H2 → R false H2) → c σ1 H1 R) : tWhile c tb D σ H := by
  refine ⟨W, ⟨n0, h0⟩, fun n σ1 H1 w => hs n σ1 H1 _ w (fun H2 q => ?_) fun H2 q => ?_⟩
  · exact iteT ⟨_, fun _ _ z => z, q⟩
  · exact iteF q
theorem tfor_it {wi : TI} {g : TG} {tb : TS} {D : Ends} {σ : St} {H H1 : Hp} {J : It} {n : Nat} {G : Hp → Prop} {Y : Nat → Hp → V → Hp → Prop} (hw : ∀ R : It → Hp → Prop, R J H1 → wi σ H R) (w : Walk J n G Y)
    (Pv : Nat → St → Hp → Prop) (h0 : Pv 0 σ H1) (hG : ∀ i σ H, i ≤ n → Pv i σ H → G H)
    (hs : ∀ i x σ H H', i < n → Pv i σ H → Y i H x H' → g x σ H' fun σ2 H2 => tb { D with nx := Pv (i + 1), ct := Pv (i + 1), bk := D.nx } σ2 H2) (hd : ∀ σ H, Pv n σ H → D.nx σ H) : tFor wi g tb D σ H :=
  hw _ (for_it w Pv h0 hG hs hd)
theorem tfor_all {ι : Type} {C : ι → Prop} {J : ι → It} {H1 : ι → Hp} {wi : TI} {g : TG} {tb : TS} {D : Ends} {σ : St} {H : Hp} (hw : ∀ R : It → Hp → Prop, (∀ x, C x → R (J x) (H1 x)) → wi σ H R)
    (h2 : ∀ x, C x → ∃ W : Nat → Nat → St → Hp → Prop, (∃ m, W 0 m σ (H1 x)) ∧ ∀ i m σ H, W i m σ H →
      ((J x).stop i H ∧ D.nx σ H) ∨ ((J x).go i H ∧ ∃ N : St → Hp → Prop, (∀ σ' H', N σ' H' → ∃ m', m' < m ∧ W (i + 1) m' σ' H') ∧ ∀ y H', (J x).yld i H y H' → g y σ H' fun σ2 H2 => tb { D with nx := N, ct := N, bk := D.nx } σ2 H2)) : tFor wi g tb D σ H := hw _ h2
theorem _root_.Qw.Kp.mut {p q : Addr} {H H' : Hp} {o : HO} (k : Kp p H H') (h : H q = none) : Kp p H (L2.upd H' q o) := fun b u e n => by
  rw [upd_ne (ne_of_none e h)]
  exact k b u e n
theorem map_eraseIdx' {α β : Type} (f : α → β) : ∀ (l : List α) (i : Nat), (l.map f).eraseIdx i = (l.eraseIdx i).map f
  | [], _ => rfl
  | _ :: _, 0 => rfl
  | a :: l, i + 1 => by
    show f a :: (l.map f).eraseIdx i = f a :: (l.eraseIdx i).map f
    rw [map_eraseIdx' f l i]
theorem perm_eraseIdx {α : Type} : ∀ {l : List α} {i : Nat} (h : i < l.length), (l[i] :: l.eraseIdx i).Perm l
  | _ :: _, 0, _ => List.Perm.refl _
  | a :: l, i + 1, h => by
    have h' : i < l.length := by simpa using h
    exact (List.Perm.swap a l[i] (l.eraseIdx i)).trans (List.Perm.cons a (perm_eraseIdx h'))
theorem at_in {α : Type} {xs : List α} {k : Int} (h0 : 0 ≤ k) (h : k < xs.length) : ∃ (j : Nat) (hj : j < xs.length), k = (j : Int) ∧ atI xs k = some xs[j] := by
  have hj : k.toNat < xs.length := by omega
  refine ⟨k.toNat, hj, by omega, ?_⟩
  have := atI_nat (xs := xs) (j := k.toNat) (v := xs[k.toNat]) (by simp [hj])
  rwa [show ((k.toNat : Nat) : Int) = k by omega] at this
theorem bi_Rules_init {K : PySem.W.Frag} {mg : Str → Option Value} {a : Ad} (T : Txt K mg a) : Binds K a.d_Rules_init P_Rules_init [] := by
  obtain ⟨ds, h1, h2⟩ := T.F_Rules_init.binds1 (ps := P_Rules_init) 6 5 (by decide) rfl fun T kV doc pm an cdv ct us its h1 h2 =>
    match us, h1, its, h2 with
    | [_, _, _, _, _, _], _, [_, _, _, _, _], _ => ⟨_, rfl, rfl⟩
  cases h1
  exact h2
theorem bi_Rules_init0 {K : PySem.W.Frag} {mg : Str → Option Value} {a : Ad} (T : Txt K mg a) : ∃ ds, Vals [.str (" " : Str), .str ("'" : Str), .str ("\"" : Str), .str ("\\" : Str), .str ("#" : Str)] ds ∧ Binds K a.d_Rules_init P_Rules_init ds :=
  T.F_Rules_init.binds1 (ps := P_Rules_init) 1 0 (by decide) rfl fun T kV doc pm an cdv ct us its h1 h2 =>
    match us, h1, its, h2 with
    | [_], _, [_, _, _, _, _], _ => ⟨_, rfl, rfl⟩
section
variable {P : Program} {w : World} {K : PySem.W.Frag} {mg : Str → Option Value} {base : Heap} {a : Ad}
/-! ### drawn numbers -/
def sp_law_cell_at (K : PySem.W.Frag) : Sp := fun vs H Q _ => ∃ (p : Addr) (k : Int) (ns : List Int), vs = [.ref p, .int k] ∧ SqL K H p (ns.map V.int) ∧ 0 ≤ k ∧ ∀ z : Int, Q (.int z) H
theorem ok__law_cell_at (T : Txt K mg a) : FnOk P w K mg base CX0 1 a.f__law_cell_at a.d__law_cell_at P__law_cell_at (sp_law_cell_at K) := by
  refine T.F__law_cell_at.ok sc__law_cell_at (fun vs H Q E h => ?_) (fun cdv A outer s H vs Q E hr h => ?_)
  · obtain ⟨p, k, ns, rfl, _⟩ := h
    rfl
  · obtain ⟨p, k, ns, rfl, hp, hk, q⟩ := h
    refine ⟨_,
(pss_cons (ps_if (pt_cmpR op_lt (pv 1) (pe_callB call_len_seq (by rfl) T.b_len PySem.boot_len (pa_cons (pv 0) pa_nil)) (nomark _)) (pss_one (ps_ret (pe_ix ix_list (pv 0) (pv 1) (fun _ _ => rfl)))) pss_nil)
    (pss_one (ps_ret pe_int)))
      , ?_⟩
    rw [show start N__law_cell_at [V.ref p, V.int k] = [some (.ref p), some (.int k)] from rfl]
    walk_at "rdh"
    refine ⟨_, .inl hp, ite2 (fun c => ?_) (fun _ => trivial)⟩
    rw [List.length_map] at c
    obtain ⟨j, hj, e1, e2⟩ := at_in hk (show k < ((ns.map V.int).length : Int) by rw [List.length_map]; exact c)
    refine ⟨_, hp, _, e2, ?_⟩
    rw [List.getElem_map]
    exact q _
def sp_law_draw : Sp := fun vs H Q _ => ∃ c k m : Int, vs = [.int c, .int k, .int m] ∧ 0 ≤ k ∧ k < 1000 ∧ 0 < m ∧ ∀ (z : Int) H', 0 ≤ z → z < m → Same H H' → Q (.int z) H'
theorem ok__law_draw (T : Txt K mg a) : FnOk P w K mg base CX0 1 a.f__law_draw a.d__law_draw P__law_draw sp_law_draw := by
  refine T.F__law_draw.ok sc__law_draw (fun vs H Q E h => ?_) (fun cdv A outer s H vs Q E hr h => ?_)
  · obtain ⟨c, k, m, rfl, _⟩ := h
    rfl
  · obtain ⟨c, k, m, rfl, hk, hk2, hm, q⟩ := h
    refine ⟨_,
(pss_cons (ps_set (i := 3) sc__law_draw.nd rfl (by first | exact Or.inl rfl | exact Or.inr rfl) (pe_tup (pa_cons pe_int (pa_cons pe_int (pa_cons pe_int (pa_cons pe_int (pa_cons pe_int (pa_cons pe_int (pa_cons pe_int (pa_cons pe_int (pa_cons pe_int (pa_cons pe_int (pa_cons pe_int (pa_cons pe_int (pa_cons pe_int (pa_cons pe_int (pa_cons pe_int (pa_cons pe_int pa_nil))))))))))))))))))
    (pss_one (ps_ret (pe_op op_mod (pe_op op_mod (pe_op op_add (pe_op op_mul (pv 0) pe_int) (pe_op op_mul (pv 1) pe_int)) (pe_ix ix_tup (pv 3) (pe_op op_mod (pv 1) pe_int) (fun _ _ => rfl))) (pv 2)))))
      , ?_⟩
    rw [show start N__law_draw [V.int c, V.int k, V.int m] = [some (.int c), some (.int k), some (.int m), none] from rfl]
    walk_at "rdh"
    intro p hp
    refine ⟨.inr ⟨by decide, by decide⟩, .inr ⟨by decide, by decide⟩, by decide, _, .inl (.inl upd_same), ?_⟩
    have h16 : ∃ z : Int, atI [V.int 1000003, V.int 1000033, V.int 1000037, V.int 1000039, V.int 1000081, V.int 1000099, V.int 1000117, V.int 1000121, V.int 1000133, V.int 1000151, V.int 1000159, V.int 1000171, V.int 1000183, V.int 1000187, V.int 1000193, V.int 1000199] (k % 16) = some (V.int z) ∧ 0 < z := by
      obtain ⟨j, hj, e⟩ : ∃ j : Nat, j < 16 ∧ k % 16 = (j : Int) := ⟨(k % 16).toNat, by omega, by omega⟩
      rw [e]
      match j, hj with
      | 0, _ | 1, _ | 2, _ | 3, _ | 4, _ | 5, _ | 6, _ | 7, _ | 8, _ | 9, _ | 10, _ | 11, _ | 12, _ | 13, _ | 14, _ | 15, _ => exact ⟨_, rfl, by decide⟩
      | n + 16, h => exact absurd h (by omega)
    obtain ⟨z, e, hz⟩ := h16
    exact ⟨_, e, z, rfl, hz, q _ _ (Int.emod_nonneg _ (by omega)) (Int.emod_lt_of_pos _ hm) (same_new hp)⟩
def sp_law_number : Sp := fun vs H Q _ => ∃ c k m : Int, vs = [.int c, .int k, .int m] ∧ 0 ≤ k ∧ k < 1000 ∧ 0 < m ∧ ∀ (z : Int) H', 0 ≤ z → z < m → Same H H' → Q (.int z) H'
theorem ok__law_number (T : Txt K mg a) : FnOk P w K mg base CX0 2 a.f__law_number a.d__law_number P__law_number sp_law_number := by
  refine T.F__law_number.ok sc__law_number (fun vs H Q E h => ?_) (fun cdv A outer s H vs Q E hr h => ?_)
  · obtain ⟨c, k, m, rfl, _⟩ := h
    rfl
  · obtain ⟨c, k, m, rfl, hk, hk2, hm, q⟩ := h
    have G__law_draw := ok__law_draw (P := P) (w := w) (base := base) T
    have B__law_draw := bi__law_draw T
    refine ⟨_,
(pss_cons (ps_set (i := 3) sc__law_number.nd rfl (by first | exact Or.inl rfl | exact Or.inr rfl) (pe_op op_sub (pv 0) (pe_op op_pow pe_int pe_int)))
    (pss_cons (ps_for PassesOwn.never rfl (pi_range1 rfl T.b_range (pa_cons (pe_op op_mod (pv 1) pe_int) pa_nil)) (pg_name (i := 4) sc__law_number.nd rfl (by first | exact Or.inl rfl | exact Or.inr rfl))
    (pss_one (ps_set (i := 3) sc__law_number.nd rfl (by first | exact Or.inl rfl | exact Or.inr rfl) (pe_op op_fdiv (pv 3) pe_int))))
    (pss_cons (ps_if (pt_cmpR op_gt (pv 3) pe_int (nomark _)) (pss_one (ps_ret (pe_op op_mod (pe_op op_mod (pv 3) pe_int) (pv 2)))) pss_nil)
    (pss_cons (ps_set (i := 5) sc__law_number.nd rfl (by first | exact Or.inl rfl | exact Or.inr rfl) (pe_op op_mod (pv 0) pe_int))
    (pss_one (ps_ret (pe_op op_mod (pe_call G__law_draw (hr.mono (by decide)) rfl T.f__law_draw.g T.f__law_draw.k B__law_draw .nil pass0 (pa_cons (pe_op op_mul (pe_op op_add (pv 5) (pe_op op_mul pe_int (pv 1))) (pe_op op_add (pe_op op_add (pv 5) (pe_op op_mul pe_int (pv 1))) pe_int)) (pa_cons (pe_op op_add (pe_op op_mod (pv 1) pe_int) pe_int) (pa_cons pe_int pa_nil)))) (pv 2))))))))
      , ?_⟩
    rw [show start N__law_number [V.int c, V.int k, V.int m] = [some (.int c), some (.int k), some (.int m), none, none, none] from rfl]
    walk_at "rdh"
    refine ⟨⟨by decide, by decide, by decide⟩, ?_⟩
    refine tfor_it (J := Itr 0 (k % 24).toNat) (H1 := H) (fun R hR => ?_) walk_range (fun i σ H' => H' = H ∧ ∃ rest v, σ = [some (.int c), some (.int k), some (.int m), some (.int rest), v, none]) ⟨rfl, _, _, rfl⟩ (fun _ _ _ _ _ => trivial) ?_ ?_
    · walk_at "rd"
      exact ⟨by decide, by omega, by omega, hR⟩
    · rintro i x σ H2 H3 hi ⟨rfl, rest, v, rfl⟩ ⟨rfl, rfl⟩
      walk_at "rd"
      exact ⟨⟨by decide, by decide⟩, _, rfl⟩
    · rintro σ H2 ⟨rfl, rest, v, rfl⟩
      walk_at "rd"
      refine ite2 (fun _ => ⟨by decide, hm, q _ _ (Int.emod_nonneg _ (by omega)) (Int.emod_lt_of_pos _ hm) (Same.refl _)⟩) (fun _ => ?_)
      have b1 : 0 ≤ c % 1000003 := Int.emod_nonneg _ (by decide)
      have b2 : c % 1000003 < 1000003 := Int.emod_lt_of_pos _ (by decide)
      refine ⟨by decide, .inl ⟨by decide, by decide⟩, .inl ⟨by decide, by decide⟩, .inl ⟨by omega, by omega⟩, by decide, _, _, _, rfl, by omega, by omega, by decide, fun z H' z1 z2 s1 => ?_⟩
      exact ⟨z, rfl, hm, q _ _ (Int.emod_nonneg _ (by omega)) (Int.emod_lt_of_pos _ hm) s1⟩
/-! ### the state of drawing -/
/-- the script: frozen, or an object of the module -/
def Scr (K : PySem.W.Frag) (ns : List Int) (H : Hp) (scr : Addr) : Prop := (∃ o, H scr = some (.frz o (.lst (ns.map V.int)))) ∨ SqL K (fun _ => none) scr (ns.map V.int)
theorem Scr.sq {ns : List Int} {H : Hp} {scr : Addr} (h : Scr K ns H scr) : SqL K H scr (ns.map V.int) := by
  rcases h with ⟨o, h⟩ | (h | ⟨o, h⟩) | h
  · exact .inl (.inr ⟨o, h⟩)
  · cases h
  · cases h
  · exact .inr h
theorem Scr.kp {ns : List Int} {H H' : Hp} {scr p : Addr} {o : HO} (h : Scr K ns H scr) (k : Kp p H H') (hp : H p = some o) (no : ∀ u l, o ≠ .frz u l) : Scr K ns H' scr := by
  rcases h with ⟨u, h⟩ | h
  · refine .inl ⟨u, k _ _ h fun z => ?_⟩
    rw [z, hp] at h
    exact no _ _ (Option.some.inj h)
  · exact .inr h
theorem Scr.same {ns : List Int} {H H' : Hp} {scr : Addr} (h : Scr K ns H scr) (k : Same H H') : Scr K ns H' scr := h.imp (fun ⟨u, h⟩ => ⟨u, k _ _ h⟩) id
def Stt (K : PySem.W.Frag) (ns : List Int) (H : Hp) (st : Addr) : Prop := ∃ (scr : Addr) (b n : Int), H st = some (.lst [.ref scr, .int b, .int n]) ∧ Scr K ns H scr ∧ 0 ≤ b ∧ 0 ≤ n
theorem Stt.same {ns : List Int} {H H' : Hp} {st : Addr} (h : Stt K ns H st) (s : Same H H') : Stt K ns H' st := by
  obtain ⟨scr, b, n, h1, h2, h4⟩ := h
  exact ⟨scr, b, n, s _ _ h1, h2.same s, h4⟩
/-- another object is changed -/
theorem Stt.kp {ns : List Int} {H H' : Hp} {st p : Addr} {o : HO} (h : Stt K ns H st) (k : Kp p H H') (hp : H p = some o) (no : ∀ u l, o ≠ .frz u l) (ne : st ≠ p) : Stt K ns H' st := by
  obtain ⟨scr, b, n, h1, h2, h4⟩ := h
  exact ⟨scr, b, n, k _ _ h1 ne, h2.kp k hp no, h4⟩
theorem Stt.has {ns : List Int} {H : Hp} {st : Addr} (h : Stt K ns H st) : ∃ xs, H st = some (.lst xs) := by
  obtain ⟨scr, b, n, h1, _⟩ := h
  exact ⟨_, h1⟩
def sp_law_next (K : PySem.W.Frag) : Sp := fun vs H Q _ => ∃ (ns : List Int) (st : Addr) (m : Int), vs = [.ref st, .int m] ∧ Stt K ns H st ∧ 0 < m ∧ ∀ (z : Int) H', 0 ≤ z → z < m → Stt K ns H' st → Kp st H H' → Q (.int z) H'
theorem ok__law_next (T : Txt K mg a) : FnOk P w K mg base CX0 3 a.f__law_next a.d__law_next P__law_next (sp_law_next K) := by
  refine T.F__law_next.ok sc__law_next (fun vs H Q E h => ?_) (fun cdv A outer s H vs Q E hr h => ?_)
  · obtain ⟨ns, st, m, rfl, _⟩ := h
    rfl
  · obtain ⟨ns, st, m, rfl, ⟨scr, b, n, h1, h3, hb, hn⟩, hm, q⟩ := h
    have G__law_cell_at := ok__law_cell_at (P := P) (w := w) (base := base) T
    have B__law_cell_at := bi__law_cell_at T
    have G__law_number := ok__law_number (P := P) (w := w) (base := base) T
    have B__law_number := bi__law_number T
    refine ⟨_,
(pss_cons (ps_asg (pe_op op_add (pe_ix ix_list (pv 0) pe_int (fun _ _ => rfl)) pe_int) (pg_sub (pv 0) pe_int set_list))
    (pss_cons (ps_set (i := 2) sc__law_next.nd rfl (by first | exact Or.inl rfl | exact Or.inr rfl) (pe_op op_fdiv (pe_ix ix_list (pv 0) pe_int (fun _ _ => rfl)) pe_int))
    (pss_cons (ps_set (i := 3) sc__law_next.nd rfl (by first | exact Or.inl rfl | exact Or.inr rfl) (pe_op op_add (pe_call G__law_cell_at (hr.mono (by decide)) rfl T.f__law_cell_at.g T.f__law_cell_at.k B__law_cell_at .nil pass0 (pa_cons (pe_ix ix_list (pv 0) pe_int (fun _ _ => rfl)) (pa_cons (pe_op op_add (pe_ix ix_list (pv 0) pe_int (fun _ _ => rfl)) (pv 2)) pa_nil))) (pe_op op_mul pe_int (pv 2))))
    (pss_one (ps_ret (pe_call G__law_number (hr.mono (by decide)) rfl T.f__law_number.g T.f__law_number.k B__law_number .nil pass0 (pa_cons (pv 3) (pa_cons (pe_op op_add (pe_op op_mod (pe_ix ix_list (pv 0) pe_int (fun _ _ => rfl)) pe_int) pe_int) (pa_cons (pv 1) pa_nil)))))))))
      , ?_⟩
    rw [show start N__law_next [V.ref st, V.int m] = [some (.ref st), some (.int m), none, none] from rfl]
    walk_at "rd"
    have e1 : upd H st (HO.lst [V.ref scr, V.int b, V.int (n + 1)]) st = some (HO.lst [V.ref scr, V.int b, V.int (n + 1)]) := upd_same
    have k1 : Kp st H (upd H st (HO.lst [V.ref scr, V.int b, V.int (n + 1)])) := kp_upd
    refine ⟨_, .inl (.inl h1), _, rfl, n, rfl, _, h1, 2, rfl, ?_⟩
    simp only [List.set_cons_succ, List.set_cons_zero]
    generalize upd H st (HO.lst [V.ref scr, V.int b, V.int (n + 1)]) = H1 at *
    have n1 : 0 ≤ (n + 1) / 12 := by omega
    refine ⟨_, .inl (.inl e1), _, rfl, _, rfl, ⟨by decide, by decide⟩, _, .inl (.inl e1), _, rfl, _, .inl (.inl e1), _, rfl, _, rfl, ?_⟩
    have h3' := h3.kp k1 h1 (fun _ _ z => nomatch z)
    refine ⟨scr, b + (n + 1) / 12, ns, rfl, h3'.sq, by omega, fun z => ?_⟩
    refine ⟨.inl ⟨by decide, by decide⟩, z, rfl, _, .inl (.inl e1), _, rfl, _, rfl, by decide, ?_⟩
    refine ⟨_, _, m, rfl, by omega, by omega, hm, fun y H2 y1 y2 s2 => ?_⟩
    exact q y H2 y1 y2 ⟨scr, b, n + 1, s2 _ _ e1, h3'.same s2, hb, by omega⟩ (k1.trans (s2.kp st))
/-! ### drawn rules -/
def signs12 : Tx := [32, 39, 34, 92, 35, 10, 44, 59, 96, 94, 97, 98]
def sV (t : Tx) : V := .str (S t)
def sV1 (c : Nat) : V := .str (S [c])
theorem Ok_sgn {r : RS} (h : r.Ok) : ∀ c ∈ r.every, c < 1000 := fun c hc => by
  have := List.all_eq_true.mp h.sg c hc
  simp only [sgn, Bool.or_eq_true, decide_eq_true_eq] at this
  omega
def RS.tup (r : RS) : List V := [.str (S r.breaks), .str (S r.hard), .str (S r.soft), .str (S r.bend), .str (S r.note)]
def usual : RS := ⟨[32], [39], [34], [92], [35]⟩
theorem usual_ok : usual.Ok := ⟨by decide, by decide, by decide, by decide, by decide, by decide, by decide, by decide⟩
def lims : List Nat := [4, 2, 2, 1, 1]
structure TInv (K : PySem.W.Frag) (ns : List Int) (st left found : Addr) (H0 H : Hp) (ls : Tx) (parts : List Tx) (part : Tx) (i : Nat) : Prop where
  stt : Stt K ns H st
  l : H left = some (.lst (ls.map sV1))
  f : H found = some (.lst (parts.map sV))
  ln : parts.length = i
  lim : ∀ (j : Nat) (p : Tx) (n : Nat), parts[j]? = some p → lims[j]? = some n → p.length ≤ n
  ne : ∀ p : Tx, parts[0]? = some p → p ≠ []
  perm : (parts.flatten ++ (part ++ ls)).Perm signs12
  kp : Kp st H0 H
  tot : parts.flatten.length ≤ (lims.take i).sum
theorem TInv.same {ns : List Int} {st left found : Addr} {H0 H H' : Hp} {ls : Tx} {parts : List Tx} {part : Tx} {i : Nat} (h : TInv K ns st left found H0 H ls parts part i) (s : Same H H') : TInv K ns st left found H0 H' ls parts part i :=
  ⟨h.stt.same s, s _ _ h.l, s _ _ h.f, h.ln, h.lim, h.ne, h.perm, h.kp.trans (s.kp st), h.tot⟩
/-- drawing alone changes the state alone -/
theorem TInv.draw {ns : List Int} {st left found : Addr} {H0 H H' : Hp} {ls : Tx} {parts : List Tx} {part : Tx} {i : Nat} (h : TInv K ns st left found H0 H ls parts part i) (n1 : left ≠ st) (n2 : found ≠ st) (t : Stt K ns H' st) (s : Kp st H H') :
    TInv K ns st left found H0 H' ls parts part i := ⟨t, s _ _ h.l n1, s _ _ h.f n2, h.ln, h.lim, h.ne, h.perm, h.kp.trans s, h.tot⟩
theorem TInv.few {ns : List Int} {st left found : Addr} {H0 H : Hp} {ls : Tx} {parts : List Tx} {part : Tx} {i : Nat} (h : TInv K ns st left found H0 H ls parts part i) (hp : (lims.take i).sum + part.length < 12) : 0 < ls.length := by
  have e := h.perm.length_eq
  rw [List.length_append, List.length_append, show signs12.length = 12 from rfl] at e
  have := h.tot
  omega
theorem TInv.ok8 {ns : List Int} {st left found : Addr} {H0 H : Hp} {ls : Tx} {parts : List Tx} {part : Tx} {i : Nat} (h : TInv K ns st left found H0 H ls parts part i) : ∀ t ∈ parts, ok8 t := fun t ht c hc => by
  have h1 : c ∈ parts.flatten ++ (part ++ ls) := List.mem_append_left _ (List.mem_flatten.mpr ⟨t, ht, hc⟩)
  have h2 := h.perm.mem_iff.mp h1
  have : ∀ c ∈ signs12, c < 1000 := by decide
  exact this c h2
/-- of drawn signs alone -/
def Dr (r : RS) : Prop := ∀ c ∈ r.every, c ∈ signs12
def sp_law_told (K : PySem.W.Frag) : Sp := fun vs H Q _ => ∃ (ns : List Int) (st : Addr), vs = [.ref st] ∧ Stt K ns H st ∧ ∀ (r : RS) tp H', r.Ok → Dr r → H tp = none → H' tp = some (.tup r.tup) → Stt K ns H' st → Kp st H H' → Q (.ref tp) H'
theorem ok__law_told (T : Txt K mg a) : FnOk P w K mg base CX0 4 a.f__law_told a.d__law_told P__law_told (sp_law_told K) := by
  refine T.F__law_told.ok sc__law_told (fun vs H Q E h => ?_) (fun cdv A outer s H vs Q E hr h => ?_)
  · obtain ⟨ns, st, rfl, _⟩ := h
    rfl
  · obtain ⟨ns, st, rfl, hs, q⟩ := h
    have G__law_next := ok__law_next (P := P) (w := w) (base := base) T
    have B__law_next := bi__law_next T
    refine ⟨_,
(pss_cons (ps_set (i := 1) sc__law_told.nd rfl (by first | exact Or.inl rfl | exact Or.inr rfl) (pe_callTy (call_list_str rfl) (by rfl) T.b_list (by decide +kernel) (pa_cons pe_str pa_nil)))
    (pss_cons (ps_if (pt_cmpR op_eq (pe_call G__law_next (hr.mono (by decide)) rfl T.f__law_next.g T.f__law_next.k B__law_next .nil pass0 (pa_cons (pv 0) (pa_cons pe_int pa_nil))) pe_int (nomark _)) (pss_one (ps_ret (pe_tup (pa_cons pe_str (pa_cons pe_str (pa_cons pe_str (pa_cons pe_str (pa_cons pe_str pa_nil)))))))) pss_nil)
    (pss_cons (ps_set (i := 2) sc__law_told.nd rfl (by first | exact Or.inl rfl | exact Or.inr rfl) (pe_lst pa_nil))
    (pss_cons (ps_for PassesOwn.never rfl (pi_tup (pe_tup (pa_cons pe_int (pa_cons pe_int (pa_cons pe_int (pa_cons pe_int (pa_cons pe_int pa_nil))))))) (pg_name (i := 3) sc__law_told.nd rfl (by first | exact Or.inl rfl | exact Or.inr rfl))
    (pss_cons (ps_par (i := 4) (j := 5) (by rfl) sc__law_told.nd rfl rfl (by decide) rfl rfl (pa_cons pe_str (pa_cons (pe_callTy call_int1 (by rfl) T.b_int (by decide +kernel) (pa_cons (pe_cmpR (op_eqD hr.units) (pv 2) (pe_lst pa_nil) (nomark _)) pa_nil)) pa_nil)) (by rfl))
    (pss_cons (ps_for PassesOwn.never rfl (pi_range1 rfl T.b_range (pa_cons (pe_op op_add (pv 5) (pe_call G__law_next (hr.mono (by decide)) rfl T.f__law_next.g T.f__law_next.k B__law_next .nil pass0 (pa_cons (pv 0) (pa_cons (pv 3) pa_nil)))) pa_nil)) (pg_name (i := 6) sc__law_told.nd rfl (by first | exact Or.inl rfl | exact Or.inr rfl))
    (pss_one (ps_set (i := 4) sc__law_told.nd rfl (by first | exact Or.inl rfl | exact Or.inr rfl) (pe_op op_add_str (pv 4) (pe_bm PySem.F.plainAttrs_list PySem.F.slot_list_pop PySem.F.type_list_pop mt_popAt (pv 1) (pa_cons (pe_call G__law_next (hr.mono (by decide)) rfl T.f__law_next.g T.f__law_next.k B__law_next .nil pass0 (pa_cons (pv 0) (pa_cons (pe_callB call_len_seq (by rfl) T.b_len PySem.boot_len (pa_cons (pv 1) pa_nil)) pa_nil))) pa_nil))))))
    (pss_one (ps_expr (pe_bm PySem.F.plainAttrs_list PySem.F.slot_list_append PySem.F.type_list_append mt_append (pv 2) (pa_cons (pv 4) pa_nil)))))))
    (pss_one (ps_ret (pe_callTy call_tuple_of (by rfl) T.b_tuple (by decide +kernel) (pa_cons (pv 2) pa_nil))))))))
      , ?_⟩
    rw [show start N__law_told [V.ref st] = [some (.ref st), none, none, none, none, none, none] from rfl]
    walk_at "rd"
    refine ⟨signs12, by decide +kernel, by decide, fun left hl => ?_⟩
    have S1 := same_new (o := HO.lst (signs12.map sV1)) hl
    have l1 : upd H left (HO.lst (signs12.map sV1)) left = some (HO.lst (signs12.map sV1)) := upd_same
    show sp_law_next K [V.ref st, V.int 3] (upd H left (HO.lst (signs12.map sV1))) _ _
    generalize upd H left (HO.lst (signs12.map sV1)) = H1 at *
    refine ⟨ns, st, 3, rfl, hs.same S1, by decide, fun z H2 z1 z2 hs2 k2 => ⟨rfl, ?_⟩⟩
    have nls : left ≠ st := fun e => by
      obtain ⟨xs, e1⟩ := hs.has
      rw [← e, hl] at e1; cases e1
    have K2 : Kp st H H2 := (S1.kp st).trans k2
    have l2 := k2 _ _ l1 nls
    have fr : ∀ {H' : Hp} {p : Addr}, Kp st H H' → H' p = none → Stt K ns H' st → H p = none := fun {H' p} k e t => by
      cases e1 : H p with
      | none => rfl
      | some o =>
        obtain ⟨xs, e2⟩ := t.has
        have := k _ _ e1 fun z => by rw [z, e2] at e; cases e
        rw [e] at this; cases this
    refine ite2 (fun _ tp htp => ?_) (fun _ found hf => ?_)
    · refine q usual tp _ usual_ok (by unfold Dr; decide) (fr K2 htp hs2) ?_ (hs2.same (same_new htp)) (K2.trans ((same_new htp).kp st))
      rw [upd_same]
      exact congrArg (fun l => some (HO.tup l)) (by decide +kernel)
    have f0 := fr K2 hf hs2
    have S3 := same_new (o := HO.lst []) hf
    have hs3 := hs2.same S3
    have nfl : found ≠ left := fun z => by rw [z, l2] at hf; cases hf
    have nfs : found ≠ st := fun z => by
      obtain ⟨xs, e2⟩ := hs2.has
      rw [z, e2] at hf; cases hf
    have l3 := S3 _ _ l2
    have f3 : upd H2 found (HO.lst []) found = some (HO.lst []) := upd_same
    have K3 : Kp st H (upd H2 found (HO.lst [])) := K2.trans (S3.kp st)
    generalize upd H2 found (HO.lst []) = H3 at *
    have inv0 : TInv K ns st left found H H3 signs12 [] [] 0 := ⟨hs3, l3, f3, rfl, fun j p n e => (by simp at e), fun p e => (by simp at e), List.Perm.refl _, K3, Nat.zero_le _⟩
    have mosts : ∀ i : Nat, i < 5 → ∀ x, ([V.int 4, V.int 3, V.int 3, V.int 2, V.int 2] : List V)[i]? = some x → ∃ m n : Nat, x = .int m ∧ 0 < m ∧ lims[i]? = some n ∧ (i = 0 → m ≤ n) ∧ m ≤ n + 1 ∧ n ≤ 4 ∧ (lims.take i).sum + n ≤ 10 ∧ (lims.take (i + 1)).sum = (lims.take i).sum + n := fun i hi x e => by
      match i, hi, e with
      | 0, _, e => cases e; exact ⟨4, 4, rfl, by decide⟩
      | 1, _, e => cases e; exact ⟨3, 2, rfl, by decide⟩
      | 2, _, e => cases e; exact ⟨3, 2, rfl, by decide⟩
      | 3, _, e => cases e; exact ⟨2, 1, rfl, by decide⟩
      | 4, _, e => cases e; exact ⟨2, 1, rfl, by decide⟩
    refine tfor_all (C := fun p => H3 p = none) (J := fun p => Itt K p) (H1 := fun p => upd H3 p (.tup [.int 4, .int 3, .int 3, .int 2, .int 2])) (fun R hR => ?_) fun p hp => ?_
    · walk_at "rd"
      exact fun p hp => ⟨⟨_, .inl (.inl upd_same)⟩, hR p hp⟩
    refine for_it (n := 5) (walk_tup (xs := [.int 4, .int 3, .int 3, .int 2, .int 2])) (fun i σ H4 => H4 p = some (.tup [.int 4, .int 3, .int 3, .int 2, .int 2]) ∧ ∃ v3 v4 v5 v6 ls parts, σ = [some (.ref st), some (.ref left), some (.ref found), v3, v4, v5, v6] ∧
      TInv K ns st left found H H4 ls parts [] i) ?_ (fun i σ H hi h => .inl (.inl h.1)) ?_ ?_
    · have S4 := same_new (o := HO.tup [.int 4, .int 3, .int 3, .int 2, .int 2]) hp
      exact ⟨upd_same, none, none, none, none, signs12, [], rfl, ⟨inv0.stt.same S4, S4 _ _ inv0.l, S4 _ _ inv0.f, inv0.ln, inv0.lim, inv0.ne, inv0.perm, inv0.kp.trans (S4.kp st), inv0.tot⟩⟩
    · rintro i x σ H4 H5 hi ⟨tp, v3, v4, v5, v6, ls, parts, rfl, inv⟩ ⟨rfl, hx⟩
      obtain ⟨m, n, rfl, m0, hn, mn0, mn, n4, tn, t1⟩ := mosts i hi x hx
      walk_at "rd"
      intro p1 hp1
      have S5 := same_new (o := HO.lst []) hp1
      have inv5 := inv.same S5
      have tp5 := S5 _ _ tp
      have y5 : upd H5 p1 (HO.lst []) p1 = some (HO.lst []) := upd_same
      generalize upd H5 p1 (HO.lst []) = H6 at *
      have te : tame (wsD parts) = true := wsD_tame inv5.ok8
      refine ⟨wsD parts, dp_ws (.inl (.inl inv5.f)), .list [], .lst (.inl (.inl y5)) .nil, shaped_of te (Nat.le_trans (wsD_depth _) (by decide)), by decide, .inr ?_⟩
      have ev : PyData.eqv (wsD parts) (.list []) = decide (parts = []) := eqv_dec te rfl (wsD_inj (y := []))
      rw [ev]
      obtain ⟨least, hle, l0⟩ : ∃ least : Nat, (if decide (parts = []) = true then 1 else 0 : Int) = least ∧ ((i = 0 ∧ least = 1) ∨ (i ≠ 0 ∧ least = 0)) := by
        by_cases e : parts = []
        · exact ⟨1, by simp [e], .inl ⟨by rw [← inv5.ln, e]; rfl, rfl⟩⟩
        · exact ⟨0, by simp [e], .inr ⟨fun z => e (List.eq_nil_of_length_eq_zero (inv5.ln.trans z)), rfl⟩⟩
      rw [hle]
      refine tfor_all (ι := Int × Hp) (C := fun x => 0 ≤ x.1 ∧ x.1 < m ∧ Stt K ns x.2 st ∧ Kp st H6 x.2) (J := fun x => Itr 0 ((least : Int) + x.1).toNat) (H1 := fun x => x.2) (fun R hR => ?_) fun x hx => ?_
      · walk_at "rd"
        exact ⟨ns, st, m, rfl, inv5.stt, by omega, fun z H' z1 z2 t k => ⟨z, rfl, by omega, by omega, hR (z, H') ⟨z1, z2, t, k⟩⟩⟩
      obtain ⟨z, H7⟩ := x
      obtain ⟨c1, c2, c3, c4⟩ := hx
      dsimp only at c1 c2 c3 c4
      have inv7 := inv5.draw nls nfs c3 c4
      have nps : p ≠ st := fun e => by
        obtain ⟨xs, e2⟩ := inv.stt.has
        rw [← e, tp] at e2; cases e2
      have tp7 := c4 _ _ tp5 nps
      have hn' : ((least : Int) + z).toNat ≤ n := by omega
      refine for_it (n := ((least : Int) + z).toNat) walk_range (fun k σ H8 => H8 p = some (.tup [.int 4, .int 3, .int 3, .int 2, .int 2]) ∧ ∃ v6 ls part, σ = [some (.ref st), some (.ref left), some (.ref found), some (.int m), some (.str (S part)), some (.int least), v6] ∧ part.length = k ∧
        TInv K ns st left found H H8 ls parts part i) ?_ (fun _ _ _ _ _ => trivial) ?_ ?_
      · exact ⟨tp7, _, _, [], rfl, rfl, inv7⟩
      · rintro k x σ H8 H9 hk ⟨tp8, v6, ls, part, rfl, pl, inv8⟩ ⟨rfl, rfl⟩
        walk_at "rd"
        have few := inv8.few (by omega)
        refine ⟨.inl ⟨rfl, _, .inl (.inl inv8.l)⟩, _, .inl (.inl (.inl inv8.l)), ?_⟩
        refine ⟨ns, st, _, rfl, inv8.stt, by rw [List.length_map]; omega, fun y H10 y1 y2 t10 k10 => ?_⟩
        rw [List.length_map] at y2
        have inv10 := inv8.draw nls nfs t10 k10
        obtain ⟨j, hj, rfl⟩ : ∃ j : Nat, j < ls.length ∧ y = (j : Int) := ⟨y.toNat, by omega, by omega⟩
        have lz : ls.length ≤ 12 := by
          have e := inv8.perm.length_eq
          rw [List.length_append, List.length_append, show signs12.length = 12 from rfl] at e
          omega
        refine ⟨_, _, rfl, inv10.l, by omega, by omega, j, seqIndex_of (by omega) (by rw [List.length_map]; omega), sV1 ls[j], by rw [List.getElem?_map, List.getElem?_eq_getElem hj]; rfl, _, rfl, ?_, ?_, _, ls.eraseIdx j, part ++ [ls[j]], S_app _ _, rfl, by rw [List.length_append, pl]; rfl, ?_⟩
        · exact Nat.le_trans (show part.length + 1 ≤ 100 by omega) (by decide)
        · have npl : p ≠ left := fun e => by
            have := inv8.l
            rw [← e, tp8] at this; cases this
          rw [upd_ne npl]
          exact k10 _ _ tp8 nps
        · have el : (ls.map sV1).eraseIdx j = (ls.eraseIdx j).map sV1 := map_eraseIdx' _ _ _
          rw [el]
          refine ⟨inv10.stt.kp kp_upd inv10.l (fun _ _ z => nomatch z) (Ne.symm nls), upd_same, by rw [upd_ne nfl]; exact inv10.f, inv10.ln, inv10.lim, inv10.ne, ?_, inv10.kp.mut hl, inv10.tot⟩
          refine List.Perm.trans ?_ inv10.perm
          rw [List.append_assoc]
          exact List.Perm.append_left _ (List.Perm.append_left _ (perm_eraseIdx hj))
      · rintro σ H8 ⟨tp8, v6, ls, part, rfl, pl, inv8⟩
        walk_at "rd"
        have pz : parts.length ≤ 5 := by rw [inv8.ln]; omega
        refine ⟨.inl ⟨rfl, _, .inl (.inl inv8.f)⟩, _, inv8.f, ?_, ?_, ⟨_, rfl⟩, ls, parts ++ [part], ?_⟩
        · rw [List.length_map]
          exact Nat.lt_of_le_of_lt pz (by decide)
        · have npf : p ≠ found := fun e => by
            have := inv8.f
            rw [← e, tp8] at this; cases this
          rw [upd_ne npf]
          exact tp8
        · have tt := inv8.tot
          refine ⟨inv8.stt.kp kp_upd inv8.f (fun _ _ z => nomatch z) (Ne.symm nfs), by rw [upd_ne (Ne.symm nfl)]; exact inv8.l, by rw [upd_same, List.map_append]; rfl, by rw [List.length_append, inv8.ln]; rfl, fun j q c hq hc => ?_, fun q hq => ?_, ?_, inv8.kp.mut f0, ?_⟩
          · by_cases hj : j < parts.length
            · rw [List.getElem?_append_left hj] at hq
              exact inv8.lim j q c hq hc
            · rw [List.getElem?_append_right (by omega)] at hq
              have hj0 : j - parts.length = 0 := by
                cases e : j - parts.length with
                | zero => rfl
                | succ _ => rw [e] at hq; simp at hq
              have hji : j = i := by have := inv8.ln; omega
              rw [hj0] at hq
              cases (Option.some.inj hq : part = q)
              rw [hji, hn] at hc
              cases hc
              omega
          · rcases l0 with ⟨i0, e1⟩ | ⟨i0, e1⟩
            · have e2 : parts = [] := List.eq_nil_of_length_eq_zero (inv8.ln.trans i0)
              rw [e2] at hq
              cases (Option.some.inj hq : part = q)
              intro e3
              rw [e3] at pl
              simp only [List.length_nil] at pl
              omega
            · rw [List.getElem?_append_left (by rw [inv8.ln]; omega)] at hq
              exact inv8.ne q hq
          · refine List.Perm.trans (List.Perm.of_eq ?_) inv8.perm
            simp
          · rw [t1, List.flatten_append, List.length_append]
            simp only [List.flatten_cons, List.flatten_nil, List.append_nil]
            omega
    · rintro σ H4 ⟨tp, v3, v4, v5, v6, ls, parts, rfl, inv⟩
      walk_at "rd"
      have ln := inv.ln
      have l4 := inv.lim
      have l5 := inv.ne
      have l6 := inv.perm
      have l7 := inv.f
      match parts, ln, l4, l5, l6, l7 with
      | [b, h, so, be, no], _, l4, l5, l6, l7 =>
        have nd12 : signs12.Nodup := by decide
        have sg12 : ∀ c ∈ signs12, sgn c = true := by decide
        have fe : [b, h, so, be, no].flatten = (⟨b, h, so, be, no⟩ : RS).every := by simp [RS.every]
        rw [fe] at l6
        have ok : (⟨b, h, so, be, no⟩ : RS).Ok := ⟨l4 0 b 4 rfl rfl, l4 1 h 2 rfl rfl, l4 2 so 2 rfl rfl, l4 3 be 1 rfl rfl, l4 4 no 1 rfl rfl, l5 b rfl,
          List.all_eq_true.mpr fun c hc => sg12 c (l6.mem_iff.mp (List.mem_append_left _ hc)), (List.nodup_append.mp (l6.nodup_iff.mpr nd12)).1⟩
        refine ⟨_, .inl ⟨.inl (.inl l7), fun t ht => ?_⟩⟩
        exact q ⟨b, h, so, be, no⟩ t _ ok (fun c hc => l6.mem_iff.mp (List.mem_append_left _ hc)) (fr inv.kp ht inv.stt) upd_same (inv.stt.same (same_new ht)) (inv.kp.trans ((same_new ht).kp st))
def sp_law_rules (a : Ad) : Sp := fun vs H Q _ => ∃ tp r, vs = [.ref tp] ∧ H tp = some (.tup (RS.tup r)) ∧ r.Ok ∧ ∀ p dx H', H p = none → H' p = some (.ins a.c_Rules dx r.f) → Same H H' → Q (.ref p) H'
theorem ok__law_rules (T : Txt K mg a) : FnOk P w K mg base CX0 4 a.f__law_rules a.d__law_rules P__law_rules (sp_law_rules a) := by
  refine T.F__law_rules.ok sc__law_rules (fun vs H Q E h => ?_) (fun cdv A outer s H vs Q E hr h => ?_)
  · obtain ⟨tp, r, rfl, _⟩ := h
    rfl
  · obtain ⟨tp, r, rfl, ht, ok, q⟩ := h
    have G_Rules_init := ok_Rules_init (P := P) (w := w) (base := base) T
    have B_Rules_init := bi_Rules_init T
    obtain ⟨Ds_Rules_init0, D_Rules_init0, B_Rules_init0⟩ := bi_Rules_init0 T
    refine ⟨_,
(pss_one (ps_ret (pe_make T.c_Rules.mc G_Rules_init (hr.mono (by decide)) rfl T.c_Rules.g B_Rules_init .nil pass0 (pa_cons (pe_ix ix_tup (pv 0) pe_int (fun _ _ => rfl)) (pa_cons (pe_ix ix_tup (pv 0) pe_int (fun _ _ => rfl)) (pa_cons (pe_ix ix_tup (pv 0) pe_int (fun _ _ => rfl)) (pa_cons (pe_ix ix_tup (pv 0) pe_int (fun _ _ => rfl)) (pa_cons (pe_ix ix_tup (pv 0) pe_int (fun _ _ => rfl)) pa_nil))))))))
      , ?_⟩
    rw [show start N__law_rules [V.ref tp] = [some (.ref tp)] from rfl]
    walk_at "rd"
    refine ⟨_, .inl (.inl ht), _, rfl, _, .inl (.inl ht), _, rfl, _, .inl (.inl ht), _, rfl, _, .inl (.inl ht), _, rfl, _, .inl (.inl ht), _, rfl, fun x dx hx hdx ne => ?_⟩
    refine ⟨x, dx, r, rfl, ok, upd_same, fun H' h1 h2 => ⟨rfl, q x dx H' hx h1 (Same.made hx hdx h2)⟩⟩
end
end Qw

set_option Elab.async false
set_option linter.all false
set_option maxRecDepth 100000
set_option maxHeartbeats 4000000
namespace Qw
open PySem L2
local macro_rules | `(tactic| walk_at "rd") => `(tactic| simp only [iEnum, iRng3, tRevL, rSlS, rSlL, gSub, rSetL, wipe, List.map_cons, List.map_nil, rAll, rAny, rIsi, tM1, tM0, iZipLT, iZip, iRng2, tLenSetS, rListStr, rMulS, rRep, rCntB, tRevS, rNeD, rEqD, tSeq, tNext, tAsg, tRet, tRetN, tDrop, tIfS, sFld, sFldAug, tVar, tC, tOp, tUn, tTest, tB, tAnd, tOr, tNot, tAndV, tOrV, tNotV, tIf, tTup, tLst, tCons, tNil, tCB, tCall, tMeth, tMake, tFld, rI, rI0, rU, rEq, rNe, rCat, gName, gTup, gCons, gNil, tPar, tPar3, tBM, tBM0, rAppend, rExtend, rPopAt, rIxL, rIxT, rIxS, tSl, rSlS, rSlL, tPart, tNoPart, iStr, iTup, iList, iRng1, tAug, ipI, L2.rAdd, L2.rSub, L2.rAddS, tChain, rIsB, rNotB, scal_ss, scal_ii, scal_bb, scal_nn, scal_in, scal_ni, tYes,
  cx_K, cx_N, List.getElem?_cons_zero, List.getElem?_cons_succ, List.set_cons_zero, List.set_cons_succ, List.nil_append, List.cons_append, List.append_nil, List.length_cons, List.length_nil, Nat.zero_add,
  Option.some.injEq, V.ref.injEq, V.int.injEq, V.str.injEq, V.bl.injEq, HO.ins.injEq, HO.lst.injEq, HO.tup.injEq, List.cons.injEq, exists_eq_left, exists_eq_left', exists_eq_right, exists_eq_right', and_true, true_and, exists_and_left, exists_and_right, and_assoc, decide_eq_true_eq, Bool.not_eq_true', decide_eq_false_iff_not, reduceCtorEq, exists_const, forall_const, if_true, if_false, false_and, and_false, ite_true, ite_false, Bool.true_eq_false, Bool.false_eq_true, Nat.reduceLeDiff, Nat.reduceAdd, small_line, small_lt, upd_ne, ne_eq, not_false_eq_true, Nat.zero_le, Prod.mk.injEq, upd_same, upd_upd, S_tl, S_len, S_app, S_one, S_inj,
  lk_breaks, lk_hard, lk_soft, lk_bend, lk_note, lk_rules, lk_state, lk_bent, lk_word, lk_begun, lk_opened, lk_place, pt_state, pt_bent, pt_word, pt_wordS, pt_wordN, pt_begun, pt_opened, pt_place, pt_place1, len_mf, litv_empty, litv_note, litv_nl, mf_inj, rf_inj, lkn_begin, lkn_ended, lkn_plain, lkn_quoted, lkn_step, lkn_fault, lkn_key, lkn_told, lkn_quotes, lkn_special, pt_open1, not_true_eq_false, not_false_eq_true])
local macro_rules | `(tactic| walk_at "rdh") => `(tactic| simp only [iEnum, iRng3, tRevL, rSlS, rSlL, gSub, rSetL, wipe, List.map_cons, List.map_nil, rAll, rAny, rIsi, tM1, tM0, iZipLT, iZip, iRng2, tLenSetS, rListStr, rMulS, rRep, rCntB, tRevS, rNeD, rEqD, tSeq, tNext, tAsg, tRet, tRetN, tDrop, tIfS, sFld, sFldAug, tVar, tC, tOp, tUn, tTest, tB, tAnd, tOr, tNot, tAndV, tOrV, tNotV, tIf, tTup, tLst, tCons, tNil, tCB, tCall, tMeth, tMake, tFld, rI, rI0, rU, rEq, rNe, rCat, gName, gTup, gCons, gNil, tPar, tPar3, tBM, tBM0, rAppend, rExtend, rPopAt, rIxL, rIxT, rIxS, tSl, rSlS, rSlL, tPart, tNoPart, iStr, iTup, iList, iRng1, tAug, ipI, L2.rAdd, L2.rSub, L2.rAddS, tChain, rIsB, rNotB, scal_ss, scal_ii, scal_bb, scal_nn, scal_in, scal_ni, tYes,
  cx_K, cx_N, List.getElem?_cons_zero, List.getElem?_cons_succ, List.set_cons_zero, List.set_cons_succ, List.nil_append, List.cons_append, List.append_nil, List.length_cons, List.length_nil, Nat.zero_add,
  Option.some.injEq, V.ref.injEq, V.int.injEq, V.str.injEq, V.bl.injEq, HO.ins.injEq, HO.lst.injEq, HO.tup.injEq, List.cons.injEq, exists_eq_left, exists_eq_left', exists_eq_right, exists_eq_right', and_true, true_and, exists_and_left, exists_and_right, and_assoc, decide_eq_true_eq, Bool.not_eq_true', decide_eq_false_iff_not, reduceCtorEq, exists_const, forall_const, if_true, if_false, false_and, and_false, ite_true, ite_false, Bool.true_eq_false, Bool.false_eq_true, Nat.reduceLeDiff, Nat.reduceAdd, small_line, small_lt, upd_ne, ne_eq, not_false_eq_true, Nat.zero_le, Prod.mk.injEq, upd_same, upd_upd, S_tl, S_len, S_app, S_one, S_inj,
  lk_breaks, lk_hard, lk_soft, lk_bend, lk_note, lk_rules, lk_state, lk_bent, lk_word, lk_begun, lk_opened, lk_place, pt_state, pt_bent, pt_word, pt_wordS, pt_wordN, pt_begun, pt_opened, pt_place, pt_place1, len_mf, litv_empty, litv_note, litv_nl, mf_inj, rf_inj, lkn_begin, lkn_ended, lkn_plain, lkn_quoted, lkn_step, lkn_fault, lkn_key, lkn_told, lkn_quotes, lkn_special, pt_open1, not_true_eq_false, not_false_eq_true, *])
local macro_rules | `(tactic| walk_at "pl") => `(tactic| (first | decide | (refine Nat.lt_of_le_of_lt (length_putF _ _ _) ?_; repeat (first | decide | refine pl2 ?_))))
local macro_rules | `(tactic| walk_at "al") => `(tactic| (intro p hp; generalize hH : upd _ p _ = H1; obtain ⟨S, e⟩ := gen_new hH hp; clear hH))
theorem atI_S {t : Tx} {z : Int} (h0 : 0 ≤ z) (h : z < t.length) : ∃ (j : Nat) (hj : j < t.length), z = (j : Int) ∧ atI (S t).cps.toList z = some t[j] := by
  rw [S_tl]
  exact at_in h0 h
theorem atI_S' {t : Tx} {j c : Nat} (h : t[j]? = some c) : atI (S t).cps.toList (j : Int) = some c := by
  rw [S_tl]
  exact atI_nat h
theorem tseq_split {A B : TS} {D : Ends} {σ : St} {H : Hp} (Mid : St → Hp → Prop) (h1 : ∀ N : St → Hp → Prop, (∀ σ' H', Mid σ' H' → N σ' H') → A { D with nx := N } σ H) (h2 : ∀ σ' H', Mid σ' H' → B D σ' H') : tSeq A B D σ H := h1 _ h2
section
variable {P : Program} {w : World} {K : PySem.W.Frag} {mg : Str → Option Value} {base : Heap} {a : Ad}
def sp_law_text (K : PySem.W.Frag) : Sp := fun vs H Q _ => ∃ (ns : List Int) (st tp : Addr) (r : RS) (m : Nat), vs = [.ref st, .ref tp, .int m] ∧ Stt K ns H st ∧ H tp = some (.tup (RS.tup r)) ∧ r.Ok ∧ m ≤ 1000 ∧
  ∀ (t : Tx) H', t.length ≤ m → t.all sgn = true → Stt K ns H' st → Kp st H H' → Q (.str (S t)) H'
theorem ok__law_text (T : Txt K mg a) : FnOk P w K mg base CX0 4 a.f__law_text a.d__law_text P__law_text (sp_law_text K) := by
  refine T.F__law_text.ok sc__law_text (fun vs H Q E h => ?_) (fun cdv A outer s H vs Q E hr h => ?_)
  · obtain ⟨ns, st, tp, r, m, rfl, _⟩ := h
    rfl
  · obtain ⟨ns, st, tp, r, m, rfl, hs, ht, ok, hm, q⟩ := h
    have G__law_next := ok__law_next (P := P) (w := w) (base := base) T
    have B__law_next := bi__law_next T
    refine ⟨_,
(pss_cons (ps_par (i := 3) (j := 4) (by rfl) sc__law_text.nd rfl rfl (by decide) rfl rfl (pa_cons (pe_op op_add_str (pe_join pe_str (pv 1)) pe_str) (pa_cons pe_str pa_nil)) (by rfl))
    (pss_cons (ps_for PassesOwn.never rfl (pi_range1 rfl T.b_range (pa_cons (pe_call G__law_next (hr.mono (by decide)) rfl T.f__law_next.g T.f__law_next.k B__law_next .nil pass0 (pa_cons (pv 0) (pa_cons (pe_op op_add (pv 2) pe_int) pa_nil))) pa_nil)) (pg_name (i := 5) sc__law_text.nd rfl (by first | exact Or.inl rfl | exact Or.inr rfl))
    (pss_cons (ps_set (i := 6) sc__law_text.nd rfl (by first | exact Or.inl rfl | exact Or.inr rfl) (pe_ifExp (pt_cmpR op_gt (pe_call G__law_next (hr.mono (by decide)) rfl T.f__law_next.g T.f__law_next.k B__law_next .nil pass0 (pa_cons (pv 0) (pa_cons pe_int pa_nil))) pe_int (nomark _)) (pv 3) pe_str))
    (pss_one (ps_set (i := 4) sc__law_text.nd rfl (by first | exact Or.inl rfl | exact Or.inr rfl) (pe_op op_add_str (pv 4) (pe_ix ix_str (pv 6) (pe_call G__law_next (hr.mono (by decide)) rfl T.f__law_next.g T.f__law_next.k B__law_next .nil pass0 (pa_cons (pv 0) (pa_cons (pe_callB call_len_str (by rfl) T.b_len PySem.boot_len (pa_cons (pv 6) pa_nil)) pa_nil))) (fun _ _ => rfl)))))))
    (pss_one (ps_ret (pv 4)))))
      , ?_⟩
    rw [show start N__law_text [V.ref st, V.ref tp, V.int m] = [some (.ref st), some (.ref tp), some (.int m), none, none, none, none] from rfl]
    walk_at "rd"
    have ev : r.every.length ≤ 10 := by
      have h1 := ok.l1; have h2 := ok.l2; have h3 := ok.l3; have h4 := ok.l4; have h5 := ok.l5
      simp only [RS.every, List.length_append]; omega
    have jn : Txt.join (S []) [S r.breaks, S r.hard, S r.soft, S r.bend, S r.note] = S r.every := by
      have := join_flat [r.breaks, r.hard, r.soft, r.bend, r.note]
      simpa [RS.every] using this
    have lab : Str.ofString "ab \n" = S [97, 98, 32, 10] := by decide +kernel
    have lcd : Str.ofString "cde~!" = S [99, 100, 101, 126, 33] := by decide +kernel
    refine ⟨⟨_, rfl⟩, [S r.breaks, S r.hard, S r.soft, S r.bend, S r.note], .inr (.inl (.inl ht)), ?_, ?_⟩
    · have h1 := ok.l1; have h2 := ok.l2; have h3 := ok.l3; have h4 := ok.l4; have h5 := ok.l5
      simp only [List.map_cons, List.map_nil, List.sum_cons, List.sum_nil, S_len, List.length_cons, List.length_nil]; omega
    rw [jn, lab, lcd, S_app]
    have sgS : ∀ c ∈ r.every ++ [97, 98, 32, 10], sgn c = true := fun c hc => by
      rcases List.mem_append.mp hc with h | h
      · exact List.all_eq_true.mp ok.sg c h
      · exact (show ∀ c ∈ [97, 98, 32, 10], sgn c = true by decide) c h
    have sgC : ∀ c ∈ [99, 100, 101, 126, 33], sgn c = true := by decide
    have lS : (r.every ++ [97, 98, 32, 10]).length ≤ 14 := by simp only [List.length_append, List.length_cons, List.length_nil]; omega
    have l0 : 0 < (r.every ++ [97, 98, 32, 10]).length := by simp only [List.length_append, List.length_cons, List.length_nil]; omega
    generalize r.every ++ [97, 98, 32, 10] = sg at *
    refine ⟨by rw [S_len, S_len]; exact Nat.le_trans (show r.every.length + 4 ≤ 14 by omega) (by decide), ?_⟩
    refine tfor_all (ι := Int × Hp) (C := fun x => 0 ≤ x.1 ∧ x.1 < (m : Int) + 1 ∧ Stt K ns x.2 st ∧ Kp st H x.2) (J := fun x => Itr 0 x.1.toNat) (H1 := fun x => x.2) (fun R hR => ?_) fun x hx => ?_
    · walk_at "rd"
      exact ⟨ns, st, _, rfl, hs, by omega, fun z H' z1 z2 t k => ⟨z, rfl, by omega, by omega, hR (z, H') ⟨z1, z2, t, k⟩⟩⟩
    obtain ⟨z, H1⟩ := x
    obtain ⟨c1, c2, c3, c4⟩ := hx
    dsimp only at c1 c2 c3 c4
    refine for_it (n := z.toNat) walk_range (fun k σ H2 => ∃ v5 v6 t, σ = [some (.ref st), some (.ref tp), some (.int m), some (.str (S sg)), some (.str (S t)), v5, v6] ∧ t.length = k ∧ t.all sgn = true ∧ Stt K ns H2 st ∧ Kp st H H2)
      ⟨_, _, [], rfl, rfl, rfl, c3, c4⟩ (fun _ _ _ _ _ => trivial) ?_ ?_
    · rintro k x σ H2 H3 hk ⟨v5, v6, t, rfl, tl, ts, t2, k2⟩ ⟨rfl, rfl⟩
      walk_at "rd"
      refine ⟨ns, st, 4, rfl, t2, by decide, fun y H4 y1 y2 t4 k4 => ⟨y, rfl, ?_⟩⟩
      have fin : ∀ c H', sgn c = true → Stt K ns H' st → Kp st H4 H' → t.length + 1 ≤ sizeLine ∧ (t ++ [c]).length = k + 1 ∧ (t ++ [c]).all sgn = true ∧ Stt K ns H' st ∧ Kp st H H' := fun c H' h1 h2 h3 =>
        ⟨Nat.le_trans (show t.length + 1 ≤ 2001 by omega) (by decide), by rw [List.length_append, tl]; rfl, by rw [List.all_append, ts]; simp [h1], h2, (k2.trans k4).trans h3⟩
      refine ite2 (fun _ => ?_) (fun _ => ?_)
      · refine ⟨Nat.le_trans lS (by decide), ns, st, _, rfl, t4, by omega, fun y' H5 z1 z2 t5 k5 => ?_⟩
        obtain ⟨j, hj, e1, e2⟩ := at_in (xs := sg) z1 z2
        exact ⟨y', rfl, Nat.le_trans lS (by decide), _, e2, fin _ H5 (sgS _ (List.getElem_mem hj)) t5 k5⟩
      · refine ⟨ns, st, _, rfl, t4, by decide, fun y' H5 z1 z2 t5 k5 => ?_⟩
        obtain ⟨j, hj, e1, e2⟩ := at_in (xs := [99, 100, 101, 126, 33]) z1 z2
        exact ⟨y', rfl, _, e2, fin _ H5 (sgC _ (List.getElem_mem hj)) t5 k5⟩
    · rintro σ H2 ⟨v5, v6, t, rfl, tl, ts, t2, k2⟩
      walk_at "rd"
      exact q t H2 (by omega) ts t2 k2
def sp_law_quoted : Sp := fun vs H Q _ => ∃ (tp : Addr) (r : RS) (t : Tx) (k q : Nat), vs = [.ref tp, .str (S t), .int k] ∧ H tp = some (.tup (RS.tup r)) ∧ t.length ≤ 2000 ∧ t[k]? = some q ∧
  ∀ p H', H p = none → Same H H' → (match lq r q k (t.drop (k + 1)) (k + 1) [] with
    | .error b => H' p = some (.tup [.non, .int b])
    | .ok (f, e) => H' p = some (.tup [.str (S f), .int e])) → Q (.ref p) H'
theorem ok__law_quoted (T : Txt K mg a) : FnOk P w K mg base CX0 1 a.f__law_quoted a.d__law_quoted P__law_quoted sp_law_quoted := by
  refine T.F__law_quoted.ok sc__law_quoted (fun vs H Q E h => ?_) (fun cdv A outer s H vs Q E hr h => ?_)
  · obtain ⟨tp, r, t, k, q, rfl, _⟩ := h
    rfl
  · obtain ⟨tp, r, t, k, q, rfl, ht, hl, hq, kk⟩ := h
    refine ⟨_,
(pss_cons (ps_par3 (i := 3) (j := 4) (l := 5) (by rfl) sc__law_quoted.nd rfl rfl rfl (by decide) (by decide) (by decide) rfl rfl rfl (pa_cons (pv 2) (pa_cons (pe_ix ix_str (pv 1) (pv 2) (fun _ _ => rfl)) (pa_cons pe_str pa_nil))) (by rfl))
    (pss_cons (ps_set (i := 2) sc__law_quoted.nd rfl (by first | exact Or.inl rfl | exact Or.inr rfl) (pe_op op_add (pv 2) pe_int))
    (pss_cons (ps_while PassesOwn.never (pt_cmpR op_lt (pv 2) (pe_callB call_len_str (by rfl) T.b_len PySem.boot_len (pa_cons (pv 1) pa_nil)) (nomark _)) (pss_cons (ps_if (pt_cmpR op_eq (pe_ix ix_str (pv 1) (pv 2) (fun _ _ => rfl)) (pv 4) (nomark _)) (pss_one (ps_ret (pe_tup (pa_cons (pv 5) (pa_cons (pe_op op_add (pv 2) pe_int) pa_nil))))) pss_nil)
    (pss_cons (ps_if (PW.pt (pw_and (pt_cmpR op_in_sign (pv 4) (pe_ix ix_tup (pv 0) pe_int (fun _ _ => rfl)) rfl) (pw_and (pt_cmpR op_ne (pe_ix ix_tup (pv 0) pe_int (fun _ _ => rfl)) pe_str (nomark _)) (pw_and1 (pt_cmpR op_eq (pe_ix ix_str (pv 1) (pv 2) (fun _ _ => rfl)) (pe_ix ix_tup (pv 0) pe_int (fun _ _ => rfl)) (nomark _)))))) (pss_cons (ps_set (i := 2) sc__law_quoted.nd rfl (by first | exact Or.inl rfl | exact Or.inr rfl) (pe_op op_add (pv 2) pe_int))
    (pss_one (ps_if (pt_cmpR op_eq (pv 2) (pe_callB call_len_str (by rfl) T.b_len PySem.boot_len (pa_cons (pv 1) pa_nil)) (nomark _)) (pss_one (ps_ret (pe_tup (pa_cons pe_non (pa_cons (pv 3) pa_nil))))) pss_nil))) pss_nil)
    (pss_cons (ps_set (i := 5) sc__law_quoted.nd rfl (by first | exact Or.inl rfl | exact Or.inr rfl) (pe_op op_add_str (pv 5) (pe_ix ix_str (pv 1) (pv 2) (fun _ _ => rfl))))
    (pss_one (ps_set (i := 2) sc__law_quoted.nd rfl (by first | exact Or.inl rfl | exact Or.inr rfl) (pe_op op_add (pv 2) pe_int)))))))
    (pss_one (ps_ret (pe_tup (pa_cons pe_non (pa_cons (pv 3) pa_nil))))))))
      , ?_⟩
    rw [show start N__law_quoted [V.ref tp, V.str (S t), V.int k] = [some (.ref tp), some (.str (S t)), some (.int k), none, none, none] from rfl]
    walk_at "rd"
    refine ⟨Nat.le_trans hl (by decide), q, atI_nat hq, ?_⟩
    have hk : k < t.length := (List.getElem?_eq_some_iff.mp hq).1
    refine while_rule (fun n σ H' => H' = H ∧ ∃ (i : Nat) (f : Tx), σ = [some (.ref tp), some (.str (S t)), some (.int i), some (.int k), some (.str (S [q])), some (.str (S f))] ∧ n = t.length - i ∧ i ≤ t.length ∧ f.length ≤ i ∧
      lq r q k (t.drop i) i f = lq r q k (t.drop (k + 1)) (k + 1) []) _ ⟨rfl, k + 1, [], rfl, rfl, by omega, by simp, rfl⟩ ?_
    rintro n σ1 H1 R ⟨rfl, i, f, rfl, rfl, hi, hf, inv⟩ hT hF
    walk_at "rd"
    have sz : t.length ≤ sizeLine := Nat.le_trans hl (by decide)
    refine ⟨sz, ?_⟩
    by_cases hlt : i < t.length
    · rw [decide_eq_true (by omega)]
      refine hT _ ?_
      have hc : t[i]? = some t[i] := List.getElem?_eq_getElem hlt
      have a1 := atI_nat hc
      have dr := drop_at hc
      generalize t[i] = c at *
      walk_at "rd"
      refine ⟨sz, c, a1, ?_⟩
      rw [dr] at inv
      refine ite2 (fun c1 p hp => ?_) (fun c1 => ?_)
      · rw [lq_one c1] at inv
        rw [← inv] at kk
        exact kk p _ hp (same_new hp) (by rw [upd_same]; rfl)
      have sf : f.length + 1 ≤ sizeLine := Nat.le_trans (show f.length + 1 ≤ 2001 by omega) (by decide)
      have plain : ¬ (q ∈ r.soft ∧ r.bend = [c]) → t.length ≤ sizeLine ∧ ∃ x, atI t (i : Int) = some x ∧ f.length + 1 ≤ sizeLine ∧ ∃ n', n' < t.length - i ∧ ∃ j : Nat, (i : Int) + 1 = j ∧ n' = t.length - j ∧ j ≤ t.length ∧ (f ++ [x]).length ≤ j ∧
          lq r q k (t.drop j) j (f ++ [x]) = lq r q k (t.drop (k + 1)) (k + 1) [] := fun h2 => by
        refine ⟨sz, c, a1, sf, t.length - (i + 1), by omega, i + 1, rfl, rfl, by omega, by rw [List.length_append]; simp only [List.length_cons, List.length_nil]; omega, ?_⟩
        rw [← inv, lq_plain c1 h2]
      refine ⟨_, .inl (.inl ht), _, rfl, _, rfl, ite2 (fun c2 => ?_) (fun c2 => plain fun h => c2 h.1)⟩
      refine ⟨_, .inl (.inl ht), _, rfl, rfl, ite2 (fun c3 => ?_) (fun c3 => plain fun h => ?_)⟩
      · refine ⟨sz, c, a1, _, .inl (.inl ht), _, rfl, rfl, ite2 (fun c4 => ?_) (fun c4 => plain fun h => ?_)⟩
        · have hb : q ∈ r.soft ∧ r.bend = [c] := ⟨c2, by simpa [S_inj] using (of_decide_eq_true c4).symm⟩
          refine ⟨sz, ite2 (fun c5 p hp => ?_) (fun c5 => ?_)⟩
          · have e0 : t.drop (i + 1) = [] := List.drop_eq_nil_of_le (by omega)
            rw [e0, lq_last c1] at inv
            rw [← inv] at kk
            exact kk p _ hp (same_new hp) upd_same
          · have hd : t[i + 1]? = some (t[i + 1]'(by omega)) := List.getElem?_eq_getElem (by omega)
            have a2 := atI_nat hd
            have dr2 := drop_at hd
            generalize t[i + 1]'(by omega) = d at *
            refine ⟨sz, d, a2, sf, t.length - (i + 2), by omega, i + 2, rfl, rfl, by omega, by rw [List.length_append]; simp only [List.length_cons, List.length_nil]; omega, ?_⟩
            rw [← inv, dr2, lq_bend c1 hb]
        · exact c4 (decide_eq_true (by rw [h.2]))
      · apply c3
        rw [h.2]
        simp [S_inj]
    · rw [decide_eq_false (by omega)]
      refine hF _ ?_
      have e0 : t.drop i = [] := List.drop_eq_nil_of_le (by omega)
      rw [e0] at inv
      walk_at "rd"
      intro p hp
      rw [← inv] at kk
      exact kk p _ hp (same_new hp) upd_same
def sp_law_word : Sp := fun vs H Q _ => ∃ (tp : Addr) (r : RS) (t : Tx) (k : Nat), vs = [.ref tp, .str (S t), .int k] ∧ H tp = some (.tup (RS.tup r)) ∧ r.Ok ∧ t.length ≤ 2000 ∧ k ≤ t.length ∧
  ∀ p H', H p = none → Same H H' → (match lw r t t.length k [] with
    | .error b => H' p = some (.tup [.non, .int b])
    | .ok (f, e) => H' p = some (.tup [.str (S f), .int e])) → Q (.ref p) H'
theorem ok__law_word (T : Txt K mg a) : FnOk P w K mg base CX0 2 a.f__law_word a.d__law_word P__law_word sp_law_word := by
  refine T.F__law_word.ok sc__law_word (fun vs H Q E h => ?_) (fun cdv A outer s H vs Q E hr h => ?_)
  · obtain ⟨tp, r, t, k, rfl, _⟩ := h
    rfl
  · obtain ⟨tp, r, t, k, rfl, ht, ok, hl, hk, kk⟩ := h
    have G__law_quoted := ok__law_quoted (P := P) (w := w) (base := base) T
    have B__law_quoted := bi__law_quoted T
    refine ⟨_,
(pss_cons (ps_set (i := 3) sc__law_word.nd rfl (by first | exact Or.inl rfl | exact Or.inr rfl) pe_str)
    (pss_cons (ps_while PassesOwn.never (PW.pt (pw_and (pt_cmpR op_lt (pv 2) (pe_callB call_len_str (by rfl) T.b_len PySem.boot_len (pa_cons (pv 1) pa_nil)) (nomark _)) (pw_and1 (pt_cmpR op_notIn_sign (pe_ix ix_str (pv 1) (pv 2) (fun _ _ => rfl)) (pe_op op_add_str (pe_ix ix_tup (pv 0) pe_int (fun _ _ => rfl)) (pe_ix ix_tup (pv 0) pe_int (fun _ _ => rfl))) rfl)))) (pss_one (ps_if (pt_cmpR op_in_sign (pe_ix ix_str (pv 1) (pv 2) (fun _ _ => rfl)) (pe_op op_add_str (pe_ix ix_tup (pv 0) pe_int (fun _ _ => rfl)) (pe_ix ix_tup (pv 0) pe_int (fun _ _ => rfl))) rfl) (pss_cons (ps_asg (pe_call G__law_quoted (hr.mono (by decide)) rfl T.f__law_quoted.g T.f__law_quoted.k B__law_quoted .nil pass0 (pa_cons (pv 0) (pa_cons (pv 1) (pa_cons (pv 2) pa_nil)))) (pg_tup rfl (pgs_cons (pg_name (i := 4) sc__law_word.nd rfl (by first | exact Or.inl rfl | exact Or.inr rfl)) (pgs_cons (pg_name (i := 2) sc__law_word.nd rfl (by first | exact Or.inl rfl | exact Or.inr rfl)) pgs_nil))))
    (pss_cons (ps_if (pt_cmpR op_isN (pv 4) pe_non (nomark _)) (pss_one (ps_ret (pe_tup (pa_cons pe_non (pa_cons (pv 2) pa_nil))))) pss_nil)
    (pss_one (ps_set (i := 3) sc__law_word.nd rfl (by first | exact Or.inl rfl | exact Or.inr rfl) (pe_op op_add_str (pv 3) (pv 4)))))) (pss_one (ps_if (PW.pt (pw_and (pt_cmpR op_ne (pe_ix ix_tup (pv 0) pe_int (fun _ _ => rfl)) pe_str (nomark _)) (pw_and1 (pt_cmpR op_eq (pe_ix ix_str (pv 1) (pv 2) (fun _ _ => rfl)) (pe_ix ix_tup (pv 0) pe_int (fun _ _ => rfl)) (nomark _))))) (pss_cons (ps_if (pt_cmpR op_eq (pe_op op_add (pv 2) pe_int) (pe_callB call_len_str (by rfl) T.b_len PySem.boot_len (pa_cons (pv 1) pa_nil)) (nomark _)) (pss_one (ps_ret (pe_tup (pa_cons pe_non (pa_cons (pv 2) pa_nil))))) pss_nil)
    (pss_one (ps_par (i := 3) (j := 2) (by rfl) sc__law_word.nd rfl rfl (by decide) rfl rfl (pa_cons (pe_op op_add_str (pv 3) (pe_ix ix_str (pv 1) (pe_op op_add (pv 2) pe_int) (fun _ _ => rfl))) (pa_cons (pe_op op_add (pv 2) pe_int) pa_nil)) (by rfl)))) (pss_one (ps_par (i := 3) (j := 2) (by rfl) sc__law_word.nd rfl rfl (by decide) rfl rfl (pa_cons (pe_op op_add_str (pv 3) (pe_ix ix_str (pv 1) (pv 2) (fun _ _ => rfl))) (pa_cons (pe_op op_add (pv 2) pe_int) pa_nil)) (by rfl))))))))
    (pss_one (ps_ret (pe_tup (pa_cons (pv 3) (pa_cons (pv 2) pa_nil)))))))
      , ?_⟩
    rw [show start N__law_word [V.ref tp, V.str (S t), V.int k] = [some (.ref tp), some (.str (S t)), some (.int k), none, none] from rfl]
    have sz : t.length ≤ sizeLine := Nat.le_trans hl (by decide)
    have szb : r.breaks.length + r.note.length ≤ sizeLine := Nat.le_trans (show r.breaks.length + r.note.length ≤ 5 by have h1 := ok.l1; have h5 := ok.l5; omega) (by decide)
    have szq : r.hard.length + r.soft.length ≤ sizeLine := Nat.le_trans (show r.hard.length + r.soft.length ≤ 4 by have h1 := ok.l2; have h5 := ok.l3; omega) (by decide)
    walk_at "rd"
    refine while_rule (fun n σ H' => Same H H' ∧ ∃ (i m : Nat) (f : Tx) (v : Option V), σ = [some (.ref tp), some (.str (S t)), some (.int i), some (.str (S f)), v] ∧ n = t.length - i ∧ i ≤ t.length ∧ f.length ≤ i ∧ t.length ≤ m + i ∧
      lw r t m i f = lw r t t.length k []) _ ⟨Same.refl _, k, t.length, [], _, rfl, rfl, hk, Nat.zero_le _, by omega, rfl⟩ ?_
    rintro n σ1 H1 R ⟨s1, i, m, f, v, rfl, rfl, hi, hf, hm, inv⟩ hT hF
    have ht1 := s1 _ _ ht
    walk_at "rd"
    refine ⟨sz, ?_⟩
    have fin : lw r t m i f = .ok (f, i) → R false H1 := fun e => by
      refine hF _ ?_
      rw [← inv, e] at kk
      walk_at "rd"
      exact fun p hp => kk p _ (s1.free hp) (s1.trans (same_new hp)) upd_same
    by_cases hlt : i < t.length
    · have hc : t[i]? = some t[i] := List.getElem?_eq_getElem hlt
      have a1 := atI_nat hc
      generalize t[i] = c at *
      obtain ⟨m, rfl⟩ : ∃ m', m = m' + 1 := ⟨m - 1, by omega⟩
      rw [if_pos (by omega)]
      refine ⟨sz, c, a1, _, .inl (.inl ht1), _, rfl, _, .inl (.inl ht1), _, rfl, _, rfl, _, rfl, szb, ?_⟩
      rw [S_app, S_tl]
      by_cases c1 : c ∈ r.breaks ++ r.note
      · rw [decide_eq_true c1]
        exact fin (by simp only [lw, hc, if_pos c1])
      · rw [decide_eq_false c1]
        refine hT _ ?_
        walk_at "rd"
        have hc1 : c ∉ r.breaks ++ r.note := c1
        have sf : f.length + 1 ≤ sizeLine := Nat.le_trans (show f.length + 1 ≤ 2001 by omega) (by decide)
        refine ⟨sz, c, a1, _, .inl (.inl ht1), _, rfl, _, .inl (.inl ht1), _, rfl, _, rfl, _, rfl, szq, ?_⟩
        rw [S_app, S_tl]
        refine ite2 (fun c2 => ?_) (fun c2 => ?_)
        · refine ⟨tp, r, t, i, c, rfl, ht1, hl, hc, fun p H2 hp s2 res => ?_⟩
          have bd := lq_bd r c i (t.drop (i + 1)) (i + 1) []
          rw [List.length_drop] at bd
          have s02 := s1.trans s2
          have ht2 := s2 _ _ ht1
          cases e : lq r c i (t.drop (i + 1)) (i + 1) [] with
          | error b =>
            rw [e] at res bd
            have inv2 : lw r t (m + 1) i f = .error b := by simp only [lw, hc, if_neg hc1, if_pos c2, e]
            rw [← inv, inv2] at kk
            dsimp only at res
            refine ⟨p, rfl, _, .inl (.inl res), rfl, _, _, rfl, _, _, rfl, rfl, ?_⟩
            refine ite2 (fun _ p2 hp2 => ?_) (fun h => absurd rfl h)
            exact kk p2 _ (s02.free hp2) (s02.trans (same_new hp2)) upd_same
          | ok z =>
            obtain ⟨g, e2⟩ := z
            rw [e] at res bd
            dsimp only at res bd
            simp only [List.length_nil] at bd
            have inv2 : lw r t (m + 1) i f = lw r t m e2 (f ++ g) := by simp only [lw, hc, if_neg hc1, if_pos c2, e]
            refine ⟨p, rfl, _, .inl (.inl res), rfl, _, _, rfl, _, _, rfl, rfl, ?_⟩
            refine ite2 (fun h => by cases h) (fun _ => ?_)
            refine ⟨_, rfl, Nat.le_trans (show f.length + g.length ≤ 3000 by omega) (by decide), ?_⟩
            exact ⟨t.length - e2, by omega, s02, e2, rfl, m, f ++ g, S_app _ _, rfl, by omega, by rw [List.length_append]; omega, by omega, by rw [← inv2, inv]⟩
        have plain : r.bend ≠ [c] → t.length ≤ sizeLine ∧ ∃ x, atI t (i : Int) = some x ∧ f.length + 1 ≤ sizeLine ∧ ∃ n', n' < t.length - i ∧ Same H H1 ∧ ∃ j : Nat, (i : Int) + 1 = j ∧ n' = t.length - j ∧ j ≤ t.length ∧ (f ++ [x]).length ≤ j ∧
            ∃ m2, t.length ≤ m2 + j ∧ lw r t m2 j (f ++ [x]) = lw r t t.length k [] := fun h2 => by
          refine ⟨sz, c, a1, sf, t.length - (i + 1), by omega, s1, i + 1, rfl, rfl, by omega, by rw [List.length_append]; simp only [List.length_cons, List.length_nil]; omega, m, by omega, ?_⟩
          rw [← inv]
          simp only [lw, hc, if_neg hc1, if_neg c2, if_neg h2]
        refine ⟨_, .inl (.inl ht1), _, rfl, rfl, ite2 (fun c3 => ?_) (fun c3 => plain fun h => c3 (by rw [h]; simp [S_inj]))⟩
        refine ⟨sz, c, a1, _, .inl (.inl ht1), _, rfl, rfl, ite2 (fun c4 => ?_) (fun c4 => plain fun h => c4 (decide_eq_true (by rw [h])))⟩
        have hb : r.bend = [c] := by simpa [S_inj] using (of_decide_eq_true c4).symm
        refine ⟨sz, ite2 (fun c5 p hp => ?_) (fun c5 => ?_)⟩
        · have hn : t[i + 1]? = none := List.getElem?_eq_none_iff.mpr (by omega)
          have inv2 : lw r t (m + 1) i f = .error i := by simp only [lw, hc, if_neg hc1, if_neg c2, if_pos hb, hn]
          rw [← inv, inv2] at kk
          exact kk p _ (s1.free hp) (s1.trans (same_new hp)) upd_same
        · have hd : t[i + 1]? = some (t[i + 1]'(by omega)) := List.getElem?_eq_getElem (by omega)
          have a2 := atI_nat hd
          generalize t[i + 1]'(by omega) = d at *
          have inv2 : lw r t (m + 1) i f = lw r t m (i + 2) (f ++ [d]) := by simp only [lw, hc, if_neg hc1, if_neg c2, if_pos hb, hd]
          refine ⟨sz, d, a2, sf, t.length - (i + 2), by omega, s1, i + 2, rfl, rfl, by omega, by rw [List.length_append]; simp only [List.length_cons, List.length_nil]; omega, m, by omega, by rw [← inv2, inv]⟩
    · rw [if_neg (by omega)]
      have hn : t[i]? = none := List.getElem?_eq_none_iff.mpr (by omega)
      refine fin ?_
      cases m with
      | zero => rfl
      | succ m => simp only [lw, hn]
/-- what the law's own reading tells -/
def LRes (H H' : Hp) (v : V) (x : Except Nat (List W3)) : Prop := match x with
  | .error b => v = .int b
  | .ok ds => ∃ tp l1 l2 ys, v = .ref tp ∧ H tp = none ∧ H l1 = none ∧ H l2 = none ∧ l1 ≠ l2 ∧ H' tp = some (.tup [.ref l1, .ref l2]) ∧ H' l1 = some (.lst ((ds.map (·.1)).map sV)) ∧ H' l2 = some (.lst ys) ∧
    Paired (Pls H') ys (ds.map fun d => ((d.2.1 : Int), (d.2.2 : Int)))
def sp_law_read : Sp := fun vs H Q _ => ∃ (tp : Addr) (r : RS) (t : Tx), vs = [.ref tp, .str (S t)] ∧ H tp = some (.tup (RS.tup r)) ∧ r.Ok ∧ t.length ≤ 2000 ∧
  ∀ v H', Same H H' → LRes H H' v (lr r t (t.length + 1) 0 []) → Q v H'
theorem ok__law_read (T : Txt K mg a) : FnOk P w K mg base CX0 3 a.f__law_read a.d__law_read P__law_read sp_law_read := by
  refine T.F__law_read.ok sc__law_read (fun vs H Q E h => ?_) (fun cdv A outer s H vs Q E hr h => ?_)
  · obtain ⟨tp, r, t, rfl, _⟩ := h
    rfl
  · obtain ⟨tp, r, t, rfl, ht, ok, hl, kk⟩ := h
    have G__law_word := ok__law_word (P := P) (w := w) (base := base) T
    have B__law_word := bi__law_word T
    refine ⟨_,
(pss_cons (ps_par3 (i := 2) (j := 3) (l := 4) (by rfl) sc__law_read.nd rfl rfl rfl (by decide) (by decide) (by decide) rfl rfl rfl (pa_cons (pe_lst pa_nil) (pa_cons (pe_lst pa_nil) (pa_cons pe_int pa_nil))) (by rfl))
    (pss_cons (ps_while PassesOwn.never (pt_cmpR op_lt (pv 4) (pe_callB call_len_str (by rfl) T.b_len PySem.boot_len (pa_cons (pv 1) pa_nil)) (nomark _)) (pss_cons (ps_if (PW.pt (pw_and (pt_cmpR op_ne (pe_ix ix_tup (pv 0) pe_int (fun _ _ => rfl)) pe_str (nomark _)) (pw_and1 (pt_cmpR op_eq (pe_ix ix_str (pv 1) (pv 4) (fun _ _ => rfl)) (pe_ix ix_tup (pv 0) pe_int (fun _ _ => rfl)) (nomark _))))) (pss_cons (ps_set (i := 5) sc__law_read.nd rfl (by first | exact Or.inl rfl | exact Or.inr rfl) (pe_bm PySem.F.plainAttrs_str PySem.F.slot_str_find PySem.F.type_str_find mt_find3 (pv 1) (pa_cons pe_str (pa_cons (pe_op op_add (pv 4) pe_int) pa_nil))))
    (pss_one (ps_set (i := 4) sc__law_read.nd rfl (by first | exact Or.inl rfl | exact Or.inr rfl) (pe_ifExp (pt_cmpR op_ge (pv 5) pe_int (nomark _)) (pv 5) (pe_callB call_len_str (by rfl) T.b_len PySem.boot_len (pa_cons (pv 1) pa_nil)))))) pss_nil)
    (pss_one (ps_if (PW.pt (pw_and (pt_cmpR op_lt (pv 4) (pe_callB call_len_str (by rfl) T.b_len PySem.boot_len (pa_cons (pv 1) pa_nil)) (nomark _)) (pw_and1 (pt_cmpR op_in_sign (pe_ix ix_str (pv 1) (pv 4) (fun _ _ => rfl)) (pe_ix ix_tup (pv 0) pe_int (fun _ _ => rfl)) rfl)))) (pss_one (ps_set (i := 4) sc__law_read.nd rfl (by first | exact Or.inl rfl | exact Or.inr rfl) (pe_op op_add (pv 4) pe_int))) (pss_one (ps_if (PW.pt (pw_and (pt_cmpR op_lt (pv 4) (pe_callB call_len_str (by rfl) T.b_len PySem.boot_len (pa_cons (pv 1) pa_nil)) (nomark _)) (pw_and1 (pt_cmpR op_notIn_sign (pe_ix ix_str (pv 1) (pv 4) (fun _ _ => rfl)) (pe_ix ix_tup (pv 0) pe_int (fun _ _ => rfl)) rfl)))) (pss_cons (ps_asg (pe_call G__law_word (hr.mono (by decide)) rfl T.f__law_word.g T.f__law_word.k B__law_word .nil pass0 (pa_cons (pv 0) (pa_cons (pv 1) (pa_cons (pv 4) pa_nil)))) (pg_tup rfl (pgs_cons (pg_name (i := 6) sc__law_read.nd rfl (by first | exact Or.inl rfl | exact Or.inr rfl)) (pgs_cons (pg_name (i := 5) sc__law_read.nd rfl (by first | exact Or.inl rfl | exact Or.inr rfl)) pgs_nil))))
    (pss_cons (ps_if (pt_cmpR op_isN (pv 6) pe_non (nomark _)) (pss_one (ps_ret (pv 5))) pss_nil)
    (pss_cons (ps_expr (pe_bm PySem.F.plainAttrs_list PySem.F.slot_list_append PySem.F.type_list_append mt_append (pv 2) (pa_cons (pv 6) pa_nil)))
    (pss_cons (ps_expr (pe_bm PySem.F.plainAttrs_list PySem.F.slot_list_append PySem.F.type_list_append mt_append (pv 3) (pa_cons (pe_tup (pa_cons (pv 4) (pa_cons (pv 5) pa_nil))) pa_nil)))
    (pss_one (ps_set (i := 4) sc__law_read.nd rfl (by first | exact Or.inl rfl | exact Or.inr rfl) (pv 5))))))) pss_nil))))))
    (pss_one (ps_ret (pe_tup (pa_cons (pv 2) (pa_cons (pv 3) pa_nil)))))))
      , ?_⟩
    rw [show start N__law_read [V.ref tp, V.str (S t)] = [some (.ref tp), some (.str (S t)), none, none, none, none, none] from rfl]
    have sz : t.length ≤ sizeLine := Nat.le_trans hl (by decide)
    walk_at "rd"
    intro l1 hl1
    have S1 := same_new (o := HO.lst []) hl1
    have e1 : upd H l1 (HO.lst []) l1 = some (HO.lst []) := upd_same
    generalize upd H l1 (HO.lst []) = H1 at *
    intro l2 hl2
    have S2 := same_new (o := HO.lst []) hl2
    have e2 : upd H1 l2 (HO.lst []) l2 = some (HO.lst []) := upd_same
    have e1' := S2 _ _ e1
    have n12 : l1 ≠ l2 := ne_of_none e1 hl2
    generalize upd H1 l2 (HO.lst []) = H2 at *
    have S02 := S1.trans S2
    have hl2' := S1.free hl2
    refine while_rule (fun n σ H' => Same H H' ∧ ∃ (i m : Nat) (acc : List W3) (ys : List V) (v5 v6 : Option V), σ = [some (.ref tp), some (.str (S t)), some (.ref l1), some (.ref l2), some (.int i), v5, v6] ∧ n = t.length - i ∧ i ≤ t.length ∧ t.length < m + i ∧ acc.length ≤ i ∧
      H' l1 = some (.lst ((acc.map (·.1)).map sV)) ∧ H' l2 = some (.lst ys) ∧ Paired (Pls H') ys (acc.map fun d => ((d.2.1 : Int), (d.2.2 : Int))) ∧ lr r t m i acc = lr r t (t.length + 1) 0 [])
      _ ⟨S02, 0, t.length + 1, [], [], _, _, rfl, rfl, by omega, by omega, by simp, e1', e2, .nil, rfl⟩ ?_
    rintro n σ1 H3 R ⟨s3, i, m, acc, ys, v5, v6, rfl, rfl, hi, hm, ha, f1, f2, f3, inv⟩ hT hF
    have ht3 := s3 _ _ ht
    walk_at "rd"
    refine ⟨sz, ?_⟩
    by_cases hlt : i < t.length
    · rw [decide_eq_true (by omega)]
      refine hT _ ?_
      have hc : t[i]? = some t[i] := List.getElem?_eq_getElem hlt
      have a1 := atI_nat hc
      generalize t[i] = c at *
      obtain ⟨m, rfl⟩ : ∃ m', m = m' + 1 := ⟨m - 1, by omega⟩
      refine tseq_split (fun σ' H' => H' = H3 ∧ ∃ v5, σ' = [some (.ref tp), some (.str (S t)), some (.ref l1), some (.ref l2), some (.int (if r.note = [c] then nlAt t (i + 1) else i : Nat)), v5, v6]) (fun N hN => ?_) ?_
      · walk_at "rd"
        refine ⟨_, .inl (.inl ht3), _, rfl, rfl, ite2 (fun c1 => ?_) (fun c1 => ?_)⟩
        · refine ⟨sz, c, a1, _, .inl (.inl ht3), _, rfl, rfl, ite2 (fun c2 => ?_) (fun c2 => ?_)⟩
          · have hb : r.note = [c] := by simpa [S_inj] using (of_decide_eq_true c2).symm
            have fn := find_nl (t := t) (i := i + 1) (by omega)
            refine ⟨rfl, ?_⟩
            rcases fn with ⟨g1, g2⟩ | ⟨g1, g2⟩
            · have g1 : Txt.find3 (S t) (S [LE]) ((i : Int) + 1) = -1 := g1
              refine ite2 (fun h => absurd h (by omega)) (fun _ => ⟨sz, hN _ _ ⟨rfl, some (.int (Txt.find3 (S t) (S [LE]) ((i : Int) + 1))), ?_⟩⟩)
              rw [if_pos hb, g2]
            · have g1 : Txt.find3 (S t) (S [LE]) ((i : Int) + 1) = (nlAt t (i + 1) : Int) := g1
              refine ite2 (fun _ => hN _ _ ⟨rfl, some (.int (Txt.find3 (S t) (S [LE]) ((i : Int) + 1))), ?_⟩) (fun h => absurd h (by omega))
              rw [if_pos hb, g1]
          · refine hN _ _ ⟨rfl, v5, ?_⟩
            rw [if_neg (fun h => c2 (decide_eq_true (by rw [h])))]
        · refine hN _ _ ⟨rfl, v5, ?_⟩
          rw [if_neg (fun h => c1 (by rw [h]; simp [S_inj]))]
      · rintro σ' H' ⟨rfl, v5', rfl⟩
        generalize hk1 : (if r.note = [c] then nlAt t (i + 1) else i) = k1
        have ns := nlAt_spec (t := t) (i := i + 1) (by omega)
        have k1i : i ≤ k1 := by rw [← hk1]; split <;> omega
        have k1l : k1 ≤ t.length := by rw [← hk1]; split <;> omega
        walk_at "rd"
        refine ⟨sz, ?_⟩
        by_cases hk : k1 < t.length
        · have hc' : t[k1]? = some t[k1] := List.getElem?_eq_getElem hk
          have a2 := atI_nat hc'
          generalize t[k1] = c' at *
          rw [if_pos (by omega)]
          refine ⟨sz, c', a2, _, .inl (.inl ht3), _, rfl, _, rfl, ite2 (fun (d1 : c' ∈ r.breaks) => ?_) (fun (d1 : ¬ c' ∈ r.breaks) => ?_)⟩
          · have il : lr r t (m + 1) i acc = lr r t m (k1 + 1) acc := by simp only [lr, hc, hk1, hc', if_pos d1]
            exact ⟨t.length - (k1 + 1), by omega, s3, k1 + 1, rfl, rfl, by omega, m, by omega, acc, by omega, f1, ys, f2, f3, by rw [← il, inv]⟩
          · rw [if_pos (by omega)]
            refine ⟨sz, ?_⟩
            refine ⟨sz, c', a2, _, .inl (.inl ht3), _, rfl, _, rfl, ite2 (fun (d2 : ¬ c' ∈ r.note) => ?_) (fun d2 => ?_)⟩
            · refine ⟨tp, r, t, k1, rfl, ht3, ok, hl, k1l, fun p0 H4 hp0 s4 res => ?_⟩
              have d3 : c' ∉ r.breaks ++ r.note := fun h => (List.mem_append.mp h).elim d1 d2
              have bd := lw_bd r t t.length k1 [] k1l
              have s04 := s3.trans s4
              cases e : lw r t t.length k1 [] with
              | error b =>
                rw [e] at res
                dsimp only at res
                refine ⟨p0, rfl, _, .inl (.inl res), rfl, _, _, rfl, _, _, rfl, rfl, ?_⟩
                refine ite2 (fun _ => ?_) (fun h => absurd rfl h)
                have il : lr r t (m + 1) i acc = .error b := by simp only [lr, hc, hk1, hc', if_neg d1, if_neg d2, e]
                rw [← inv, il] at kk
                exact kk _ _ s04 rfl
              | ok z =>
                obtain ⟨g, e2⟩ := z
                rw [e] at res bd
                dsimp only at res bd
                have ps : k1 + 1 ≤ e2 := by
                  obtain ⟨n', hn'⟩ : ∃ n', t.length = n' + 1 := ⟨t.length - 1, by omega⟩
                  rw [hn'] at e
                  exact lw_pos hc' d3 e
                have il : lr r t (m + 1) i acc = lr r t m e2 (acc ++ [(g, k1, e2)]) := by simp only [lr, hc, hk1, hc', if_neg d1, if_neg d2, e]
                have g1 := s4 _ _ f1
                have g2 := s4 _ _ f2
                refine ⟨p0, rfl, _, .inl (.inl res), rfl, _, _, rfl, _, _, rfl, rfl, ?_⟩
                refine ite2 (fun h => by cases h) (fun _ => ?_)
                refine ⟨.inl ⟨rfl, _, .inl (.inl g1)⟩, _, g1, ?_, ?_⟩
                · rw [List.length_map, List.length_map]
                  exact Nat.lt_of_le_of_lt (show acc.length ≤ 2000 by omega) (by decide)
                have S5 : Same H (upd H4 l1 (HO.lst ((acc.map (·.1)).map sV ++ [V.str (S g)]))) := Same.mut s04 hl1
                have T5 : Tk H4 (upd H4 l1 (HO.lst ((acc.map (·.1)).map sV ++ [V.str (S g)]))) := kp_upd.tk g1 fun _ z => by cases z
                have h51 : upd H4 l1 (HO.lst ((acc.map (·.1)).map sV ++ [V.str (S g)])) l1 = some (HO.lst ((acc.map (·.1)).map sV ++ [V.str (S g)])) := upd_same
                have h52 : upd H4 l1 (HO.lst ((acc.map (·.1)).map sV ++ [V.str (S g)])) l2 = some (HO.lst ys) := by rw [upd_ne (Ne.symm n12)]; exact g2
                generalize upd H4 l1 (HO.lst ((acc.map (·.1)).map sV ++ [V.str (S g)])) = H5 at *
                refine ⟨.inl ⟨rfl, _, .inl (.inl h52)⟩, fun p hp => ?_⟩
                have S6 := same_new (o := HO.tup [V.int k1, V.int e2]) hp
                have hp0' : H p = none := S5.free hp
                have h6p : upd H5 p (HO.tup [V.int k1, V.int e2]) p = some (HO.tup [V.int k1, V.int e2]) := upd_same
                have h61 := S6 _ _ h51
                have h62 := S6 _ _ h52
                have n2p : l2 ≠ p := ne_of_none h52 hp
                generalize upd H5 p (HO.tup [V.int k1, V.int e2]) = H6 at *
                have S06 : Same H H6 := S5.trans S6
                have T7 : Tk H6 (upd H6 l2 (HO.lst (ys ++ [V.ref p]))) := kp_upd.tk h62 fun _ z => by cases z
                refine ⟨_, h62, ?_, t.length - e2, by omega, Same.mut S06 hl2', e2, rfl, rfl, by omega, m, by omega, acc ++ [(g, k1, e2)], ?_, ?_, ?_, by rw [← il, inv]⟩
                · rw [f3.length, List.length_map]
                  exact Nat.lt_of_le_of_lt (show acc.length ≤ 2000 by omega) (by decide)
                · rw [List.length_append]
                  simp only [List.length_cons, List.length_nil]
                  omega
                · rw [upd_ne n12, h61, List.map_append, List.map_append]
                  rfl
                · rw [List.map_append]
                  refine Paired.app (Paired.mapP f3 fun _ _ z => z.mono fun b xs q => T7 _ _ (S6 _ _ (T5 _ _ (s4 _ _ q)))) (.cons ⟨p, rfl, T7 _ _ h6p⟩ .nil)
            · have d2 : c' ∈ r.note := Classical.byContradiction d2
              have il : lr r t (m + 1) i acc = lr r t m k1 acc := by simp only [lr, hc, hk1, hc', if_neg d1, if_pos d2]
              have ki : i < k1 := by
                by_cases h : r.note = [c]
                · rw [if_pos h] at hk1; omega
                · rw [if_neg h] at hk1
                  subst hk1
                  rw [hc] at hc'
                  cases hc'
                  have l5 := ok.l5
                  match hnn : r.note, d2, l5 with
                  | [x], d2, _ => rw [List.mem_singleton.mp d2] at h; exact absurd hnn h
              exact ⟨t.length - k1, by omega, s3, k1, rfl, rfl, by omega, m, by omega, acc, by omega, f1, ys, f2, f3, by rw [← il, inv]⟩
        · rw [if_neg (by omega)]
          refine ⟨sz, ?_⟩
          rw [if_neg (by omega)]
          have hn : t[k1]? = none := List.getElem?_eq_none_iff.mpr (by omega)
          have il : lr r t (m + 1) i acc = lr r t m k1 acc := by
            simp only [lr, hc, hk1, hn]
            cases m <;> simp [lr, hn]
          exact ⟨t.length - k1, by omega, s3, k1, rfl, rfl, by omega, m, by omega, acc, by omega, f1, ys, f2, f3, by rw [← il, inv]⟩
    · rw [decide_eq_false (by omega)]
      refine hF _ ?_
      have hn : t[i]? = none := List.getElem?_eq_none_iff.mpr (by omega)
      have e : lr r t m i acc = .ok acc := by cases m <;> simp [lr, hn]
      rw [← inv, e] at kk
      walk_at "rd"
      intro p hp
      have s4 := same_new (o := HO.tup [V.ref l1, V.ref l2]) hp
      exact kk _ _ (s3.trans s4) ⟨p, l1, l2, ys, rfl, s3.free hp, hl1, hl2', n12, upd_same, s4 _ _ f1, s4 _ _ f2, Paired.mapP f3 fun _ _ z => z.mono fun b xs => s4 b _⟩
end
end Qw

set_option Elab.async false
set_option linter.all false
set_option maxRecDepth 100000
set_option maxHeartbeats 4000000
namespace Qw
open PySem L2
/-! pieces of lists and texts, comprehensions told by a relation (for the laws but k01, where QwLawD and QwLawE hold them) -/
theorem cut_from (xs : List V) (k : Nat) : cutV xs (some (k : Int)) none = xs.drop k := by
  unfold cutV
  rw [HT.sIx_nat, HT.sIx_none]
  rcases Nat.le_total k xs.length with h | h
  · rw [Nat.min_eq_left h]
    exact List.take_of_length_le (by rw [List.length_drop]; exact Nat.le_refl _)
  · rw [Nat.min_eq_right h, List.drop_eq_nil_of_le (Nat.le_refl _), List.drop_eq_nil_of_le h]
    simp
theorem cutS_from (l : Tx) (k : Nat) : cutS (S l) (some (k : Int)) none = S (l.drop k) := by
  unfold cutS
  rw [S_len, HT.sIx_nat, HT.sIx_none]
  rcases Nat.le_total k l.length with h | h
  · rw [Nat.min_eq_left h]
    refine congrArg S ?_
    exact List.take_of_length_le (by rw [List.length_drop]; exact Nat.le_refl _)
  · rw [Nat.min_eq_right h]
    refine congrArg S ?_
    show (l.drop l.length).take _ = _
    rw [List.drop_eq_nil_of_le (Nat.le_refl _), List.drop_eq_nil_of_le h]
    simp
theorem cut_to (xs : List V) (k : Nat) : cutV xs none (some (k : Int)) = xs.take k := by
  unfold cutV
  rw [HT.sIx_nat, HT.sIx_none, List.drop_zero, Nat.sub_zero]
  rcases Nat.le_total k xs.length with h | h
  · rw [Nat.min_eq_left h]
  · rw [Nat.min_eq_right h, List.take_of_length_le (Nat.le_refl _), List.take_of_length_le h]
theorem Paired.rev {α β : Type} {F : α → β → Prop} : ∀ {l : List α} {m : List β}, Paired F l m → Paired F l.reverse m.reverse
  | _, _, .nil => .nil
  | _, _, .cons r t => by
    rw [List.reverse_cons, List.reverse_cons]
    exact Paired.app (Paired.rev t) (.cons r .nil)
theorem Paired.drop' {α β : Type} {F : α → β → Prop} : ∀ {l : List α} {m : List β} (k : Nat), Paired F l m → Paired F (l.drop k) (m.drop k)
  | _, _, 0, h => h
  | _, _, _ + 1, .nil => .nil
  | _, _, k + 1, .cons _ t => Paired.drop' k t
theorem Paired.take' {α β : Type} {F : α → β → Prop} : ∀ {l : List α} {m : List β} (k : Nat), Paired F l m → Paired F (l.take k) (m.take k)
  | _, _, 0, _ => by simp only [List.take_zero]; exact .nil
  | _, _, _ + 1, .nil => .nil
  | _, _, k + 1, .cons r t => .cons r (Paired.take' k t)
theorem kp_free {st p : Addr} {H H' : Hp} {o : HO} (k : Kp st H H') (hs : H' st = some o) (hp : H' p = none) : H p = none := by
  cases e : H p with
  | none => rfl
  | some u =>
    have := k _ _ e fun z => by rw [z, hs] at hp; cases hp
    rw [hp] at this; cases this
theorem fresh_ne {H : Hp} {p st : Addr} {o : HO} (hs : H st = some o) (hp : H p = none) : p ≠ st := Ne.symm (ne_of_none hs hp)
theorem cutS_to (l : Tx) (k : Nat) : cutS (S l) none (some (k : Int)) = S (l.take k) := by
  unfold cutS
  rw [S_len, HT.sIx_nat, HT.sIx_none]
  rcases Nat.le_total k l.length with h | h
  · rw [Nat.min_eq_left h]
    rfl
  · rw [Nat.min_eq_right h]
    refine congrArg S ?_
    show (l.drop 0).take _ = _
    rw [List.drop_zero, Nat.sub_zero, List.take_of_length_le (Nat.le_refl _), List.take_of_length_le h]
theorem lc_rel {α : Type} {J : It} {G : Hp → Prop} {Y : Nat → Hp → V → Hp → Prop} {g : TG} {tt : TT} {te : TE} {vs : List Nat} {σ : St} {H1 : Hp} {D : Addr} {Qd : Hp → Prop}
    (as : List α) (F : Hp → V → α → Prop) (mono : ∀ {p : Addr} {H H' : Hp} {v : V} {x : α}, Kp p H H' → (∃ xs, H p = some (.lst xs)) → F H v x → F H' v x)
    (w : Walk J as.length G Y) (hz : as.length ≤ 1000000) (h1 : H1 D = none) (hG : ∀ H, Same H1 H → G H)
    (hs : ∀ (R : VK) (R' : Hp → Prop) i a x H H', as[i]? = some a → Same H1 H → Y i H x H' → (∀ y H4, Same H H4 → F H4 y a → R y H4) →
      g x (wipe σ vs) H' fun σ2 H2 => wipe σ2 vs = wipe σ vs ∧ tt σ2 H2 fun b H3 => if b = true then te σ2 H3 R else R' H3)
    (hd : ∀ H ys, Same H1 H → H D = some (.lst ys) → Paired (F H) ys as → Qd H) :
    ∃ W : Nat → Nat → Hp → Prop, (∃ m, W 0 m (upd H1 D (.lst []))) ∧ ∀ i m H, W i m H →
      (J.stop i H ∧ Qd H) ∨ (J.go i H ∧ ∃ Nx : Hp → Prop, (∀ H', Nx H' → ∃ m', m' < m ∧ W (i + 1) m' H') ∧ ∀ x H', J.yld i H x H' → g x (wipe σ vs) H' fun σ2 H2 => wipe σ2 vs = wipe σ vs ∧ tt σ2 H2 fun b H3 =>
        if b = true then te σ2 H3 fun y H4 => ∃ acc, H4 D = some (.lst acc) ∧ acc.length < sizeLine ∧ Nx (upd H4 D (.lst (acc ++ [y]))) else Nx H3) := by
  refine lc_it w (fun i H => Same H1 H ∧ ∃ ys, H D = some (.lst ys) ∧ Paired (F H) ys (as.take i)) ⟨same_new h1, [], upd_same, by simp only [List.take_zero]; exact .nil⟩ (fun _ H _ p => hG H p.1) ?_ fun H p => by
    obtain ⟨p1, ys, p2, p3⟩ := p
    rw [List.take_length] at p3
    exact hd H ys p1 p2 p3
  rintro i x H H' hi ⟨p1, ys, p2, p3⟩ y
  obtain ⟨a, ha⟩ : ∃ a, as[i]? = some a := ⟨as[i], List.getElem?_eq_getElem hi⟩
  refine hs _ _ i a x H H' ha p1 y fun z H4 s4 f4 => ⟨_, s4 _ _ p2, ?_, ?_, _, upd_same, ?_⟩
  · rw [p3.length, List.length_take]
    exact Nat.lt_of_lt_of_le (show min i as.length < 1000001 by omega) (by decide)
  · exact Same.mut (p1.trans s4) h1
  · have kq : Kp D H4 (upd H4 D (.lst (ys ++ [z]))) := kp_upd
    rw [take_at ha]
    exact Paired.app (Paired.mapP p3 fun _ _ f => mono kq ⟨_, s4 _ _ p2⟩ (mono (s4.kp D) ⟨_, p2⟩ f)) (.cons (mono kq ⟨_, s4 _ _ p2⟩ f4) .nil)
theorem tlc_all {ι : Type} {C : ι → Prop} {J : ι → It} {H1 : ι → Hp} {wi : TI} {g : TG} {tt : TT} {te : TE} {vs : List Nat} {σ : St} {H : Hp} {Q : VK} (hw : ∀ R : It → Hp → Prop, (∀ x, C x → R (J x) (H1 x)) → wi σ H R)
    (h2 : ∀ x, C x → ∀ D, H1 x D = none → ∃ W : Nat → Nat → Hp → Prop, (∃ m, W 0 m (upd (H1 x) D (.lst []))) ∧ ∀ i m H, W i m H →
      ((J x).stop i H ∧ Q (.ref D) H) ∨ ((J x).go i H ∧ ∃ Nx : Hp → Prop, (∀ H', Nx H' → ∃ m', m' < m ∧ W (i + 1) m' H') ∧ ∀ y H', (J x).yld i H y H' → g y (wipe σ vs) H' fun σ2 H2 => wipe σ2 vs = wipe σ vs ∧ tt σ2 H2 fun b H3 =>
        if b = true then te σ2 H3 fun y H4 => ∃ acc, H4 D = some (.lst acc) ∧ acc.length < sizeLine ∧ Nx (upd H4 D (.lst (acc ++ [y]))) else Nx H3)) : tLc wi g tt te vs σ H Q := hw _ h2
end Qw

set_option Elab.async false
set_option linter.all false
set_option maxRecDepth 100000
set_option maxHeartbeats 4000000
namespace Qw
open PySem L2
/-! answers, for the laws but k01 -/
theorem pe_fldK {X : Cx} {K : PySem.W.Frag} {e : Expr} {f : Str} {ta : TE} {pos : Pos} (h : X.K = K) (he : PE X e ta) (hb : attributeBase e f X.env (eval e X.env) = eval e X.env) : PE X (.Attribute e f pos) (tFld K ta f) := by
  subst h
  exact pe_fld he hb
theorem SqT.same {K : PySem.W.Frag} {H H' : Hp} {p : Addr} {xs : List V} (s : Same H H') (h : SqT K H p xs) : SqT K H' p xs := by
  rcases h with (h | ⟨o, h⟩) | h
  · exact .inl (.inl (s _ _ h))
  · exact .inl (.inr ⟨o, s _ _ h⟩)
  · exact .inr h
mutual
theorem Dp.same {K : PySem.W.Frag} {H H' : Hp} (s : Same H H') : ∀ (d : PyData) (v : V), Dp K H v d → Dp K H' v d
  | .none, _, h => by cases h; exact .non
  | .bool _, _, h => by cases h; exact .bl _
  | .int _, _, h => by cases h; exact .int _
  | .str _, _, h => by cases h; exact .str _
  | .list ds, _, h => by
    cases h with
    | lst hs ha => exact .lst (s.seq hs) (DpAll.same s ds _ ha)
  | .tuple ds, _, h => by
    cases h with
    | tup hs ha => exact .tup (SqT.same s hs) (DpAll.same s ds _ ha)
  | .dict _, _, h => by cases h
theorem DpAll.same {K : PySem.W.Frag} {H H' : Hp} (s : Same H H') : ∀ (ds : List PyData) (vs : List V), DpAll K H vs ds → DpAll K H' vs ds
  | [], _, h => by cases h; exact .nil
  | d :: ds, _, h => by
    cases h with
    | cons h1 h2 => exact .cons (Dp.same s d _ h1) (DpAll.same s ds _ h2)
end
section
variable {P : Program} {w : World} {K : PySem.W.Frag} {mg : Str → Option Value} {base : Heap} {a : Ad}
theorem few_quotes {r : RS} (ok : r.Ok) : r.hard.length + r.soft.length ≤ 100 := by have h1 := ok.l2; have h2 := ok.l3; omega
theorem shown_bool (b : Bool) : (PyData.list [.bool b]).showable = true ∧ (PyData.list [.bool b]).hasDict = false ∧ (PyData.list [.bool b]).depth ≤ 32 ∧ (PyData.list [.bool b]).shown.length ≤ sizeLine := by
  cases b <;> exact ⟨by decide, by decide, by decide, by decide +kernel⟩
end
end Qw

set_option Elab.async false
set_option linter.all false
set_option maxRecDepth 100000
set_option maxHeartbeats 4000000
namespace Qw
open PySem L2
local macro_rules | `(tactic| walk_at "rd") => `(tactic| simp only [iEnum, iRng3, tRevL, rSlS, rSlL, gSub, rSetL, wipe, List.map_cons, List.map_nil, rAll, rAny, rIsi, tM1, tM0, iZipLT, iZip, iRng2, tLenSetS, rListStr, rMulS, rRep, rCntB, tRevS, rNeD, rEqD, tSeq, tNext, tAsg, tRet, tRetN, tDrop, tIfS, sFld, sFldAug, tVar, tC, tOp, tUn, tTest, tB, tAnd, tOr, tNot, tAndV, tOrV, tNotV, tIf, tTup, tLst, tCons, tNil, tCB, tCall, tMeth, tMake, tFld, rI, rI0, rU, rEq, rNe, rCat, gName, gTup, gCons, gNil, tPar, tPar3, tBM, tBM0, rAppend, rExtend, rPopAt, rIxL, rIxT, rIxS, tSl, rSlS, rSlL, tPart, tNoPart, iStr, iTup, iList, iRng1, tAug, ipI, L2.rAdd, L2.rSub, L2.rAddS, tChain, rIsB, rNotB, scal_ss, scal_ii, scal_bb, scal_nn, scal_in, scal_ni, tYes,
  cx_K, cx_N, List.getElem?_cons_zero, List.getElem?_cons_succ, List.set_cons_zero, List.set_cons_succ, List.nil_append, List.cons_append, List.append_nil, List.length_cons, List.length_nil, Nat.zero_add,
  Option.some.injEq, V.ref.injEq, V.int.injEq, V.str.injEq, V.bl.injEq, HO.ins.injEq, HO.lst.injEq, HO.tup.injEq, List.cons.injEq, exists_eq_left, exists_eq_left', exists_eq_right, exists_eq_right', and_true, true_and, exists_and_left, exists_and_right, and_assoc, decide_eq_true_eq, Bool.not_eq_true', decide_eq_false_iff_not, reduceCtorEq, exists_const, forall_const, if_true, if_false, false_and, and_false, ite_true, ite_false, Bool.true_eq_false, Bool.false_eq_true, Nat.reduceLeDiff, Nat.reduceAdd, small_line, small_lt, upd_ne, ne_eq, not_false_eq_true, Nat.zero_le, Prod.mk.injEq, upd_same, upd_upd, S_tl, S_len, S_app, S_one, S_inj,
  lk_breaks, lk_hard, lk_soft, lk_bend, lk_note, lk_rules, lk_state, lk_bent, lk_word, lk_begun, lk_opened, lk_place, pt_state, pt_bent, pt_word, pt_wordS, pt_wordN, pt_begun, pt_opened, pt_place, pt_place1, len_mf, litv_empty, litv_note, litv_nl, mf_inj, rf_inj, lkn_begin, lkn_ended, lkn_plain, lkn_quoted, lkn_step, lkn_fault, lkn_key, lkn_told, lkn_quotes, lkn_special, pt_open1, not_true_eq_false, not_false_eq_true])
local macro_rules | `(tactic| walk_at "rdh") => `(tactic| simp only [iEnum, iRng3, tRevL, rSlS, rSlL, gSub, rSetL, wipe, List.map_cons, List.map_nil, rAll, rAny, rIsi, tM1, tM0, iZipLT, iZip, iRng2, tLenSetS, rListStr, rMulS, rRep, rCntB, tRevS, rNeD, rEqD, tSeq, tNext, tAsg, tRet, tRetN, tDrop, tIfS, sFld, sFldAug, tVar, tC, tOp, tUn, tTest, tB, tAnd, tOr, tNot, tAndV, tOrV, tNotV, tIf, tTup, tLst, tCons, tNil, tCB, tCall, tMeth, tMake, tFld, rI, rI0, rU, rEq, rNe, rCat, gName, gTup, gCons, gNil, tPar, tPar3, tBM, tBM0, rAppend, rExtend, rPopAt, rIxL, rIxT, rIxS, tSl, rSlS, rSlL, tPart, tNoPart, iStr, iTup, iList, iRng1, tAug, ipI, L2.rAdd, L2.rSub, L2.rAddS, tChain, rIsB, rNotB, scal_ss, scal_ii, scal_bb, scal_nn, scal_in, scal_ni, tYes,
  cx_K, cx_N, List.getElem?_cons_zero, List.getElem?_cons_succ, List.set_cons_zero, List.set_cons_succ, List.nil_append, List.cons_append, List.append_nil, List.length_cons, List.length_nil, Nat.zero_add,
  Option.some.injEq, V.ref.injEq, V.int.injEq, V.str.injEq, V.bl.injEq, HO.ins.injEq, HO.lst.injEq, HO.tup.injEq, List.cons.injEq, exists_eq_left, exists_eq_left', exists_eq_right, exists_eq_right', and_true, true_and, exists_and_left, exists_and_right, and_assoc, decide_eq_true_eq, Bool.not_eq_true', decide_eq_false_iff_not, reduceCtorEq, exists_const, forall_const, if_true, if_false, false_and, and_false, ite_true, ite_false, Bool.true_eq_false, Bool.false_eq_true, Nat.reduceLeDiff, Nat.reduceAdd, small_line, small_lt, upd_ne, ne_eq, not_false_eq_true, Nat.zero_le, Prod.mk.injEq, upd_same, upd_upd, S_tl, S_len, S_app, S_one, S_inj,
  lk_breaks, lk_hard, lk_soft, lk_bend, lk_note, lk_rules, lk_state, lk_bent, lk_word, lk_begun, lk_opened, lk_place, pt_state, pt_bent, pt_word, pt_wordS, pt_wordN, pt_begun, pt_opened, pt_place, pt_place1, len_mf, litv_empty, litv_note, litv_nl, mf_inj, rf_inj, lkn_begin, lkn_ended, lkn_plain, lkn_quoted, lkn_step, lkn_fault, lkn_key, lkn_told, lkn_quotes, lkn_special, pt_open1, not_true_eq_false, not_false_eq_true, *])
local macro_rules | `(tactic| walk_at "pl") => `(tactic| (first | decide | (refine Nat.lt_of_le_of_lt (length_putF _ _ _) ?_; repeat (first | decide | refine pl2 ?_))))
local macro_rules | `(tactic| walk_at "al") => `(tactic| (intro p hp; generalize hH : upd _ p _ = H1; obtain ⟨S, e⟩ := gen_new hH hp; clear hH))
section
variable {P : Program} {w : World} {K : PySem.W.Frag} {mg : Str → Option Value} {base : Heap} {a : Ad}
def sp_part_of (a : Ad) : Sp := fun vs H Q _ => ∃ p dr r c, vs = [.ref p, .str (S [c])] ∧ H p = some (.ins a.c_Rules dr (RS.f r)) ∧ r.every.length ≤ 100 ∧ ∀ l H', H l = none → Same H H' → H' l = some (.lst ((partB r c).map V.bl)) → Q (.ref l) H'
theorem ok_part_of (T : Txt K mg a) : FnOk P w K mg base CX0 2 a.f_part_of a.d_part_of P_part_of (sp_part_of a) := by
  refine T.F_part_of.ok sc_part_of (fun vs H Q E h => ?_) (fun cdv A outer s H vs Q E hr h => ?_)
  · obtain ⟨p, dr, r, c, rfl, _⟩ := h
    rfl
  · obtain ⟨p, dr, r, c, rfl, hR0, hl, k⟩ := h
    have G_Rules_told := ok_Rules_told (P := P) (w := w) (base := base) T
    have B_Rules_told := bi_Rules_told T
    refine ⟨_,
(pss_one (ps_ret (pe_lc (own := [("part", 2)]) (g := gName 2) (tt := tYes) rfl sc_part_of.nd (pi_tup (pe_meth0 (pv 0) T.c_Rules.cl T.m_Rules_told G_Rules_told (hr.mono (by decide)) B_Rules_told .nil pass0)) (blkOk_by (own := [("part", 2)]) (N := N_part_of) (sc := defScope st_part_of) (by decide +kernel)) (fun _ _ _ _ _ => (pg_name (i := 2) sc_part_of.nd rfl (by first | exact Or.inl rfl | exact Or.inr rfl))) (fun _ _ _ _ _ => pts_nil) (fun _ _ _ _ _ => (pe_cmpR op_in_sign (pv 1) (pv 2) rfl)))))
      , ?_⟩
    rw [show start N_part_of [V.ref p, V.str (S [c])] = [some (.ref p), some (.str (S [c])), none] from rfl]
    walk_at "rd"
    let parts : List Tx := [r.breaks, r.hard, r.soft, r.bend, r.note]
    refine tlc_all (ι := Addr × Hp) (C := fun z => z.2 z.1 = some (.tup (parts.map sV)) ∧ Same H z.2) (J := fun z => Itt K z.1) (H1 := fun z => z.2) (fun R hR => ?_) fun z hz D hD => ?_
    · walk_at "rd"
      refine ⟨_, _, hR0, lkn_told _, p, dr, r, rfl, hR0, fun t H' ht e => ?_⟩
      subst e
      exact ⟨t, rfl, ⟨_, .inl (.inl upd_same)⟩, hR (t, _) ⟨upd_same, same_new ht⟩⟩
    obtain ⟨tp, F⟩ := z
    obtain ⟨z1, z2⟩ := hz
    dsimp only at z1 z2 hD
    refine lc_map parts (fun t => .bl (decide (c ∈ t))) (G := fun H => SqT K H tp (parts.map sV)) (show Walk (Itt K tp) (parts.map sV).length _ _ from walk_tup) (show 5 ≤ 1000000 by decide) hD (fun H s => .inl (.inl (s _ _ z1))) ?_ ?_
    · rintro R R' i t x F1 F2 hi s1 ⟨rfl, hx⟩ hk
      rw [List.getElem?_map, hi] at hx
      cases hx
      walk_at "rd"
      exact ⟨_, rfl, hk _ (Same.refl _)⟩
    · intro F1 s1 e1
      exact k D F1 (z2.free hD) (z2.trans s1) e1
def mkV : Mk1 → V
  | none => .str (S [98, 101, 103, 105, 110])
  | some c => .str (S [c])
def sp_marks_of : Sp := fun vs H Q _ => ∃ l ws, vs = [.ref l] ∧ H l = some (.lst (List.map sV ws)) ∧ ws.length ≤ 1000 ∧ (∀ w ∈ ws, w.length ≤ 1000) ∧ ∀ q H', H q = none → Same H H' → H' q = some (.lst ((marksOf ws).map mkV)) → Q (.ref q) H'
theorem ok_marks_of (T : Txt K mg a) : FnOk P w K mg base CX0 1 a.f_marks_of a.d_marks_of P_marks_of sp_marks_of := by
  refine T.F_marks_of.ok sc_marks_of (fun vs H Q E h => ?_) (fun cdv A outer s H vs Q E hr h => ?_)
  · obtain ⟨l, ws, rfl, _⟩ := h
    rfl
  · obtain ⟨l, ws, rfl, hl, hn, hw, k⟩ := h
    refine ⟨_,
(pss_cons (ps_set (i := 1) sc_marks_of.nd rfl (by first | exact Or.inl rfl | exact Or.inr rfl) (pe_lst pa_nil))
    (pss_cons (ps_for PassesOwn.never rfl (pi_list (pv 0)) (pg_name (i := 2) sc_marks_of.nd rfl (by first | exact Or.inl rfl | exact Or.inr rfl))
    (pss_one (ps_expr (pe_bm PySem.F.plainAttrs_list PySem.F.slot_list_extend PySem.F.type_list_extend mt_extend (pv 1) (pa_cons (pe_op op_cat (pe_lst (pa_cons pe_str pa_nil)) (pe_callTy (call_list_str rfl) (by rfl) T.b_list (by decide +kernel) (pa_cons (pv 2) pa_nil))) pa_nil)))))
    (pss_one (ps_ret (pv 1)))))
      , ?_⟩
    rw [show start N_marks_of [V.ref l] = [some (.ref l), none, none] from rfl]
    refine tseq_split (fun σ' G => ∃ q, σ' = [some (.ref l), some (.ref q), none] ∧ Same H G ∧ H q = none ∧ G q = some (.lst [])) (fun N hN => ?_) ?_
    · walk_at "rd"
      intro q hq
      exact hN _ _ ⟨q, rfl, same_new hq, hq, upd_same⟩
    rintro σ1 G1 ⟨q, rfl, s1, fq, eq⟩
    refine tseq_split (fun σ' G => ∃ v2, σ' = [some (.ref l), some (.ref q), v2] ∧ Same H G ∧ G q = some (.lst ((marksOf ws).map mkV))) (fun N hN => ?_) ?_
    · refine tfor_it (J := Itl K l) (H1 := G1) (n := (List.map sV ws).length) (G := fun H => SqL K H l (List.map sV ws)) (fun R hR => ?_) walk_list (fun i σ G => ∃ v2, σ = [some (.ref l), some (.ref q), v2] ∧ Same H G ∧ G q = some (.lst ((marksOf (ws.take i)).map mkV))) ⟨_, rfl, s1, eq⟩ (fun i σ G _ h => by obtain ⟨_, _, h, _⟩ := h; exact .inl (.inl (h _ _ hl))) ?_ ?_
      · walk_at "rd"
        exact ⟨⟨_, .inl (.inl (s1 _ _ hl))⟩, hR⟩
      · rintro i x σ G G' hi ⟨v2, rfl, sG, eG⟩ ⟨rfl, hx⟩
        rw [List.getElem?_map] at hx
        obtain ⟨u, hu, rfl⟩ := Option.map_eq_some_iff.mp hx
        walk_at "rd"
        have hul := hw u (List.mem_of_getElem? hu)
        have il : i ≤ 1000 := by
          have := (List.getElem?_eq_some_iff.mp hu).1
          omega
        have uB : Str.ofString "begin" = S [98, 101, 103, 105, 110] := by decide +kernel
        rw [uB]
        refine ⟨.inl ⟨rfl, _, .inl (.inl eG)⟩, ?_⟩
        walk_at "al"
        rename_i b1 g1 F1 k1 e1
        refine ⟨u, rfl, by omega, ?_⟩
        walk_at "al"
        rename_i b2 g2 F2 k2 e2
        refine ⟨_, k2 _ _ e1, by rw [List.length_map]; exact Nat.le_trans (show 1 + u.length ≤ 2000 by omega) (by decide), ?_⟩
        walk_at "al"
        rename_i b3 g3 F3 k3 e3
        have k13 := (k1.trans k2).trans k3
        have len : ∀ l : List Tx, (∀ w ∈ l, w.length ≤ 1000) → (marksOf l).length ≤ 1001 * l.length := fun l => by
          induction l with
          | nil => intro _; simp [marksOf]
          | cons w l ih =>
            intro h
            have h1 := h w (.head _)
            have h2 := ih fun z hz => h z (.tail _ hz)
            simp only [marksOf, List.flatMap_cons, List.length_append, List.length_cons, marksW, List.length_map] at h2 ⊢
            omega
        have lt := len (ws.take i) fun z hz => hw z (List.mem_of_mem_take hz)
        have lti : (ws.take i).length ≤ i := List.length_take_le _ _
        refine ⟨_, k13 _ _ eG, ?_, fun b o e => ?_, ?_⟩
        · rw [List.length_map, List.length_append, List.length_map]
          exact Nat.le_trans (show (marksOf (ws.take i)).length + ([V.str (S [98, 101, 103, 105, 110])].length + u.length) ≤ 2000000 by simp only [List.length_cons, List.length_nil]; omega) (by decide)
        · have nb : b ≠ q := fun z => by rw [z, fq] at e; cases e
          exact (upd_ne nb).trans (k13 _ _ (sG _ _ e))
        · rw [take_at hu, marksOf_app, List.map_append]
          congr 1
          simp [marksOf, marksW, mkV]
      · rintro σ G ⟨v2, rfl, sG, eG⟩
        rw [List.length_map, List.take_length] at eG
        exact hN _ _ ⟨v2, rfl, sG, eG⟩
    rintro σ2 G2 ⟨v2, rfl, s2, e2⟩
    walk_at "rd"
    exact k q _ fq s2 e2
def sp_read_alike (a : Ad) : Sp := fun vs H Q _ => ∃ p dr r p' dr' r' t, vs = [.ref p, .ref p', .str (S t)] ∧ H p = some (.ins a.c_Rules dr (RS.f r)) ∧ H p' = some (.ins a.c_Rules dr' (RS.f r')) ∧ r.Ok ∧ r'.Ok ∧ t.length ≤ 1000 ∧ t.all sgn = true ∧ ∀ H', Same H H' → Q (.bl (alikeT r r' t)) H'
theorem ok_read_alike (T : Txt K mg a) : FnOk P w K mg base CX0 6 a.f_read_alike a.d_read_alike P_read_alike (sp_read_alike a) := by
  refine T.F_read_alike.ok sc_read_alike (fun vs H Q E h => ?_) (fun cdv A outer s H vs Q E hr h => ?_)
  · obtain ⟨p, dr, r, p', dr', r', t, rfl, _⟩ := h
    rfl
  · obtain ⟨p, dr, r, p', dr', r', t, rfl, h1, h2, ok, ok', hl, hs, k⟩ := h
    have G_read_all := ok_read_all (P := P) (w := w) (base := base) T
    have B_read_all := bi_read_all T
    refine ⟨_,
(pss_cons (ps_par (i := 3) (j := 4) (by rfl) sc_read_alike.nd rfl rfl (by decide) rfl rfl (pa_cons (pe_ix ix_tup (pe_call G_read_all (hr.mono (by decide)) rfl T.f_read_all.g T.f_read_all.k B_read_all .nil pass0 (pa_cons (pv 0) (pa_cons (pv 2) pa_nil))) pe_int (fun _ _ => rfl)) (pa_cons (pe_ix ix_tup (pe_call G_read_all (hr.mono (by decide)) rfl T.f_read_all.g T.f_read_all.k B_read_all .nil pass0 (pa_cons (pv 1) (pa_cons (pv 2) pa_nil))) pe_int (fun _ _ => rfl)) pa_nil)) (by rfl))
    (pss_cons (ps_if (PW.pt (pw_or (pt_cmpR op_isN (pv 3) pe_non (nomark _)) (pw_or1 (pt_cmpR op_isN (pv 4) pe_non (nomark _))))) (pss_one (ps_ret (pe_and (pe_cmpR op_isN (pv 3) pe_non (nomark _)) (pe_one (pe_cmpR op_isN (pv 4) pe_non (nomark _)))))) pss_nil)
    (pss_one (ps_ret (pe_cmpR (op_eqD hr.units) (pe_lc (own := [("pair", 5)]) (g := gName 5) (tt := tYes) rfl sc_read_alike.nd (pi_list (pv 3)) (blkOk_by (own := [("pair", 5)]) (N := N_read_alike) (sc := defScope st_read_alike) (by decide +kernel)) (fun _ _ _ _ _ => (pg_name (i := 5) sc_read_alike.nd rfl (by first | exact Or.inl rfl | exact Or.inr rfl))) (fun _ _ _ _ _ => pts_nil) (fun _ _ _ _ _ => (pe_ix (ix_tupK (K := K) rfl) (pv 5) pe_int (fun _ _ => rfl)))) (pe_lc (own := [("pair", 5)]) (g := gName 5) (tt := tYes) rfl sc_read_alike.nd (pi_list (pv 4)) (blkOk_by (own := [("pair", 5)]) (N := N_read_alike) (sc := defScope st_read_alike) (by decide +kernel)) (fun _ _ _ _ _ => (pg_name (i := 5) sc_read_alike.nd rfl (by first | exact Or.inl rfl | exact Or.inr rfl))) (fun _ _ _ _ _ => pts_nil) (fun _ _ _ _ _ => (pe_ix (ix_tupK (K := K) rfl) (pv 5) pe_int (fun _ _ => rfl)))) (nomark _))))))
      , ?_⟩
    rw [show start N_read_alike [V.ref p, V.ref p', V.str (S t)] = [some (.ref p), some (.ref p'), some (.str (S t)), none, none, none] from rfl]
    have bd : ∀ {r : RS} {p : Addr} {ds : List W3}, readAll r t p = .ok ds → ds.length ≤ 1100 ∧ tame (wsD (ds.map (·.1))) = true := fun {r p ds} e => by
      have hb := readAll_bd r t p
      rw [e] at hb
      refine ⟨by have := hb.1; omega, wsD_tame fun x hx => ?_⟩
      obtain ⟨d, hd, rfl⟩ := List.mem_map.mp hx
      exact fun c hc => ok8_of hs c ((hb.2 d hd).1 c hc)
    rw [← alike_read r r' t p p'] at k
    walk_at "rd"
    refine ⟨p, dr, r, t, rfl, h1, few_quotes ok, by omega, fun tp1 F1 n1 s1 a1 => ?_⟩
    cases e1 : readAll r t p with
    | error m =>
      rw [e1] at a1 k
      refine ⟨tp1, rfl, _, .inl (.inl a1), _, atI_nat (j := 0) rfl, p', dr', r', t, rfl, s1 _ _ h2, few_quotes ok', by omega, fun tp2 F2 n2 s2 a2 => ?_⟩
      cases e2 : readAll r' t p' with
      | error m' =>
        rw [e2] at a2 k
        exact ⟨tp2, rfl, _, .inl (.inl a2), _, atI_nat (j := 0) rfl, ite2 (fun _ => ite2 (fun _ => k _ (s1.trans s2)) (fun z => absurd rfl z)) (fun z => absurd rfl z)⟩
      | ok ds' =>
        rw [e2] at a2 k
        obtain ⟨l2, xs2, _, b1, _, _⟩ := a2
        exact ⟨tp2, rfl, _, .inl (.inl b1), _, atI_nat (j := 0) rfl, ite2 (fun _ => ite2 (fun _ => k _ (s1.trans s2)) (fun z => absurd rfl z)) (fun z => absurd rfl z)⟩
    | ok ds =>
      rw [e1] at a1 k
      obtain ⟨l1, xs1, _, b1, b2, b3⟩ := a1
      refine ⟨tp1, rfl, _, .inl (.inl b1), _, atI_nat (j := 0) rfl, p', dr', r', t, rfl, s1 _ _ h2, few_quotes ok', by omega, fun tp2 F2 n2 s2 a2 => ?_⟩
      cases e2 : readAll r' t p' with
      | error m' =>
        rw [e2] at a2 k
        exact ⟨tp2, rfl, _, .inl (.inl a2), _, atI_nat (j := 0) rfl, ite2 (fun z => by cases z) (fun _ => ite2 (fun _ => ite2 (fun z => by cases z) (fun _ => k _ (s1.trans s2))) (fun z => absurd rfl z))⟩
      | ok ds' =>
        rw [e2] at a2 k
        obtain ⟨l2, xs2, _, c1, c2, c3⟩ := a2
        refine ⟨tp2, rfl, _, .inl (.inl c1), _, atI_nat (j := 0) rfl, ite2 (fun z => by cases z) (fun _ => ite2 (fun z => by cases z) (fun _ => ?_))⟩
        obtain ⟨d1, t1⟩ := bd e1
        obtain ⟨d2, t2⟩ := bd e2
        have b2' := s2 _ _ b2
        have b3' := b3.mono s2.tk
        refine tlc_map ds (fun d => .str (S d.1)) (J := Itl K l1) (H1 := F2) (G := fun H => SqL K H l1 xs1) (fun R hR => ?_) (b3'.length ▸ walk_list) (by omega) (fun H s => .inl (.inl (s _ _ b2'))) ?_ ?_
        · walk_at "rd"
          exact ⟨⟨_, .inl (.inl b2')⟩, hR⟩
        · rintro R R' i d x G1 G2 hi g1 ⟨rfl, hx⟩ hR
          obtain ⟨b, u, rfl, q1, q2⟩ := Paired.at' b3' hi hx
          walk_at "rd"
          exact ⟨_, .inl (.inl (g1 _ _ q1)), _, atI_nat (j := 0) rfl, hR _ (Same.refl _)⟩
        intro D1 F3 _ s3 m1
        have c2' := s3 _ _ c2
        have c3' := c3.mono s3.tk
        refine tlc_map ds' (fun d => .str (S d.1)) (J := Itl K l2) (H1 := F3) (G := fun H => SqL K H l2 xs2) (fun R hR => ?_) (c3'.length ▸ walk_list) (by omega) (fun H s => .inl (.inl (s _ _ c2'))) ?_ ?_
        · walk_at "rd"
          exact ⟨⟨_, .inl (.inl c2')⟩, hR⟩
        · rintro R R' i d x G1 G2 hi g1 ⟨rfl, hx⟩ hR
          obtain ⟨b, u, rfl, q1, q2⟩ := Paired.at' c3' hi hx
          walk_at "rd"
          exact ⟨_, .inl (.inl (g1 _ _ q1)), _, atI_nat (j := 0) rfl, hR _ (Same.refl _)⟩
        intro D2 F4 _ s4 m2
        have dep : ∀ ws : List Tx, (wsD ws).depth ≤ 32 := fun ws => by have := wsD_depth ws; omega
        refine ⟨wsD (ds.map (·.1)), dp_ws (.inl (.inl (by rw [List.map_map]; exact s4 _ _ m1))), wsD (ds'.map (·.1)), dp_ws (.inl (.inl (by rw [List.map_map]; exact m2))), shaped_of t1 (dep _), shaped_of t2 (dep _), ?_⟩
        rw [eqv_dec (p := ds.map (·.1) = ds'.map (·.1)) t1 t2 (by rw [wsD, wsD, PyData.list.injEq]; exact map_inj S_inj')]
        exact k _ (((s1.trans s2).trans s3).trans s4)
end
end Qw

set_option Elab.async false
set_option linter.all false
set_option maxRecDepth 100000
set_option maxHeartbeats 4000000
namespace Qw
open PySem L2
local macro_rules | `(tactic| walk_at "rd") => `(tactic| simp only [iEnum, iRng3, tRevL, rSlS, rSlL, gSub, rSetL, wipe, List.map_cons, List.map_nil, rAll, rAny, rIsi, tM1, tM0, iZipLT, iZip, iRng2, tLenSetS, rListStr, rMulS, rRep, rCntB, tRevS, rNeD, rEqD, tSeq, tNext, tAsg, tRet, tRetN, tDrop, tIfS, sFld, sFldAug, tVar, tC, tOp, tUn, tTest, tB, tAnd, tOr, tNot, tAndV, tOrV, tNotV, tIf, tTup, tLst, tCons, tNil, tCB, tCall, tMeth, tMake, tFld, rI, rI0, rU, rEq, rNe, rCat, gName, gTup, gCons, gNil, tPar, tPar3, tBM, tBM0, rAppend, rExtend, rPopAt, rIxL, rIxT, rIxS, tSl, rSlS, rSlL, tPart, tNoPart, iStr, iTup, iList, iRng1, tAug, ipI, L2.rAdd, L2.rSub, L2.rAddS, tChain, rIsB, rNotB, scal_ss, scal_ii, scal_bb, scal_nn, scal_in, scal_ni, tYes,
  cx_K, cx_N, List.getElem?_cons_zero, List.getElem?_cons_succ, List.set_cons_zero, List.set_cons_succ, List.nil_append, List.cons_append, List.append_nil, List.length_cons, List.length_nil, Nat.zero_add,
  Option.some.injEq, V.ref.injEq, V.int.injEq, V.str.injEq, V.bl.injEq, HO.ins.injEq, HO.lst.injEq, HO.tup.injEq, List.cons.injEq, exists_eq_left, exists_eq_left', exists_eq_right, exists_eq_right', and_true, true_and, exists_and_left, exists_and_right, and_assoc, decide_eq_true_eq, Bool.not_eq_true', decide_eq_false_iff_not, reduceCtorEq, exists_const, forall_const, if_true, if_false, false_and, and_false, ite_true, ite_false, Bool.true_eq_false, Bool.false_eq_true, Nat.reduceLeDiff, Nat.reduceAdd, small_line, small_lt, upd_ne, ne_eq, not_false_eq_true, Nat.zero_le, Prod.mk.injEq, upd_same, upd_upd, S_tl, S_len, S_app, S_one, S_inj,
  lk_breaks, lk_hard, lk_soft, lk_bend, lk_note, lk_rules, lk_state, lk_bent, lk_word, lk_begun, lk_opened, lk_place, pt_state, pt_bent, pt_word, pt_wordS, pt_wordN, pt_begun, pt_opened, pt_place, pt_place1, len_mf, litv_empty, litv_note, litv_nl, mf_inj, rf_inj, lkn_begin, lkn_ended, lkn_plain, lkn_quoted, lkn_step, lkn_fault, lkn_key, lkn_told, lkn_quotes, lkn_special, pt_open1, not_true_eq_false, not_false_eq_true])
local macro_rules | `(tactic| walk_at "rdh") => `(tactic| simp only [iEnum, iRng3, tRevL, rSlS, rSlL, gSub, rSetL, wipe, List.map_cons, List.map_nil, rAll, rAny, rIsi, tM1, tM0, iZipLT, iZip, iRng2, tLenSetS, rListStr, rMulS, rRep, rCntB, tRevS, rNeD, rEqD, tSeq, tNext, tAsg, tRet, tRetN, tDrop, tIfS, sFld, sFldAug, tVar, tC, tOp, tUn, tTest, tB, tAnd, tOr, tNot, tAndV, tOrV, tNotV, tIf, tTup, tLst, tCons, tNil, tCB, tCall, tMeth, tMake, tFld, rI, rI0, rU, rEq, rNe, rCat, gName, gTup, gCons, gNil, tPar, tPar3, tBM, tBM0, rAppend, rExtend, rPopAt, rIxL, rIxT, rIxS, tSl, rSlS, rSlL, tPart, tNoPart, iStr, iTup, iList, iRng1, tAug, ipI, L2.rAdd, L2.rSub, L2.rAddS, tChain, rIsB, rNotB, scal_ss, scal_ii, scal_bb, scal_nn, scal_in, scal_ni, tYes,
  cx_K, cx_N, List.getElem?_cons_zero, List.getElem?_cons_succ, List.set_cons_zero, List.set_cons_succ, List.nil_append, List.cons_append, List.append_nil, List.length_cons, List.length_nil, Nat.zero_add,
  Option.some.injEq, V.ref.injEq, V.int.injEq, V.str.injEq, V.bl.injEq, HO.ins.injEq, HO.lst.injEq, HO.tup.injEq, List.cons.injEq, exists_eq_left, exists_eq_left', exists_eq_right, exists_eq_right', and_true, true_and, exists_and_left, exists_and_right, and_assoc, decide_eq_true_eq, Bool.not_eq_true', decide_eq_false_iff_not, reduceCtorEq, exists_const, forall_const, if_true, if_false, false_and, and_false, ite_true, ite_false, Bool.true_eq_false, Bool.false_eq_true, Nat.reduceLeDiff, Nat.reduceAdd, small_line, small_lt, upd_ne, ne_eq, not_false_eq_true, Nat.zero_le, Prod.mk.injEq, upd_same, upd_upd, S_tl, S_len, S_app, S_one, S_inj,
  lk_breaks, lk_hard, lk_soft, lk_bend, lk_note, lk_rules, lk_state, lk_bent, lk_word, lk_begun, lk_opened, lk_place, pt_state, pt_bent, pt_word, pt_wordS, pt_wordN, pt_begun, pt_opened, pt_place, pt_place1, len_mf, litv_empty, litv_note, litv_nl, mf_inj, rf_inj, lkn_begin, lkn_ended, lkn_plain, lkn_quoted, lkn_step, lkn_fault, lkn_key, lkn_told, lkn_quotes, lkn_special, pt_open1, not_true_eq_false, not_false_eq_true, *])
local macro_rules | `(tactic| walk_at "pl") => `(tactic| (first | decide | (refine Nat.lt_of_le_of_lt (length_putF _ _ _) ?_; repeat (first | decide | refine pl2 ?_))))
local macro_rules | `(tactic| walk_at "al") => `(tactic| (intro p hp; generalize hH : upd _ p _ = H1; obtain ⟨S, e⟩ := gen_new hH hp; clear hH))
/-! ### where two rules are behind a text -/
def mkT : Mk1 → Tx
  | none => [98, 101, 103, 105, 110]
  | some c => [c]
theorem mkV_T (m : Mk1) : mkV m = sV (mkT m) := by cases m <;> rfl
theorem mkV_map (l : List Mk1) : l.map mkV = (l.map mkT).map sV := by
  rw [List.map_map]
  exact List.map_congr_left fun m _ => mkV_T m
theorem mkT_inj {m m' : Mk1} : mkT m = mkT m' ↔ m = m' := by
  cases m <;> cases m' <;> simp [mkT]
def tupKy (k : Ky) : List V := [.str (S k.st), .bl k.bent, .bl k.wn]
section
variable {P : Program} {w : World} {K : PySem.W.Frag} {mg : Str → Option Value} {base : Heap} {a : Ad}
def sp_key (a : Ad) : Sp := fun vs H Q _ => ∃ p dx m, vs = [.ref p] ∧ H p = some (.ins a.c_Machine dx (MS.f m)) ∧ ∀ q H', H q = none → Same H H' → H' q = some (.tup (tupKy m.ky)) → Q (.ref q) H'
theorem ok_Machine_key (T : Txt K mg a) : FnOk P w K mg base CX0 1 a.f_Machine_key a.d_Machine_key P_Machine_key (sp_key a) := by
  refine T.F_Machine_key.ok sc_Machine_key (fun vs H Q E h => ?_) (fun cdv A outer s H vs Q E hr h => ?_)
  · obtain ⟨p, dx, m, rfl, _⟩ := h
    rfl
  · obtain ⟨p, dx, m, rfl, h1, k⟩ := h
    refine ⟨_,
(pss_one (ps_ret (pe_tup (pa_cons (pe_fld (pv 0) rfl) (pa_cons (pe_fld (pv 0) rfl) (pa_cons (pe_cmpR op_isN (pe_fld (pv 0) rfl) pe_non (nomark _)) pa_nil))))))
      , ?_⟩
    rw [show start N_Machine_key [V.ref p] = [some (.ref p)] from rfl]
    have hc := T.c_Machine.cl
    have n4 := T.n_Machine_state
    have n5 := T.n_Machine_word
    have n6 := T.n_Machine_bent
    walk_at "rdh"
    intro q hq
    refine k q _ hq (same_new hq) ?_
    rw [upd_same]
    show some (HO.tup [V.str (S m.state), V.bl m.bent, V.bl (decide (oV m.word = V.non))]) = some (HO.tup [V.str (S m.state), V.bl m.bent, V.bl m.word.isNone])
    cases m.word <;> rfl
def TrailT (H : Hp) (tp : Addr) (k : Ky) (ms : List Mk1) (n : Nat) : Prop := ∃ kq l ws, H tp = some (.tup [.ref kq, .ref l]) ∧ H kq = some (.tup (tupKy k)) ∧ H l = some (.lst (List.map sV ws)) ∧ marksOf ws = ms ∧ ws.length ≤ n + 1 ∧ ∀ w ∈ ws, w.length ≤ n
def sp_trail (a : Ad) : Sp := fun vs H Q _ => ∃ rp dr r t, vs = [.ref rp, .str (S t)] ∧ H rp = some (.ins a.c_Rules dr (RS.f r)) ∧ r.hard.length + r.soft.length ≤ 100 ∧ t.length ≤ 900 ∧
  ∀ tp H', H tp = none → Same H H' → TrailT H' tp (kr r t).1 (kr r t).2 t.length → Q (.ref tp) H'
theorem ok_trail (T : Txt K mg a) : FnOk P w K mg base CX0 4 a.f_trail a.d_trail P_trail (sp_trail a) := by
  refine T.F_trail.ok sc_trail (fun vs H Q E h => ?_) (fun cdv A outer s H vs Q E hr h => ?_)
  · obtain ⟨rp, dr, r, t, rfl, _⟩ := h
    rfl
  · obtain ⟨rp, dr, r, t, rfl, hR, hq, ht, k⟩ := h
    have G_Machine_init := ok_Machine_init (P := P) (w := w) (base := base) T
    have B_Machine_init := bi_Machine_init T
    have G_Machine_step := ok_Machine_step (P := P) (w := w) (base := base) T
    have B_Machine_step := bi_Machine_step T
    have G_Machine_key := ok_Machine_key (P := P) (w := w) (base := base) T
    have B_Machine_key := bi_Machine_key T
    refine ⟨_,
(pss_cons (ps_par (i := 2) (j := 3) (by rfl) sc_trail.nd rfl rfl (by decide) rfl rfl (pa_cons (pe_make T.c_Machine.mc G_Machine_init (hr.mono (by decide)) rfl T.c_Machine.g B_Machine_init .nil pass0 (pa_cons (pv 0) pa_nil)) (pa_cons (pe_lst pa_nil) pa_nil)) (by rfl))
    (pss_cons (ps_for PassesOwn.never rfl (pi_str (pv 1)) (pg_name (i := 4) sc_trail.nd rfl (by first | exact Or.inl rfl | exact Or.inr rfl))
    (pss_one (ps_expr (pe_bm PySem.F.plainAttrs_list PySem.F.slot_list_extend PySem.F.type_list_extend mt_extend (pv 3) (pa_cons (pe_lc (own := [("pair", 5)]) (g := gName 5) (tt := tYes) rfl sc_trail.nd (pi_list (pe_meth (pv 2) T.c_Machine.cl T.m_Machine_step G_Machine_step (hr.mono (by decide)) B_Machine_step .nil pass0 (pa_cons (pv 4) pa_nil))) (blkOk_by (own := [("pair", 5)]) (N := N_trail) (sc := defScope st_trail) (by decide +kernel)) (fun _ _ _ _ _ => (pg_name (i := 5) sc_trail.nd rfl (by first | exact Or.inl rfl | exact Or.inr rfl))) (fun _ _ _ _ _ => pts_nil) (fun _ _ _ _ _ => (pe_ix (ix_tupK (K := K) rfl) (pv 5) pe_int (fun _ _ => rfl)))) pa_nil)))))
    (pss_one (ps_ret (pe_tup (pa_cons (pe_meth0 (pv 2) T.c_Machine.cl T.m_Machine_key G_Machine_key (hr.mono (by decide)) B_Machine_key .nil pass0) (pa_cons (pe_op op_cat (pv 3) (pe_ifExp (pt_cmpR op_notN (pe_fld (pv 2) rfl) pe_non (nomark _)) (pe_lst (pa_cons (pe_fld (pv 2) rfl) pa_nil)) (pe_lst pa_nil))) pa_nil)))))))
      , ?_⟩
    rw [show start N_trail [V.ref rp, V.str (S t)] = [some (.ref rp), some (.str (S t)), none, none, none, none] from rfl]
    have hc := T.c_Machine.cl
    have zb : (MS.zero rp).Bd [] := ⟨fun w e => (by cases e), Nat.le_refl _, Nat.le_refl _⟩
    have wl : ∀ u : Tx, ∀ d ∈ (runK r rp u).2, d.1.length ≤ u.length := fun u d hd => by
      have := ((MS.Bd.run r u zb (MS.Ok.zero rp)).2 d hd).2.1
      have pz : (MS.zero rp).place = 0 := rfl
      rw [pz, Nat.zero_add] at this
      exact this
    refine tseq_split (fun σ' G => ∃ p dx f, σ' = [some (.ref rp), some (.str (S t)), some (.ref p), some (.ref f), none, none] ∧ Same H G ∧ H p = none ∧ H f = none ∧ p ≠ f ∧ G p = some (.ins a.c_Machine dx (MS.zero rp).f) ∧ G f = some (.lst [])) (fun N hN => ?_) ?_
    · walk_at "rd"
      intro p dx hp hdx ne
      refine ⟨p, dx, rp, rfl, upd_same, fun H1 h1 h2 => ⟨rfl, fun f hf => ?_⟩⟩
      have S1 : Same H H1 := Same.made hp hdx h2
      have npf : p ≠ f := ne_of_none h1 hf
      exact hN _ _ ⟨p, dx, f, rfl, S1.trans (same_new hf), hp, S1.free hf, npf, by rw [upd_ne npf]; exact h1, upd_same⟩
    rintro σ1 G1 ⟨p, dx, f, rfl, s1, hp, nf, npf, g1, g2⟩
    refine tseq_split (fun σ' G => ∃ v4 v5, σ' = [some (.ref rp), some (.str (S t)), some (.ref p), some (.ref f), v4, v5] ∧ Same H G ∧ G p = some (.ins a.c_Machine dx (runK r rp t).1.f) ∧ G f = some (.lst (List.map sV ((runK r rp t).2.map (·.1))))) (fun N hN => ?_) ?_
    · refine ⟨_, rfl, S t, rfl, for_it (n := t.length) (G := fun _ => True) (Y := fun i H v H' => H' = H ∧ ∃ c, t[i]? = some c ∧ v = .str (S [c])) ?_ (fun i σ H2 => ∃ v4 v5, σ = [some (.ref rp), some (.str (S t)), some (.ref p), some (.ref f), v4, v5] ∧ Same H H2 ∧
        H2 p = some (.ins a.c_Machine dx (runK r rp (t.take i)).1.f) ∧ H2 f = some (.lst (List.map sV ((runK r rp (t.take i)).2.map (·.1)))))
        ?_ (fun _ _ _ _ _ => trivial) ?_ ?_⟩
      · have w := walk_str (z := S t)
        rw [S_size] at w
        exact w.mono (fun _ _ => trivial) fun i H x H' hi _ ⟨e, c, h1, h2⟩ => ⟨e, c, by simpa [S] using h1, h2⟩
      · exact ⟨none, none, rfl, s1, g1, g2⟩
      · rintro i x σ H2 H3 hi ⟨v4, v5, rfl, sG, m1, m2⟩ ⟨rfl, c, hc1, rfl⟩
        walk_at "rdh"
        have pl : (runK r rp (t.take i)).1.place = i := by
          rw [MS.place_run, List.length_take]
          show 0 + _ = i
          omega
        have ru : (runK r rp (t.take i)).1.rules = rp := MS.rules_run r _ _
        have ok := (MS.Ok.zero rp).run r (t.take i)
        have e1 : runK r rp (t.take (i + 1)) = (((runK r rp (t.take i)).1.step r c).1, (runK r rp (t.take i)).2 ++ ((runK r rp (t.take i)).1.step r c).2) := by rw [take_more hc1]; exact MS.run_one _ _ _ _
        have nof : f ≠ p := Ne.symm npf
        have el : (runK r rp (t.take i)).2.length ≤ i := by
          have h2 : (runK r rp (t.take i)).2.length ≤ (t.take i).length := MS.out_run r (t.take i) (MS.zero rp)
          rw [List.length_take] at h2
          omega
        have o1 := MS.out_step r (runK r rp (t.take i)).1 c
        refine ⟨.inl ⟨rfl, _, .inl (.inl m2)⟩, ?_⟩
        refine tlc_all (ι := Addr × List V × Hp) (C := fun z => z.2.2 z.1 = some (.lst z.2.1) ∧ Fnds z.2.2 z.2.1 ((runK r rp (t.take i)).1.step r c).2 ∧ z.2.2 p = some (.ins a.c_Machine dx ((runK r rp (t.take i)).1.step r c).1.f) ∧ Kp p H3 z.2.2)
          (J := fun z => Itl K z.1) (H1 := fun z => z.2.2) (fun R hR' => ?_) fun z hz D hD => ?_
        · walk_at "rd"
          refine ⟨dx, _, m1, lkn_step _, p, dx, _, c, dr, r, rfl, m1, by rw [ru]; exact sG _ _ hR, hq, ok, by rw [pl]; omega, fun l H' ys q1 q2 q3 q4 q5 => ⟨l, rfl, ⟨_, .inl (.inl q2)⟩, hR' (l, ys, H') ⟨q2, q3, q4, q5⟩⟩⟩
        obtain ⟨l, ys, F0⟩ := z
        obtain ⟨q2, q3, q4, q5⟩ := hz
        dsimp only at q2 q3 q4 q5 hD
        refine lc_map ((runK r rp (t.take i)).1.step r c).2 (fun d => sV d.1) (G := fun H => SqL K H l ys) (q3.length ▸ walk_list) (by omega) hD (fun H s => .inl (.inl (s _ _ q2))) ?_ ?_
        · rintro R R' j d x G1 G2 hi g1 ⟨rfl, hx⟩ hk
          obtain ⟨b, u, rfl, z1, z2⟩ := Paired.at' q3 hi hx
          walk_at "rd"
          exact ⟨_, .inl (.inl (g1 _ _ z1)), _, atI_nat (j := 0) rfl, hk _ (Same.refl _)⟩
        · intro F1 s1' e1'
          refine ⟨D, rfl, _, s1' _ _ (q5 _ _ m2 nof), _, e1', ?_, ?_, ?_, ?_⟩
          · rw [List.length_map, List.length_map, List.length_map]
            exact Nat.le_trans (show _ ≤ 100000 by omega) (by decide)
          · refine Same.mut (fun b o e => s1' _ _ (q5 b o (sG b o e) fun z => ?_)) nf
            rw [z, hp] at e; cases e
          · rw [e1]
            exact s1' _ _ q4
          · rw [e1, List.map_append, List.map_append, List.map_map (l := ((runK r rp (t.take i)).1.step r c).2)]
            rfl
      · rintro σ H2 ⟨v4, v5, rfl, sG, m1, m2⟩
        rw [List.take_length] at m1 m2
        exact hN _ _ ⟨v4, v5, rfl, sG, m1, m2⟩
    rintro σ2 G2 ⟨v4, v5, rfl, sG, m1, m2⟩
    walk_at "rd"
    have plc : (runK r rp t).1.place = t.length := by
      rw [MS.place_run]
      show 0 + _ = _
      omega
    have okm := (MS.Ok.zero rp).run r t
    have ol : (runK r rp t).2.length ≤ t.length := MS.out_run r t (MS.zero rp)
    have mk := run_marks r t rp
    refine ⟨dx, _, m1, lkn_key _, p, dx, _, rfl, m1, fun kq F fq sK eK => ?_⟩
    rw [run_key] at eK
    have mF := sK _ _ m1
    have fF := sK _ _ m2
    refine ⟨a.c_Machine, dx, _, mF, T.c_Machine.cl, T.n_Machine_word, _, lk_word _, ?_⟩
    have fin : ∀ (ws : List Tx) (e0 l tp : Addr) (o1 : HO), F e0 = none → upd F e0 o1 l = none → upd (upd F e0 o1) l (.lst (List.map sV ws)) tp = none → marksOf ws = (kr r t).2 → ws.length ≤ t.length + 1 → (∀ w ∈ ws, w.length ≤ t.length) →
        Q (.ref tp) (upd (upd (upd F e0 o1) l (.lst (List.map sV ws))) tp (.tup [.ref kq, .ref l])) := fun ws e0 l tp o1 h0 h1 h2 hm hl hw => by
      have S1 := (sG.trans sK).trans (same_new (o := o1) h0)
      have S2 := same_new (o := HO.lst (List.map sV ws)) h1
      have S3 := same_new (o := HO.tup [V.ref kq, V.ref l]) h2
      refine k tp _ ((S1.trans S2).free h2) ((S1.trans S2).trans S3) ⟨kq, l, ws, upd_same, ?_, S3 _ _ upd_same, hm, hl, hw⟩
      exact S3 _ _ (S2 _ _ (same_new h0 _ _ eK))
    unfold MS.tm at mk
    have w0 : ∀ w ∈ (runK r rp t).2.map (·.1), w.length ≤ t.length := fun w hw => by
      obtain ⟨d, hd, rfl⟩ := List.mem_map.mp hw
      exact wl t d hd
    cases hw : (runK r rp t).1.word with
    | none =>
      refine ite2 (fun z => absurd rfl z) (fun _ => ?_)
      intro e0 he0
      refine ⟨_, same_new he0 _ _ fF, ?_, fun l hl tp htp => fin _ e0 l tp _ he0 hl htp ?_ ?_ w0⟩
      · rw [List.length_map, List.length_map]
        exact Nat.le_trans (show _ ≤ 100000 by omega) (by decide)
      · rw [hw] at mk
        simpa using mk
      · rw [List.length_map]; omega
    | some z =>
      refine ite2 (fun _ => ?_) (fun c => absurd (by intro z; cases z) c)
      refine ⟨a.c_Machine, dx, _, mF, T.c_Machine.cl, T.n_Machine_word, _, lk_word _, ?_⟩
      rw [hw]
      intro e0 he0
      have ez : ∀ l : List Tx, List.map sV l ++ [oV (some z)] = List.map sV (l ++ [z]) := fun l => by rw [List.map_append]; rfl
      refine ⟨_, same_new he0 _ _ fF, ?_, fun l hl tp htp => ?_⟩
      · rw [List.length_map, List.length_map]
        exact Nat.le_trans (show _ ≤ 100000 by omega) (by decide)
      rw [ez] at htp ⊢
      rw [hw] at mk
      refine fin _ e0 l tp _ he0 hl htp ?_ ?_ fun w hw' => ?_
      · rw [marksOf_app, ← mk]
        simp [marksOf]
      · rw [List.length_append, List.length_map]; simp only [List.length_cons, List.length_nil]; omega
      · rcases List.mem_append.mp hw' with h | h
        · exact w0 w h
        · rw [List.mem_singleton.mp h, ← plc]
          exact okm.ln z hw
end
end Qw

set_option Elab.async false
set_option linter.all false
set_option maxRecDepth 100000
set_option maxHeartbeats 4000000
namespace Qw
open PySem L2
local macro_rules | `(tactic| walk_at "rd") => `(tactic| simp only [tDNewK, tDGet2, iEnumS, tDGet, tDIn, tDNotIn, sDPut, tDNewT, tLstRg, tRg2, iEnum, iRng3, tRevL, rSlS, rSlL, gSub, rSetL, wipe, List.map_cons, List.map_nil, rAll, rAny, rIsi, tM1, tM0, iZipLT, iZip, iRng2, tLenSetS, rListStr, rMulS, rRep, rCntB, tRevS, rNeD, rEqD, tSeq, tNext, tAsg, tRet, tRetN, tDrop, tIfS, sFld, sFldAug, tVar, tC, tOp, tUn, tTest, tB, tAnd, tOr, tNot, tAndV, tOrV, tNotV, tIf, tTup, tLst, tCons, tNil, tCB, tCall, tMeth, tMake, tFld, rI, rI0, rU, rEq, rNe, rCat, gName, gTup, gCons, gNil, tPar, tPar3, tBM, tBM0, rAppend, rExtend, rPopAt, rIxL, rIxT, rIxS, tSl, rSlS, rSlL, tPart, tNoPart, iStr, iTup, iList, iRng1, tAug, ipI, L2.rAdd, L2.rSub, L2.rAddS, tChain, rIsB, rNotB, scal_ss, scal_ii, scal_bb, scal_nn, scal_in, scal_ni, tYes,
  cx_K, cx_N, List.getElem?_cons_zero, List.getElem?_cons_succ, List.set_cons_zero, List.set_cons_succ, List.nil_append, List.cons_append, List.append_nil, List.length_cons, List.length_nil, Nat.zero_add,
  Option.some.injEq, V.ref.injEq, V.int.injEq, V.str.injEq, V.bl.injEq, HO.ins.injEq, HO.lst.injEq, HO.tup.injEq, List.cons.injEq, exists_eq_left, exists_eq_left', exists_eq_right, exists_eq_right', and_true, true_and, exists_and_left, exists_and_right, and_assoc, decide_eq_true_eq, Bool.not_eq_true', decide_eq_false_iff_not, reduceCtorEq, exists_const, forall_const, if_true, if_false, false_and, and_false, ite_true, ite_false, Bool.true_eq_false, Bool.false_eq_true, Nat.reduceLeDiff, Nat.reduceAdd, small_line, small_lt, upd_ne, ne_eq, not_false_eq_true, Nat.zero_le, Prod.mk.injEq, upd_same, upd_upd, S_tl, S_len, S_app, S_one, S_inj,
  lk_breaks, lk_hard, lk_soft, lk_bend, lk_note, lk_rules, lk_state, lk_bent, lk_word, lk_begun, lk_opened, lk_place, pt_state, pt_bent, pt_word, pt_wordS, pt_wordN, pt_begun, pt_opened, pt_place, pt_place1, len_mf, litv_empty, litv_note, litv_nl, mf_inj, rf_inj, lkn_begin, lkn_ended, lkn_plain, lkn_quoted, lkn_step, lkn_fault, lkn_key, lkn_told, lkn_quotes, lkn_special, pt_open1, not_true_eq_false, not_false_eq_true])
local macro_rules | `(tactic| walk_at "rdh") => `(tactic| simp only [tDNewK, tDGet2, iEnumS, tDGet, tDIn, tDNotIn, sDPut, tDNewT, tLstRg, tRg2, iEnum, iRng3, tRevL, rSlS, rSlL, gSub, rSetL, wipe, List.map_cons, List.map_nil, rAll, rAny, rIsi, tM1, tM0, iZipLT, iZip, iRng2, tLenSetS, rListStr, rMulS, rRep, rCntB, tRevS, rNeD, rEqD, tSeq, tNext, tAsg, tRet, tRetN, tDrop, tIfS, sFld, sFldAug, tVar, tC, tOp, tUn, tTest, tB, tAnd, tOr, tNot, tAndV, tOrV, tNotV, tIf, tTup, tLst, tCons, tNil, tCB, tCall, tMeth, tMake, tFld, rI, rI0, rU, rEq, rNe, rCat, gName, gTup, gCons, gNil, tPar, tPar3, tBM, tBM0, rAppend, rExtend, rPopAt, rIxL, rIxT, rIxS, tSl, rSlS, rSlL, tPart, tNoPart, iStr, iTup, iList, iRng1, tAug, ipI, L2.rAdd, L2.rSub, L2.rAddS, tChain, rIsB, rNotB, scal_ss, scal_ii, scal_bb, scal_nn, scal_in, scal_ni, tYes,
  cx_K, cx_N, List.getElem?_cons_zero, List.getElem?_cons_succ, List.set_cons_zero, List.set_cons_succ, List.nil_append, List.cons_append, List.append_nil, List.length_cons, List.length_nil, Nat.zero_add,
  Option.some.injEq, V.ref.injEq, V.int.injEq, V.str.injEq, V.bl.injEq, HO.ins.injEq, HO.lst.injEq, HO.tup.injEq, List.cons.injEq, exists_eq_left, exists_eq_left', exists_eq_right, exists_eq_right', and_true, true_and, exists_and_left, exists_and_right, and_assoc, decide_eq_true_eq, Bool.not_eq_true', decide_eq_false_iff_not, reduceCtorEq, exists_const, forall_const, if_true, if_false, false_and, and_false, ite_true, ite_false, Bool.true_eq_false, Bool.false_eq_true, Nat.reduceLeDiff, Nat.reduceAdd, small_line, small_lt, upd_ne, ne_eq, not_false_eq_true, Nat.zero_le, Prod.mk.injEq, upd_same, upd_upd, S_tl, S_len, S_app, S_one, S_inj,
  lk_breaks, lk_hard, lk_soft, lk_bend, lk_note, lk_rules, lk_state, lk_bent, lk_word, lk_begun, lk_opened, lk_place, pt_state, pt_bent, pt_word, pt_wordS, pt_wordN, pt_begun, pt_opened, pt_place, pt_place1, len_mf, litv_empty, litv_note, litv_nl, mf_inj, rf_inj, lkn_begin, lkn_ended, lkn_plain, lkn_quoted, lkn_step, lkn_fault, lkn_key, lkn_told, lkn_quotes, lkn_special, pt_open1, not_true_eq_false, not_false_eq_true, *])
local macro_rules | `(tactic| walk_at "pl") => `(tactic| (first | decide | (refine Nat.lt_of_le_of_lt (length_putF _ _ _) ?_; repeat (first | decide | refine pl2 ?_))))
local macro_rules | `(tactic| walk_at "al") => `(tactic| (intro p hp; generalize hH : upd _ p _ = H1; obtain ⟨S, e⟩ := gen_new hH hp; clear hH))
/-! ### two signs of each sort, walked -/
theorem lc_filtS {α : Type} {J : It} {G : Hp → Prop} {Y : Nat → Hp → V → Hp → Prop} {g : TG} {tt : TT} {te : TE} {vs : List Nat} {σ : St} {H1 : Hp} {D : Addr} {Qd : Hp → Prop}
    (as : List α) (pr : α → Bool) (F : α → V) (w : Walk J as.length G Y) (hz : as.length ≤ 1000000) (h1 : H1 D = none) (hG : ∀ H, Same H1 H → G H)
    (hs : ∀ (R : VK) (R' : Hp → Prop) i a x H H', as[i]? = some a → Same H1 H → Y i H x H' → (∀ H4, Same H H4 → pr a = true → R (F a) H4) → (∀ H4, Same H H4 → pr a = false → R' H4) →
      g x (wipe σ vs) H' fun σ2 H2 => wipe σ2 vs = wipe σ vs ∧ tt σ2 H2 fun b H3 => if b = true then te σ2 H3 R else R' H3)
    (hd : ∀ H, Same H1 H → H D = some (.lst ((as.filter pr).map F)) → Qd H) :
    ∃ W : Nat → Nat → Hp → Prop, (∃ m, W 0 m (upd H1 D (.lst []))) ∧ ∀ i m H, W i m H →
      (J.stop i H ∧ Qd H) ∨ (J.go i H ∧ ∃ Nx : Hp → Prop, (∀ H', Nx H' → ∃ m', m' < m ∧ W (i + 1) m' H') ∧ ∀ x H', J.yld i H x H' → g x (wipe σ vs) H' fun σ2 H2 => wipe σ2 vs = wipe σ vs ∧ tt σ2 H2 fun b H3 =>
        if b = true then te σ2 H3 fun y H4 => ∃ acc, H4 D = some (.lst acc) ∧ acc.length < sizeLine ∧ Nx (upd H4 D (.lst (acc ++ [y]))) else Nx H3) := by
  refine lc_it w (fun i H => Same H1 H ∧ H D = some (.lst (((as.take i).filter pr).map F))) ⟨same_new h1, upd_same⟩ (fun _ H _ p => hG H p.1) ?_ fun H p => hd H p.1 (by rw [List.take_length] at p; exact p.2)
  rintro i x H H' hi ⟨p1, p2⟩ y
  obtain ⟨a, ha⟩ : ∃ a, as[i]? = some a := ⟨as[i], List.getElem?_eq_getElem hi⟩
  refine hs _ _ i a x H H' ha p1 y (fun H4 s4 hp => ⟨_, s4 _ _ p2, ?_, ?_, ?_⟩) fun H4 s4 hp => ⟨p1.trans s4, ?_⟩
  · rw [List.length_map]
    have := List.length_filter_le pr (as.take i)
    rw [List.length_take] at this
    exact Nat.lt_of_lt_of_le (show _ < 1000001 by omega) (by decide)
  · exact Same.mut (p1.trans s4) h1
  · rw [upd_same, take_at ha, List.filter_append, List.map_append, List.filter_cons, if_pos hp]
    rfl
  · rw [take_at ha, List.filter_append, List.filter_cons, if_neg (by rw [hp]; decide), List.filter_nil, List.append_nil]
    exact s4 _ _ p2
theorem line_le57 {n : Nat} (h : n ≤ 57) : n ≤ sizeLine := Nat.le_trans h (by decide)
abbrev sgV (c : Nat) : V := .str (S [c])
section
variable {P : Program} {w : World} {K : PySem.W.Frag} {mg : Str → Option Value} {base : Heap} {a : Ad}
def sp_few (a : Ad) : Sp := fun vs H Q _ => ∃ p dr r p' dr' r', vs = [.ref p, .ref p'] ∧ H p = some (.ins a.c_Rules dr (RS.f r)) ∧ H p' = some (.ins a.c_Rules dr' (RS.f r')) ∧ r.Ok ∧ r'.Ok ∧
  ∀ l H', H l = none → Same H H' → H' l = some (.lst ((fewT r r').map sgV)) → Q (.ref l) H'
theorem ok_few_signs (T : Txt K mg a) : FnG P w K mg base 4 a.f_few_signs a.d_few_signs P_few_signs (sp_few a) := by
  refine fnG_of T.F_few_signs sc_few_signs (fun vs H Q E h => ?_) (fun cdv A outer s H vs Q E hfr hr h => ?_)
  · obtain ⟨p, dr, r, p', dr', r', rfl, _⟩ := h
    rfl
  · obtain ⟨p, dr, r, p', dr', r', rfl, h1, h2, ok, ok', k⟩ := h
    have G_Rules_told := ok_Rules_told (P := P) (w := w) (base := base) T
    have B_Rules_told := bi_Rules_told T
    have G_part_of := ok_part_of (P := P) (w := w) (base := base) T
    have B_part_of := bi_part_of T
    refine ⟨_,
(pss_cons (ps_par (i := 2) (j := 3) (by rfl) sc_few_signs.nd rfl rfl (by decide) rfl rfl (pa_cons (pe_lst pa_nil) (pa_cons pe_dnewK pa_nil)) (by rfl))
    (pss_cons (ps_set (i := 4) sc_few_signs.nd rfl (by first | exact Or.inl rfl | exact Or.inr rfl) (pe_op op_add_str (pe_op op_add_str (pe_glob (v := .str ("\n" : Str)) rfl T.g_LINE_END ⟨_, rfl⟩) (pe_join pe_str (pe_op op_catA (pe_meth0 (pv 0) T.c_Rules.cl T.m_Rules_told G_Rules_told (hr.mono (by decide)) B_Rules_told .nil pass0) (pe_meth0 (pv 1) T.c_Rules.cl T.m_Rules_told G_Rules_told (hr.mono (by decide)) B_Rules_told .nil pass0)))) (pe_glob (v := .str ("abcdefghijklmnopqrstuvwxyz0123456789" : Str)) rfl T.g_LETTERS ⟨_, rfl⟩)))
    (pss_cons (ps_for PassesOwn.never rfl (pi_list (pe_lc (own := [("at", 7), ("sign", 5)]) (g := gTup _ 2 (gCons (gName 7) (gCons (gName 5) (gNil)))) rfl sc_few_signs.nd (pi_enumS (by rfl) T.b_enumerate (pa_cons (pv 4) pa_nil)) (blkOk_by (own := [("at", 7), ("sign", 5)]) (N := N_few_signs) (sc := defScope st_few_signs) (by decide +kernel)) (fun _ _ _ _ _ => (pg_tup rfl (pgs_cons (pg_name (i := 7) sc_few_signs.nd rfl (by first | exact Or.inl rfl | exact Or.inr rfl)) (pgs_cons (pg_name (i := 5) sc_few_signs.nd rfl (by first | exact Or.inl rfl | exact Or.inr rfl)) pgs_nil)))) (fun _ _ _ _ _ => (pts_one (pt_cmpR op_notIn_sign (pv 5) (pe_slice sl_str (pv 4) po_none (po_some (pv 7))) rfl))) (fun _ _ _ _ _ => (pv 5)))) (pg_name (i := 5) sc_few_signs.nd rfl (by first | exact Or.inl rfl | exact Or.inr rfl))
    (pss_cons (ps_set (i := 6) sc_few_signs.nd rfl (by first | exact Or.inl rfl | exact Or.inr rfl) (pe_callTy (call_str_data hfr hr.units) (by rfl) T.b_str (by decide +kernel) (pa_cons (pe_lst (pa_cons (pe_call G_part_of (hr.mono (by decide)) rfl T.f_part_of.g T.f_part_of.k B_part_of .nil pass0 (pa_cons (pv 0) (pa_cons (pv 5) pa_nil))) (pa_cons (pe_call G_part_of (hr.mono (by decide)) rfl T.f_part_of.g T.f_part_of.k B_part_of .nil pass0 (pa_cons (pv 1) (pa_cons (pv 5) pa_nil))) (pa_cons (pe_cmpR op_eq (pv 5) (pe_glob (v := .str ("\n" : Str)) rfl T.g_LINE_END ⟨_, rfl⟩) (nomark _)) pa_nil)))) pa_nil)))
    (pss_cons (ps_dput (hu_of hr) (pv 3) (pv 6) (pe_op op_add (pe_dget2 (hu_of hr) (pv 3) (pv 6) pe_int ⟨rfl, rfl, rfl, rfl⟩) pe_int) (by rfl))
    (pss_one (ps_if (pt_cmpR op_le (pe_dget (hu_of hr) (pv 3) (pv 6) (fun _ _ => rfl)) pe_int (nomark _)) (pss_one (ps_expr (pe_bm PySem.F.plainAttrs_list PySem.F.slot_list_append PySem.F.type_list_append mt_append (pv 2) (pa_cons (pv 5) pa_nil)))) pss_nil)))))
    (pss_one (ps_ret (pv 2))))))
      , ?_⟩
    rw [show start N_few_signs [V.ref p, V.ref p'] = [some (.ref p), some (.ref p'), none, none, none, none, none, none] from rfl]
    refine tseq_split (fun σ' G => ∃ f d, σ' = [some (.ref p), some (.ref p'), some (.ref f), some (.ref d), none, none, none, none] ∧ Same H G ∧ H f = none ∧ H d = none ∧ f ≠ d ∧ G f = some (.lst []) ∧ G d = some (.dK [])) (fun N hN => ?_) ?_
    · walk_at "rd"
      intro f hf d hd
      exact hN _ _ ⟨f, d, rfl, (same_new hf).trans (same_new hd), hf, none_upd hd, Ne.symm (ne_upd hd), by rw [upd_ne (Ne.symm (ne_upd hd)), upd_same], upd_same⟩
    rintro σ1 G1 ⟨f, d, rfl, s1, hf, hd, nfd, f1, d1⟩
    refine tseq_split (fun σ' G => σ' = [some (.ref p), some (.ref p'), some (.ref f), some (.ref d), some (.str (S (everyT r r'))), none, none, none] ∧ Same G1 G) (fun N hN => ?_) ?_
    · walk_at "rd"
      refine ⟨⟨_, rfl⟩, _, _, s1 _ _ h1, lkn_told _, p, dr, r, rfl, s1 _ _ h1, fun t1 H1 ht1 e1 => ?_⟩
      subst e1
      have S1 := same_new (o := HO.tup [V.str (S r.breaks), V.str (S r.hard), V.str (S r.soft), V.str (S r.bend), V.str (S r.note)]) ht1
      refine ⟨_, _, S1 _ _ (s1 _ _ h2), lkn_told _, p', dr', r', rfl, S1 _ _ (s1 _ _ h2), fun t2 H2 ht2 e2 => ?_⟩
      subst e2
      have S2 := same_new (o := HO.tup [V.str (S r'.breaks), V.str (S r'.hard), V.str (S r'.soft), V.str (S r'.bend), V.str (S r'.note)]) ht2
      refine ⟨t1, t2, _, _, rfl, rfl, .inl (.inl (S2 _ _ upd_same)), .inl (.inl upd_same), Nat.le_trans (show (5 : Nat) + 5 ≤ 10 by decide) (by decide), (fun z => by cases z), (fun _ z => by cases z), fun _ _ t3 ht3 => ⟨t3, rfl, [r.breaks, r.hard, r.soft, r.bend, r.note, r'.breaks, r'.hard, r'.soft, r'.bend, r'.note].map S, .inr (.inl (.inl upd_same)), ?_⟩⟩
      have el : [r.breaks, r.hard, r.soft, r.bend, r.note, r'.breaks, r'.hard, r'.soft, r'.bend, r'.note].flatten = r.every ++ r'.every := by simp [RS.every]
      have l1 := every_len ok
      have l2 := every_len ok'
      rw [join_flat, el, show Str.ofString "abcdefghijklmnopqrstuvwxyz0123456789" = S LET by decide +kernel, S_app, S_app]
      have l3 : LET.length = 36 := rfl
      refine ⟨?_, ?_, ?_, hN _ _ ⟨by simp only [everyT, List.cons_append, List.nil_append, List.append_assoc], (S1.trans S2).trans (same_new ht3)⟩⟩
      · simp only [List.map_map, Function.comp_def, S_len, Nat.mul_zero, Nat.add_zero]
        have e := congrArg List.length el
        rw [List.length_flatten, List.length_append] at e
        rw [e]
        exact Nat.le_trans (show _ ≤ 20 by omega) (by decide)
      · rw [S_len, List.length_append]
        exact Nat.le_trans (show _ ≤ 21 by omega) (by decide)
      · simp only [S_len, List.length_append, List.length_cons, List.length_nil]
        exact Nat.le_trans (show _ ≤ 57 by omega) (by decide)
    rintro σ2 G2 ⟨rfl, s2⟩
    refine tseq_split (fun σ' G => ∃ v5 v6 v7, σ' = [some (.ref p), some (.ref p'), some (.ref f), some (.ref d), some (.str (S (everyT r r'))), v5, v6, v7] ∧ Same H G ∧ G f = some (.lst ((fewT r r').map sgV))) (fun N hN => ?_) ?_
    · walk_at "rd"
      have s2' := s1.trans s2
      have lE : (everyT r r').length ≤ 57 := by
        have l1 := every_len ok
        have l2 := every_len ok'
        have l3 : LET.length = 36 := rfl
        simp only [everyT, List.length_cons, List.length_append]
        omega
      have uq : ((List.range (everyT r r').length).filter fun i => decide ((everyT r r').getD i 0 ∉ (everyT r r').take i)).map (fun i => sgV ((everyT r r').getD i 0)) = (uniq (everyT r r')).map sgV := by
        have := uniq_range (everyT r r') _ (Nat.le_refl _)
        rw [List.take_length] at this
        rw [← this, List.map_map]
        rfl
      have ul := uniq_len (everyT r r')
      refine tfor_all (ι := Addr × Hp) (C := fun z => G2 z.1 = none ∧ Same G2 z.2 ∧ z.2 z.1 = some (.lst ((uniq (everyT r r')).map sgV))) (J := fun z => Itl K z.1) (H1 := fun z => z.2) (fun R hR => ?_) fun z hz => ?_
      · refine tlc_all (ι := Unit) (C := fun _ => True) (J := fun _ => Ites (S (everyT r r'))) (H1 := fun _ => G2) (fun R hR => ?_) fun _ _ D hD => ?_
        · walk_at "rd"
          exact hR () trivial
        refine lc_filtS (List.range (everyT r r').length) (fun i => decide ((everyT r r').getD i 0 ∉ (everyT r r').take i)) (fun i => sgV ((everyT r r').getD i 0)) (by rw [List.length_range]; exact walk_enumS) (by rw [List.length_range]; omega) hD (fun H s => trivial) ?_ ?_
        · rintro R R' i j x G G' hj g ⟨T, c, rfl, hT, rfl, hc⟩ hk1 hk2
          have eg : (everyT r r').getD i 0 = c := by rw [List.getD_eq_getElem?_getD, hc]; rfl
          have ji : j = i := by
            have h2 := List.getElem?_eq_some_iff.mp hj
            obtain ⟨h3, h4⟩ := h2
            rw [List.getElem_range] at h4
            exact h4.symm
          subst ji
          rw [eg] at hk1 hk2
          have S1 := same_new (o := HO.tup [V.int (j : Nat), V.str (S [c])]) hT
          walk_at "rd"
          refine ⟨_, .inl (.inl upd_same), rfl, _, _, rfl, _, _, rfl, rfl, _, rfl, line_le57 lE, c, rfl, ?_⟩
          rw [cutS_to, S_tl]
          refine ite2 (fun c1 => hk1 _ S1 (decide_eq_true c1)) (fun c1 => hk2 _ S1 (decide_eq_false c1))
        · intro G s e
          rw [uq] at e
          exact ⟨D, rfl, ⟨_, .inl (.inl e)⟩, hR (D, G) ⟨hD, s, e⟩⟩
      obtain ⟨lq, G3⟩ := z
      obtain ⟨q3, s3, e3⟩ := hz
      dsimp only at q3 s3 e3
      have f2 := s2 _ _ f1
      have d2 := s2 _ _ d1
      have nlf : lq ≠ f := fun z => by rw [z, f2] at q3; cases q3
      have nld : lq ≠ d := fun z => by rw [z, d2] at q3; cases q3
      refine for_it (walk_list (xs := (uniq (everyT r r')).map sgV)) (fun i σ G => ∃ v5 v6 found kvs, σ = [some (.ref p), some (.ref p'), some (.ref f), some (.ref d), some (.str (S (everyT r r'))), v5, v6, none] ∧ Same H G ∧ G lq = some (.lst ((uniq (everyT r r')).map sgV)) ∧
        G f = some (.lst (found.map sgV)) ∧ G d = some (.dK kvs) ∧ CntD (cls r r') sortS kvs ((uniq (everyT r r')).take i) ∧ kvs.length ≤ i ∧ found.length ≤ i ∧ fewT r r' = found ++ fewGo (cls r r') ((uniq (everyT r r')).take i) ((uniq (everyT r r')).drop i)) ?_ (fun i σ G hi h => by obtain ⟨_, _, _, _, _, _, h, _⟩ := h; exact .inl (.inl h)) ?_ ?_
      · exact ⟨_, _, [], [], rfl, s2'.trans s3, e3, s3 _ _ (s2 _ _ f1), s3 _ _ (s2 _ _ d1), CntD.nil _ _, Nat.le_refl _, Nat.le_refl _, rfl⟩
      · rintro i x σ G G' hi ⟨v5, v6, found, kvs, rfl, sG, lG, fG, dG, hc, hk, hfl, hfew⟩ ⟨rfl, hx⟩
        rw [List.getElem?_map] at hx
        obtain ⟨c, hu, rfl⟩ := Option.map_eq_some_iff.mp hx
        walk_at "rd"
        have el1 := every_len ok
        have el2 := every_len ok'
        refine ⟨p, dr, r, c, rfl, sG _ _ h1, by omega, fun q1 H1 n1 m1 a1 => ?_⟩
        refine ⟨p', dr', r', c, rfl, m1 _ _ (sG _ _ h2), by omega, fun q2 H2 n2 m2 a2 => ?_⟩
        intro q3 hq3
        have m3 := same_new (o := HO.lst [.ref q1, .ref q2, V.bl (decide (c = LE))]) hq3
        have a3 : upd H2 q3 (HO.lst [.ref q1, .ref q2, V.bl (decide (c = LE))]) q3 = _ := upd_same
        generalize upd H2 q3 (HO.lst [.ref q1, .ref q2, V.bl (decide (c = LE))]) = H3 at *
        obtain ⟨u1, u2, u3, u4⟩ := sort_fits r r' c
        have bd : ∀ (l : Addr) (bs : List Bool), H3 l = some (.lst (bs.map V.bl)) → Dp K H3 (.ref l) (boolsD bs) := fun l bs e => by
          refine .lst (.inl (.inl e)) ?_
          clear e
          induction bs with
          | nil => exact .nil
          | cons b bs ih => exact .cons (.bl b) ih
        have m03 := (m1.trans m2).trans m3
        have lG3 := m03 _ _ lG
        have fG3 := m03 _ _ fG
        have dG3 := m03 _ _ dG
        refine ⟨sortD (cls r r' c), .lst (.inl (.inl a3)) (.cons (bd q1 _ (by rw [← part_rl ok]; exact m3 _ _ (m2 _ _ a1))) (.cons (bd q2 _ (by rw [← part_rl ok']; exact m3 _ _ a2)) (.cons (.bl _) .nil))), u1, u2, u3, u4, .inl ⟨kvs, .inl dG3⟩, _, DGet.k (k := .inr (sortS (cls r r' c))) dG3, ?_⟩
        refine ⟨_, CntD.get (cls r r') hc c, _, DPut.k (k := .inr (sortS (cls r r' c))) dG3 (Nat.lt_of_le_of_lt (show kvs.length ≤ 57 by rw [List.length_map] at hi; omega) (by decide)), ?_⟩
        have hc2 := CntD.put (cls r r') hc (fun c d => sort_inj) c
        have hn2 : ((cntF (cls r r') ((uniq (everyT r r')).take i) (cls r r' c) : Nat) : Int) + 1 = ((cntF (cls r r') ((uniq (everyT r r')).take i) (cls r r' c) + 1 : Nat) : Int) := by omega
        rw [hn2]
        have hkl := length_putK kvs (.inr (sortS (cls r r' c))) (V.int ((cntF (cls r r') ((uniq (everyT r r')).take i) (cls r r' c) + 1 : Nat) : Int))
        have hg : valV (putK kvs (.inr (sortS (cls r r' c))) (V.int ((cntF (cls r r') ((uniq (everyT r r')).take i) (cls r r' c) + 1 : Nat) : Int))) (.inr (sortS (cls r r' c))) = some (V.int ((cntF (cls r r') ((uniq (everyT r r')).take i) (cls r r' c) + 1 : Nat) : Int)) := by rw [valV_put, if_pos rfl]
        rw [← take_at hu] at hc2
        generalize putK kvs (.inr (sortS (cls r r' c))) (V.int ((cntF (cls r r') ((uniq (everyT r r')).take i) (cls r r' c) + 1 : Nat) : Int)) = kvs2 at *
        have hdr : (uniq (everyT r r')).drop i = c :: (uniq (everyT r r')).drop (i + 1) := drop_at hu
        rw [hdr, fewGo] at hfew
        have ndf : d ≠ f := Ne.symm nfd
        have sG4 : Same H (upd H3 d (HO.dK kvs2)) := Same.mut (sG.trans m03) hd
        refine ⟨_, by rw [← hg]; exact DGet.k (k := .inr (sortS (cls r r' c))) upd_same, _, rfl, ?_⟩
        refine ite2 (fun c1 => ?_) (fun c1 => ?_)
        · have c2 : ((uniq (everyT r r')).take i |>.filter fun x => decide (cls r r' x = cls r r' c)).length < 2 := by
            have : cntF (cls r r') ((uniq (everyT r r')).take i) (cls r r' c) = ((uniq (everyT r r')).take i |>.filter fun x => decide (cls r r' x = cls r r' c)).length := rfl
            omega
          rw [if_pos c2] at hfew
          refine ⟨.inl ⟨rfl, _, .inl (.inl (by rw [upd_ne (Ne.symm ndf)]; exact fG3))⟩, _, by rw [upd_ne (Ne.symm ndf)]; exact fG3, ?_, Same.mut sG4 hf, by rw [upd_ne nlf, upd_ne nld]; exact lG3, found ++ [c], by rw [List.map_append]; rfl, kvs2, by rw [upd_ne ndf, upd_same], hc2, by omega, by rw [List.length_append]; simp only [List.length_cons, List.length_nil]; omega, ?_⟩
          · rw [List.length_map]
            exact Nat.lt_of_le_of_lt (show found.length ≤ 57 by rw [List.length_map] at hi; omega) (by decide)
          · rw [hfew, take_at hu, List.append_assoc]
            rfl
        · have c2 : ¬ ((uniq (everyT r r')).take i |>.filter fun x => decide (cls r r' x = cls r r' c)).length < 2 := by
            have : cntF (cls r r') ((uniq (everyT r r')).take i) (cls r r' c) = ((uniq (everyT r r')).take i |>.filter fun x => decide (cls r r' x = cls r r' c)).length := rfl
            omega
          rw [if_neg c2] at hfew
          refine ⟨sG4, by rw [upd_ne nld]; exact lG3, found, by rw [upd_ne (Ne.symm ndf)]; exact fG3, kvs2, upd_same, hc2, by omega, by omega, ?_⟩
          rw [hfew, take_at hu]
      · rintro σ G ⟨v5, v6, found, kvs, rfl, sG, lG, fG, dG, hc, hk, hfl, hfew⟩
        rw [List.length_map] at hfew
        rw [List.drop_eq_nil_of_le (Nat.le_refl _), fewGo, List.append_nil] at hfew
        exact hN _ _ ⟨_, _, _, rfl, sG, by rw [hfew]; exact fG⟩
    rintro σ3 G3 ⟨v5, v6, v7, rfl, s3, f3⟩
    walk_at "rd"
    exact k f G3 hf s3 f3
end
end Qw

set_option Elab.async false
set_option linter.all false
set_option maxRecDepth 100000
set_option maxHeartbeats 4000000
namespace Qw
open PySem L2
local macro_rules | `(tactic| walk_at "rd") => `(tactic| simp only [tDNewK, tDGet2, iEnumS, tDGet, tDIn, tDNotIn, sDPut, tDNewT, tLstRg, tRg2, iEnum, iRng3, tRevL, rSlS, rSlL, gSub, rSetL, wipe, List.map_cons, List.map_nil, rAll, rAny, rIsi, tM1, tM0, iZipLT, iZip, iRng2, tLenSetS, rListStr, rMulS, rRep, rCntB, tRevS, rNeD, rEqD, tSeq, tNext, tAsg, tRet, tRetN, tDrop, tIfS, sFld, sFldAug, tVar, tC, tOp, tUn, tTest, tB, tAnd, tOr, tNot, tAndV, tOrV, tNotV, tIf, tTup, tLst, tCons, tNil, tCB, tCall, tMeth, tMake, tFld, rI, rI0, rU, rEq, rNe, rCat, gName, gTup, gCons, gNil, tPar, tPar3, tBM, tBM0, rAppend, rExtend, rPopAt, rIxL, rIxT, rIxS, tSl, rSlS, rSlL, tPart, tNoPart, iStr, iTup, iList, iRng1, tAug, ipI, L2.rAdd, L2.rSub, L2.rAddS, tChain, rIsB, rNotB, scal_ss, scal_ii, scal_bb, scal_nn, scal_in, scal_ni, tYes,
  cx_K, cx_N, List.getElem?_cons_zero, List.getElem?_cons_succ, List.set_cons_zero, List.set_cons_succ, List.nil_append, List.cons_append, List.append_nil, List.length_cons, List.length_nil, Nat.zero_add,
  Option.some.injEq, V.ref.injEq, V.int.injEq, V.str.injEq, V.bl.injEq, HO.ins.injEq, HO.lst.injEq, HO.tup.injEq, List.cons.injEq, exists_eq_left, exists_eq_left', exists_eq_right, exists_eq_right', and_true, true_and, exists_and_left, exists_and_right, and_assoc, decide_eq_true_eq, Bool.not_eq_true', decide_eq_false_iff_not, reduceCtorEq, exists_const, forall_const, if_true, if_false, false_and, and_false, ite_true, ite_false, Bool.true_eq_false, Bool.false_eq_true, Nat.reduceLeDiff, Nat.reduceAdd, small_line, small_lt, upd_ne, ne_eq, not_false_eq_true, Nat.zero_le, Prod.mk.injEq, upd_same, upd_upd, S_tl, S_len, S_app, S_one, S_inj,
  lk_breaks, lk_hard, lk_soft, lk_bend, lk_note, lk_rules, lk_state, lk_bent, lk_word, lk_begun, lk_opened, lk_place, pt_state, pt_bent, pt_word, pt_wordS, pt_wordN, pt_begun, pt_opened, pt_place, pt_place1, len_mf, litv_empty, litv_note, litv_nl, mf_inj, rf_inj, lkn_begin, lkn_ended, lkn_plain, lkn_quoted, lkn_step, lkn_fault, lkn_key, lkn_told, lkn_quotes, lkn_special, pt_open1, not_true_eq_false, not_false_eq_true])
local macro_rules | `(tactic| walk_at "rdh") => `(tactic| simp only [tDNewK, tDGet2, iEnumS, tDGet, tDIn, tDNotIn, sDPut, tDNewT, tLstRg, tRg2, iEnum, iRng3, tRevL, rSlS, rSlL, gSub, rSetL, wipe, List.map_cons, List.map_nil, rAll, rAny, rIsi, tM1, tM0, iZipLT, iZip, iRng2, tLenSetS, rListStr, rMulS, rRep, rCntB, tRevS, rNeD, rEqD, tSeq, tNext, tAsg, tRet, tRetN, tDrop, tIfS, sFld, sFldAug, tVar, tC, tOp, tUn, tTest, tB, tAnd, tOr, tNot, tAndV, tOrV, tNotV, tIf, tTup, tLst, tCons, tNil, tCB, tCall, tMeth, tMake, tFld, rI, rI0, rU, rEq, rNe, rCat, gName, gTup, gCons, gNil, tPar, tPar3, tBM, tBM0, rAppend, rExtend, rPopAt, rIxL, rIxT, rIxS, tSl, rSlS, rSlL, tPart, tNoPart, iStr, iTup, iList, iRng1, tAug, ipI, L2.rAdd, L2.rSub, L2.rAddS, tChain, rIsB, rNotB, scal_ss, scal_ii, scal_bb, scal_nn, scal_in, scal_ni, tYes,
  cx_K, cx_N, List.getElem?_cons_zero, List.getElem?_cons_succ, List.set_cons_zero, List.set_cons_succ, List.nil_append, List.cons_append, List.append_nil, List.length_cons, List.length_nil, Nat.zero_add,
  Option.some.injEq, V.ref.injEq, V.int.injEq, V.str.injEq, V.bl.injEq, HO.ins.injEq, HO.lst.injEq, HO.tup.injEq, List.cons.injEq, exists_eq_left, exists_eq_left', exists_eq_right, exists_eq_right', and_true, true_and, exists_and_left, exists_and_right, and_assoc, decide_eq_true_eq, Bool.not_eq_true', decide_eq_false_iff_not, reduceCtorEq, exists_const, forall_const, if_true, if_false, false_and, and_false, ite_true, ite_false, Bool.true_eq_false, Bool.false_eq_true, Nat.reduceLeDiff, Nat.reduceAdd, small_line, small_lt, upd_ne, ne_eq, not_false_eq_true, Nat.zero_le, Prod.mk.injEq, upd_same, upd_upd, S_tl, S_len, S_app, S_one, S_inj,
  lk_breaks, lk_hard, lk_soft, lk_bend, lk_note, lk_rules, lk_state, lk_bent, lk_word, lk_begun, lk_opened, lk_place, pt_state, pt_bent, pt_word, pt_wordS, pt_wordN, pt_begun, pt_opened, pt_place, pt_place1, len_mf, litv_empty, litv_note, litv_nl, mf_inj, rf_inj, lkn_begin, lkn_ended, lkn_plain, lkn_quoted, lkn_step, lkn_fault, lkn_key, lkn_told, lkn_quotes, lkn_special, pt_open1, not_true_eq_false, not_false_eq_true, *])
local macro_rules | `(tactic| walk_at "pl") => `(tactic| (first | decide | (refine Nat.lt_of_le_of_lt (length_putF _ _ _) ?_; repeat (first | decide | refine pl2 ?_))))
local macro_rules | `(tactic| walk_at "al") => `(tactic| (intro p hp; generalize hH : upd _ p _ = H1; obtain ⟨S, e⟩ := gen_new hH hp; clear hH))
/-! ### nodes, walked -/
theorem cpl_char : ∀ (a b : List Mk1) (j : Nat), a.take j = b.take j → j ≤ a.length → j ≤ b.length → (∀ x y, a[j]? = some x → b[j]? = some y → x ≠ y) → cpl a b = j
  | [], b, 0, _, _, _, _ => by unfold cpl; rfl
  | _ :: _, [], 0, _, _, _, _ => by unfold cpl; rfl
  | x :: a, y :: b, 0, _, _, _, h => by unfold cpl; rw [if_neg (h x y rfl rfl)]
  | [], _, j + 1, _, h, _, _ => by simp at h
  | _ :: _, [], j + 1, _, _, h, _ => by simp at h
  | x :: a, y :: b, j + 1, e, h1, h2, h => by
    simp only [List.take_succ_cons, List.cons.injEq] at e
    obtain ⟨rfl, e⟩ := e
    unfold cpl
    rw [if_pos rfl, cpl_char a b j e (by simpa using h1) (by simpa using h2) fun u v hu hv => h u v (by simpa using hu) (by simpa using hv)]
def mksD (a : List Mk1) : PyData := .list (a.map mkD)
theorem mkD_T (m : Mk1) : mkD m = .str (S (mkT m)) := by cases m <;> rfl
theorem mksD_ws (a : List Mk1) : mksD a = wsD (a.map mkT) := by
  unfold mksD wsD
  rw [List.map_map]
  exact congrArg _ (List.map_congr_left fun m _ => mkD_T m)
theorem mk_ok8 {m : Mk1} (h : MkOk m) : ok8 (mkT m) := by
  cases m with
  | none => unfold ok8 mkT; decide
  | some c =>
    intro d hd
    rw [List.mem_singleton.mp hd]
    have := h c rfl
    simp only [sgn, Bool.or_eq_true, decide_eq_true_eq] at this
    omega
theorem mks_tame {a : List Mk1} (h : ∀ m ∈ a, MkOk m) : tame (mksD a) = true := by
  rw [mksD_ws]
  refine wsD_tame fun t ht => ?_
  obtain ⟨m, hm, rfl⟩ := List.mem_map.mp ht
  exact mk_ok8 (h m hm)
theorem mks_depth (a : List Mk1) : (mksD a).depth ≤ 1 := by rw [mksD_ws]; exact wsD_depth _
theorem mks_eqv {a : List Mk1} (h : tame (mksD a) = true) : PyData.eqv (mksD a) (.list []) = decide (a = []) := eqv_dec h rfl (by simp [mksD])
theorem mks_dp {K : PySem.W.Frag} {H : Hp} {q : Addr} {a : List Mk1} (e : H q = some (.lst (a.map mkV))) : Dp K H (.ref q) (mksD a) := by
  rw [mksD_ws]
  refine dp_ws (.inl (.inl ?_))
  rw [e, mkV_map]
  rfl
theorem tame_mk {m : Mk1} (h : MkOk m) : tame (mkD m) = true := by
  rw [mkD_T]
  exact strOk_S (mk_ok8 h)
theorem mk_fits : allM.all (fun m => decide ((mkC m).length ≤ 10)) = true := by decide +kernel
theorem st_fits : allS.all (fun m => decide ((kst m).length ≤ 10)) = true := by decide +kernel
theorem body_len : ∀ {a : List Mk1}, (∀ m ∈ a, MkOk m) → (bodyB (a.map mkC)).length ≤ 12 * a.length := by
  have tl : ∀ {a : List Mk1}, (∀ m ∈ a, MkOk m) → (tailB (a.map mkC)).length ≤ 12 * a.length := fun {a} h => by
    induction a with
    | nil => simp [tailB]
    | cons m a ih =>
      have h1 := of_decide_eq_true (List.all_eq_true.mp mk_fits m (mem_allM (h m (.head _))))
      have h2 := ih fun z hz => h z (.tail _ hz)
      simp only [List.map_cons, tailB, List.length_append, List.length_cons, List.length_nil]
      omega
  intro a h
  cases a with
  | nil => simp [bodyB]
  | cons m a =>
    have h1 := of_decide_eq_true (List.all_eq_true.mp mk_fits m (mem_allM (h m (.head _))))
    have h2 := tl fun z hz => h z (.tail _ hz)
    simp only [List.map_cons, bodyB, List.length_append, List.length_cons]
    omega
theorem bl_len (b : Bool) : (blC b).length ≤ 10 := by cases b <;> decide +kernel
theorem key_len {k : Ky} (h : KyOk k) : (cps (keyD k).shown).length ≤ 100 := by
  have h1 := of_decide_eq_true (List.all_eq_true.mp st_fits k.st (mem_allS h))
  have h2 := bl_len k.bent
  have h3 := bl_len k.wn
  rw [cps_key]
  simp only [List.length_append, List.length_cons, List.length_nil]
  omega
theorem rest_few {a b x y : List Mk1} (h : restA a b = some (x, y)) : x.length ≤ 8 ∧ y.length ≤ 8 := by
  unfold restA at h
  split at h
  · cases h
  · rename_i n
    simp only [Option.some.injEq, Prod.mk.injEq] at h
    obtain ⟨rfl, rfl⟩ := h
    omega
theorem node_fits {k k' : Ky} {a b : List Mk1} (h : NOk (k, k', restA a b)) : (nodeD (k, k', restA a b)).showable = true ∧ (nodeD (k, k', restA a b)).hasDict = false ∧ (nodeD (k, k', restA a b)).depth ≤ 32 ∧ (nodeD (k, k', restA a b)).shown.length ≤ sizeLine := by
  have hk : ∀ k : Ky, (keyD k).showable = true ∧ (keyD k).hasDict = false ∧ (keyD k).depth ≤ 2 := fun k => by
    simp [keyD, PyData.showable, PyData.showableAll, PyData.hasDict, PyData.hasDictAll, PyData.depth, PyData.depthAll]
  have hm : ∀ x : List Mk1, (∀ m ∈ x, MkOk m) → (mksD x).showable = true ∧ (mksD x).hasDict = false ∧ (mksD x).depth ≤ 2 := fun x hx => by
    have := tame_has _ (mks_tame hx)
    exact ⟨this.2.1, this.2.2.1, Nat.le_trans (mks_depth x) (by decide)⟩
  have hr : (restD (restA a b)).showable = true ∧ (restD (restA a b)).hasDict = false ∧ (restD (restA a b)).depth ≤ 4 ∧ (cps (restD (restA a b)).shown).length ≤ 1000 := by
    cases e : restA a b with
    | none => decide +kernel
    | some q =>
      obtain ⟨x, y⟩ := q
      obtain ⟨ox, oy⟩ := h.r x y e
      obtain ⟨l1, l2⟩ := rest_few e
      obtain ⟨x1, x2, x3⟩ := hm x ox
      obtain ⟨y1, y2, y3⟩ := hm y oy
      have b1 := body_len ox
      have b2 := body_len oy
      have er : restD (some (x, y)) = .list [mksD x, mksD y] := rfl
      refine ⟨by rw [er]; simp [PyData.showable, PyData.showableAll, x1, y1], by rw [er]; simp [PyData.hasDict, PyData.hasDictAll, x2, y2], by rw [er]; simp only [PyData.depth, PyData.depthAll]; omega, ?_⟩
      rw [cps_rest]
      simp only [List.length_append, List.length_cons, List.length_nil]
      omega
  obtain ⟨r1, r2, r3, r4⟩ := hr
  obtain ⟨a1, a2, a3⟩ := hk k
  obtain ⟨b1, b2, b3⟩ := hk k'
  have l1 := key_len h.k1
  have l2 := key_len h.k2
  dsimp only at l1 l2
  refine ⟨by simp [nodeD, PyData.showable, PyData.showableAll, a1, b1, r1], by simp [nodeD, PyData.hasDict, PyData.hasDictAll, a2, b2, r2], by simp only [nodeD, PyData.depth, PyData.depthAll]; omega, ?_⟩
  refine Nat.le_trans (show (cps (nodeD (k, k', restA a b)).shown).length ≤ 2000 from ?_) (by decide)
  rw [cps_node]
  simp only [List.length_append, List.length_cons, List.length_nil]
  omega
theorem TrailT.same {H H' : Hp} {tp : Addr} {k : Ky} {ms : List Mk1} {n : Nat} (h : TrailT H tp k ms n) (s : Same H H') : TrailT H' tp k ms n := by
  obtain ⟨kq, l, ws, h1, h2, h3, h4⟩ := h
  exact ⟨kq, l, ws, s _ _ h1, s _ _ h2, s _ _ h3, h4⟩
section
variable {P : Program} {w : World} {K : PySem.W.Frag} {mg : Str → Option Value} {base : Heap} {a : Ad}
def sp_node (a : Ad) : Sp := fun vs H Q _ => ∃ p dr r p' dr' r' t, vs = [.ref p, .ref p', .str (S t)] ∧ H p = some (.ins a.c_Rules dr (RS.f r)) ∧ H p' = some (.ins a.c_Rules dr' (RS.f r')) ∧ r.Ok ∧ r'.Ok ∧ t.length ≤ 100 ∧ t.all sgn = true ∧
  ∀ H', Same H H' → Q (.str (nodeS (nodeA r r' t))) H'
theorem ok_node_of (T : Txt K mg a) : FnG P w K mg base 6 a.f_node_of a.d_node_of P_node_of (sp_node a) := by
  refine fnG_of T.F_node_of sc_node_of (fun vs H Q E h => ?_) (fun cdv A outer s H vs Q E hfr hr h => ?_)
  · obtain ⟨p, dr, r, p', dr', r', t, rfl, _⟩ := h
    rfl
  · obtain ⟨p, dr, r, p', dr', r', t, rfl, h1, h2, ok, ok', hl, hs, k⟩ := h
    have G_trail := ok_trail (P := P) (w := w) (base := base) T
    have B_trail := bi_trail T
    have G_marks_of := ok_marks_of (P := P) (w := w) (base := base) T
    have B_marks_of := bi_marks_of T
    refine ⟨_,
(pss_cons (ps_par (i := 3) (j := 4) (by rfl) sc_node_of.nd rfl rfl (by decide) rfl rfl (pa_cons (pe_call G_trail (hr.mono (by decide)) rfl T.f_trail.g T.f_trail.k B_trail .nil pass0 (pa_cons (pv 0) (pa_cons (pv 2) pa_nil))) (pa_cons (pe_call G_trail (hr.mono (by decide)) rfl T.f_trail.g T.f_trail.k B_trail .nil pass0 (pa_cons (pv 1) (pa_cons (pv 2) pa_nil))) pa_nil)) (by rfl))
    (pss_cons (ps_set (i := 5) sc_node_of.nd rfl (by first | exact Or.inl rfl | exact Or.inr rfl) (pe_lst (pa_cons (pe_call G_marks_of (hr.mono (by decide)) rfl T.f_marks_of.g T.f_marks_of.k B_marks_of .nil pass0 (pa_cons (pe_ix ix_tup (pv 3) pe_int (fun _ _ => rfl)) pa_nil)) (pa_cons (pe_call G_marks_of (hr.mono (by decide)) rfl T.f_marks_of.g T.f_marks_of.k B_marks_of .nil pass0 (pa_cons (pe_ix ix_tup (pv 4) pe_int (fun _ _ => rfl)) pa_nil)) pa_nil))))
    (pss_cons (ps_set (i := 6) sc_node_of.nd rfl (by first | exact Or.inl rfl | exact Or.inr rfl) pe_int)
    (pss_cons (ps_while PassesOwn.never (PW.pt (pw_and (pt_cmpR op_lt (pv 6) (pe_callB ((call_min2 rfl)) (by rfl) T.b_min (by decide +kernel) (pa_cons (pe_callB call_len_seq (by rfl) T.b_len PySem.boot_len (pa_cons (pe_ix ix_list (pv 5) pe_int (fun _ _ => rfl)) pa_nil)) (pa_cons (pe_callB call_len_seq (by rfl) T.b_len PySem.boot_len (pa_cons (pe_ix ix_list (pv 5) pe_int (fun _ _ => rfl)) pa_nil)) pa_nil))) (nomark _)) (pw_and1 (pt_cmpR op_eq (pe_ix ix_list (pe_ix ix_list (pv 5) pe_int (fun _ _ => rfl)) (pv 6) (fun _ _ => rfl)) (pe_ix ix_list (pe_ix ix_list (pv 5) pe_int (fun _ _ => rfl)) (pv 6) (fun _ _ => rfl)) (nomark _))))) (pss_one (ps_aug (i := 6) sc_node_of.nd rfl (by first | exact Or.inl rfl | exact Or.inr rfl) pe_int ip_add)))
    (pss_cons (ps_set (i := 7) sc_node_of.nd rfl (by first | exact Or.inl rfl | exact Or.inr rfl) (pe_lst (pa_cons (pe_slice sl_list (pe_ix ix_list (pv 5) pe_int (fun _ _ => rfl)) (po_some (pv 6)) po_none) (pa_cons (pe_slice sl_list (pe_ix ix_list (pv 5) pe_int (fun _ _ => rfl)) (po_some (pv 6)) po_none) pa_nil))))
    (pss_cons (ps_if (PW.pt (pw_or (PW.pt (pw_and (pt_cmpR (op_neD hr.units) (pe_ix ix_list (pv 7) pe_int (fun _ _ => rfl)) (pe_lst pa_nil) (nomark _)) (pw_and1 (pt_cmpR (op_neD hr.units) (pe_ix ix_list (pv 7) pe_int (fun _ _ => rfl)) (pe_lst pa_nil) (nomark _))))) (pw_or1 (pt_cmpR op_gt (pe_callB ((call_max2 rfl)) (by rfl) T.b_max (by decide +kernel) (pa_cons (pe_callB call_len_seq (by rfl) T.b_len PySem.boot_len (pa_cons (pe_ix ix_list (pv 7) pe_int (fun _ _ => rfl)) pa_nil)) (pa_cons (pe_callB call_len_seq (by rfl) T.b_len PySem.boot_len (pa_cons (pe_ix ix_list (pv 7) pe_int (fun _ _ => rfl)) pa_nil)) pa_nil))) (pe_glob (v := .int 8) rfl T.g_FAR ⟨_, rfl⟩) (nomark _))))) (pss_one (ps_set (i := 7) sc_node_of.nd rfl (by first | exact Or.inl rfl | exact Or.inr rfl) pe_str)) pss_nil)
    (pss_one (ps_ret (pe_callTy (call_str_data hfr hr.units) (by rfl) T.b_str (by decide +kernel) (pa_cons (pe_lst (pa_cons (pe_ix ix_tup (pv 3) pe_int (fun _ _ => rfl)) (pa_cons (pe_ix ix_tup (pv 4) pe_int (fun _ _ => rfl)) (pa_cons (pv 7) pa_nil)))) pa_nil))))))))))
      , ?_⟩
    rw [show start N_node_of [V.ref p, V.ref p', V.str (S t)] = [some (.ref p), some (.ref p'), some (.str (S t)), none, none, none, none, none] from rfl]
    refine tseq_split (fun σ' G => ∃ ta tb, σ' = [some (.ref p), some (.ref p'), some (.str (S t)), some (.ref ta), some (.ref tb), none, none, none] ∧ Same H G ∧ TrailT G ta (kr r t).1 (kr r t).2 t.length ∧ TrailT G tb (kr r' t).1 (kr r' t).2 t.length) (fun N hN => ?_) ?_
    · walk_at "rd"
      have q1 : r.hard.length + r.soft.length ≤ 100 := few_quotes ok
      have q2 : r'.hard.length + r'.soft.length ≤ 100 := few_quotes ok'
      refine ⟨p, dr, r, t, rfl, h1, q1, by omega, fun ta Ha na sa ea => ?_⟩
      refine ⟨p', dr', r', t, rfl, sa _ _ h2, q2, by omega, fun tb Hb nb sb eb => ?_⟩
      exact hN _ _ ⟨ta, tb, rfl, sa.trans sb, ea.same sb, eb⟩
    rintro σ1 G1 ⟨ta, tb, rfl, s1, Ta, Tb⟩
    obtain ⟨ka, la, wa, a1, a2, a3, a4, a5, a6⟩ := Ta
    obtain ⟨kb, lb, wb, b1, b2, b3, b4, b5, b6⟩ := Tb
    refine tseq_split (fun σ' G => ∃ rs m1 m2, σ' = [some (.ref p), some (.ref p'), some (.str (S t)), some (.ref ta), some (.ref tb), some (.ref rs), none, none] ∧ Same G1 G ∧ G rs = some (.lst [.ref m1, .ref m2]) ∧ G m1 = some (.lst ((kr r t).2.map mkV)) ∧ G m2 = some (.lst ((kr r' t).2.map mkV))) (fun N hN => ?_) ?_
    · walk_at "rd"
      refine ⟨_, .inl (.inl a1), _, atI_nat (j := 1) rfl, la, wa, rfl, a3, by omega, fun w hw => by have := a6 w hw; omega, fun m1 F1 n1 k1 e1 => ?_⟩
      refine ⟨_, .inl (.inl (k1 _ _ b1)), _, atI_nat (j := 1) rfl, lb, wb, rfl, k1 _ _ b3, by omega, fun w hw => by have := b6 w hw; omega, fun m2 F2 n2 k2 e2 => ?_⟩
      intro rs hrs
      have k3 := same_new (o := HO.lst [.ref m1, .ref m2]) hrs
      rw [a4] at e1
      rw [b4] at e2
      exact hN _ _ ⟨rs, m1, m2, rfl, (k1.trans k2).trans k3, upd_same, k3 _ _ (k2 _ _ e1), k3 _ _ e2⟩
    rintro σ2 G2 ⟨rs, m1, m2, rfl, s2, rs2, c1, c2⟩
    have la2 : (kr r t).2.length ≤ 200 := Nat.le_trans (run_len r t Ky.zero) (by omega)
    have lb2 : (kr r' t).2.length ≤ 200 := Nat.le_trans (run_len r' t Ky.zero) (by omega)
    have mka : ∀ m ∈ (kr r t).2, MkOk m := fun m hm c e => List.all_eq_true.mp hs c (run_mem t Ky.zero c (e ▸ hm))
    have mkb : ∀ m ∈ (kr r' t).2, MkOk m := fun m hm c e => List.all_eq_true.mp hs c (run_mem t Ky.zero c (e ▸ hm))
    have nok := node_ok (r := r) (r' := r') ok ok' hs
    rw [show nodeA r r' t = ((kr r t).1, (kr r' t).1, restA (kr r t).2 (kr r' t).2) from rfl] at nok k
    generalize (kr r t).2 = xs at *
    generalize (kr r' t).2 = ys at *
    refine tseq_split (fun σ' G => σ' = [some (.ref p), some (.ref p'), some (.str (S t)), some (.ref ta), some (.ref tb), some (.ref rs), some (.int 0), none] ∧ G = G2) (fun N hN => ?_) ?_
    · walk_at "rd"
      exact hN _ _ ⟨rfl, rfl⟩
    rintro σ3 G3 ⟨rfl, rfl⟩
    refine tseq_split (fun σ' G => σ' = [some (.ref p), some (.ref p'), some (.str (S t)), some (.ref ta), some (.ref tb), some (.ref rs), some (.int (cpl xs ys : Nat)), none] ∧ G = G3) (fun N hN => ?_) ?_
    · refine while_rule (fun n σ' G => ∃ j : Nat, σ' = [some (.ref p), some (.ref p'), some (.str (S t)), some (.ref ta), some (.ref tb), some (.ref rs), some (.int j), none] ∧ G = G3 ∧ n = xs.length - j ∧ j ≤ xs.length ∧ j ≤ ys.length ∧ xs.take j = ys.take j) xs.length ⟨0, rfl, rfl, rfl, Nat.zero_le _, Nat.zero_le _, rfl⟩ ?_
      rintro n σ1 G R ⟨j, rfl, rfl, rfl, j1, j2, j3⟩ hT hF
      walk_at "rd"
      refine ⟨_, .inl (.inl rs2), _, atI_nat (j := 0) rfl, m1, rfl, _, .inl (.inl (.inl c1)), _, .inl (.inl rs2), _, atI_nat (j := 1) rfl, m2, rfl, _, .inl (.inl (.inl c2)), ?_⟩
      rw [List.length_map, List.length_map]
      refine ite2 (fun lt => ?_) (fun ge => ?_)
      · have jab : j < xs.length ∧ j < ys.length := by
          split at lt <;> omega
        obtain ⟨ja, jb⟩ := jab
        have ea : xs[j]? = some xs[j] := List.getElem?_eq_getElem ja
        have eb : ys[j]? = some ys[j] := List.getElem?_eq_getElem jb
        generalize xs[j] = u at *
        generalize ys[j] = v at *
        refine ⟨_, .inl (.inl rs2), _, atI_nat (j := 0) rfl, m1, rfl, _, .inl (.inl c1), _, atI_nat (by rw [List.getElem?_map, ea]; rfl), _, .inl (.inl rs2), _, atI_nat (j := 1) rfl, m2, rfl, _, .inl (.inl c2), _, atI_nat (by rw [List.getElem?_map, eb]; rfl), ?_⟩
        refine ⟨by rw [mkV_T, mkV_T]; rfl, ?_⟩
        by_cases e : u = v
        · subst e
          rw [decide_eq_true rfl]
          refine hT _ ?_
          walk_at "rd"
          exact ⟨_, by omega, j + 1, rfl, rfl, by omega, by omega, by rw [take_at ea, take_at eb, j3]⟩
        · rw [decide_eq_false (fun z => e (by rw [mkV_T, mkV_T] at z; exact mkT_inj.mp (S_inj.mp (V.str.inj z))))]
          refine hF _ ?_
          have : cpl xs ys = j := cpl_char _ _ _ j3 j1 j2 fun x y hx hy => by
            rw [ea] at hx
            rw [eb] at hy
            cases hx; cases hy
            exact e
          exact hN _ _ ⟨by rw [this], rfl⟩
      · refine hF _ ?_
        have : cpl xs ys = j := cpl_char _ _ _ j3 j1 j2 fun x y hx hy => by
          have h1 := (List.getElem?_eq_some_iff.mp hx).1
          have h2 := (List.getElem?_eq_some_iff.mp hy).1
          exfalso
          apply ge
          split <;> omega
        exact hN _ _ ⟨by rw [this], rfl⟩
    rintro σ4 G4 ⟨rfl, rfl⟩
    refine tseq_split (fun σ' G => ∃ re q1 q2, σ' = [some (.ref p), some (.ref p'), some (.str (S t)), some (.ref ta), some (.ref tb), some (.ref rs), some (.int (cpl xs ys : Nat)), some (.ref re)] ∧ Same G4 G ∧ G re = some (.lst [.ref q1, .ref q2]) ∧ G q1 = some (.lst ((xs.drop (cpl xs ys)).map mkV)) ∧ G q2 = some (.lst ((ys.drop (cpl xs ys)).map mkV))) (fun N hN => ?_) ?_
    · walk_at "rd"
      refine ⟨_, .inl (.inl rs2), _, atI_nat (j := 0) rfl, m1, rfl, _, .inl (.inl c1), fun q1 hq1 => ?_⟩
      have k1 := same_new (o := HO.lst (cutV (xs.map mkV) (some ((cpl xs ys : Nat) : Int)) none)) hq1
      refine ⟨_, .inl (.inl (k1 _ _ rs2)), _, atI_nat (j := 1) rfl, m2, rfl, _, .inl (.inl (k1 _ _ c2)), fun q2 hq2 re hre => ?_⟩
      have k2 := same_new (o := HO.lst (cutV (ys.map mkV) (some ((cpl xs ys : Nat) : Int)) none)) hq2
      have k3 := same_new (o := HO.lst [.ref q1, .ref q2]) hre
      refine hN _ _ ⟨re, q1, q2, rfl, (k1.trans k2).trans k3, upd_same, ?_, ?_⟩
      · rw [k3 _ _ (k2 _ _ upd_same), cut_from, List.map_drop]
      · rw [k3 _ _ upd_same, cut_from, List.map_drop]
    rintro σ5 G5 ⟨re, q1, q2, rfl, s5, re5, d1, d2⟩
    refine tseq_split (fun σ' G => ∃ v, σ' = [some (.ref p), some (.ref p'), some (.str (S t)), some (.ref ta), some (.ref tb), some (.ref rs), some (.int (cpl xs ys : Nat)), some v] ∧ Same G5 G ∧ Dp K G v (restD (restA xs ys))) (fun N hN => ?_) ?_
    · walk_at "rd"
      have tx : tame (mksD (xs.drop (cpl xs ys))) = true := mks_tame fun m hm => mka m (List.mem_of_mem_drop hm)
      have ty : tame (mksD (ys.drop (cpl xs ys))) = true := mks_tame fun m hm => mkb m (List.mem_of_mem_drop hm)
      have lst0 : ∀ {H : Hp} {q : Addr}, H q = some (.lst []) → Dp K H (.ref q) (.list []) := fun e => .lst (.inl (.inl e)) .nil
      have apart : ∀ F, Same G5 F → ((xs.drop (cpl xs ys) ≠ [] ∧ ys.drop (cpl xs ys) ≠ []) ∨ 8 < max (xs.drop (cpl xs ys)).length (ys.drop (cpl xs ys)).length) → N [some (V.ref p), some (V.ref p'), some (V.str (S t)), some (V.ref ta), some (V.ref tb), some (V.ref rs), some (V.int (cpl xs ys : Nat)), some (V.str (Str.ofString "apart"))] F := fun F sF h => by
        refine hN _ _ ⟨_, rfl, sF, ?_⟩
        unfold restA
        rw [if_pos h, show Str.ofString "apart" = S [97, 112, 97, 114, 116] by decide +kernel]
        exact .str _
      have alike : ∀ F, Same G5 F → ¬ ((xs.drop (cpl xs ys) ≠ [] ∧ ys.drop (cpl xs ys) ≠ []) ∨ 8 < max (xs.drop (cpl xs ys)).length (ys.drop (cpl xs ys)).length) → N [some (V.ref p), some (V.ref p'), some (V.str (S t)), some (V.ref ta), some (V.ref tb), some (V.ref rs), some (V.int (cpl xs ys : Nat)), some (V.ref re)] F := fun F sF h => by
        refine hN _ _ ⟨_, rfl, sF, ?_⟩
        unfold restA
        rw [if_neg h]
        exact .lst (.inl (.inl (sF _ _ re5))) (.cons (mks_dp (sF _ _ d1)) (.cons (mks_dp (sF _ _ d2)) .nil))
      have big : ∀ F, Same G5 F → ¬ (xs.drop (cpl xs ys) ≠ [] ∧ ys.drop (cpl xs ys) ≠ []) → ∃ x, SqL K F re x ∧ ∃ x_3, atI x 0 = some x_3 ∧ ∃ p_3, x_3 = V.ref p_3 ∧ ∃ x, (SqL K F p_3 x ∨ SqT K F p_3 x) ∧ ∃ x_4, SqL K F re x_4 ∧ ∃ x_5, atI x_4 1 = some x_5 ∧ ∃ p_5, x_5 = V.ref p_5 ∧ ∃ x_6, (SqL K F p_5 x_6 ∨ SqT K F p_5 x_6) ∧
          if (8 : Int) < if (x_6.length : Int) > x.length then (x_6.length : Int) else (x.length : Int) then N [some (V.ref p), some (V.ref p'), some (V.str (S t)), some (V.ref ta), some (V.ref tb), some (V.ref rs), some (V.int (cpl xs ys : Nat)), some (V.str (Str.ofString "apart"))] F
          else N [some (V.ref p), some (V.ref p'), some (V.str (S t)), some (V.ref ta), some (V.ref tb), some (V.ref rs), some (V.int (cpl xs ys : Nat)), some (V.ref re)] F := fun F sF hn => by
        refine ⟨_, .inl (.inl (sF _ _ re5)), _, atI_nat (j := 0) rfl, q1, rfl, _, .inl (.inl (.inl (sF _ _ d1))), _, .inl (.inl (sF _ _ re5)), _, atI_nat (j := 1) rfl, q2, rfl, _, .inl (.inl (.inl (sF _ _ d2))), ?_⟩
        rw [List.length_map, List.length_map]
        refine ite2 (fun c => apart F sF (.inr ?_)) (fun c => alike F sF fun h => ?_)
        · split at c <;> omega
        · rcases h with h | h
          · exact hn h
          · apply c
            split <;> omega
      refine ⟨_, .inl (.inl re5), _, atI_nat (j := 0) rfl, fun n1 hn1 => ?_⟩
      have k1 := same_new (o := HO.lst []) hn1
      refine ⟨_, mks_dp (k1 _ _ d1), _, lst0 upd_same, shaped_of tx (Nat.le_trans (mks_depth _) (by decide)), by decide, ?_⟩
      rw [mks_eqv tx]
      refine ite2 (fun c1 => ?_) (fun c1 => ?_)
      · refine ⟨_, .inl (.inl (k1 _ _ re5)), _, atI_nat (j := 1) rfl, fun n2 hn2 => ?_⟩
        have k2 := k1.trans (same_new (o := HO.lst []) hn2)
        refine ⟨_, mks_dp (k2 _ _ d2), _, lst0 upd_same, shaped_of ty (Nat.le_trans (mks_depth _) (by decide)), by decide, ?_⟩
        rw [mks_eqv ty]
        have c1' := of_decide_eq_false c1
        refine ite2 (fun c2 => ?_) (fun c2 => ?_)
        · exact apart _ k2 (.inl ⟨c1', of_decide_eq_false c2⟩)
        · exact big _ k2 fun h => c2 (decide_eq_false h.2)
      · exact big _ k1 fun h => c1 (decide_eq_false h.1)
    rintro σ6 G6 ⟨v, rfl, s6, d6⟩
    walk_at "rd"
    have k26 := (s2.trans s5).trans s6
    refine ⟨_, .inl (.inl (k26 _ _ a1)), _, atI_nat (j := 0) rfl, _, .inl (.inl (k26 _ _ b1)), _, atI_nat (j := 0) rfl, fun n1 hn1 => ?_⟩
    have k3 := same_new (o := HO.lst [.ref ka, .ref kb, v]) hn1
    have keyd : ∀ {H : Hp} {q : Addr} {k : Ky}, H q = some (.tup (tupKy k)) → Dp K H (.ref q) (keyD k) := fun e => .tup (.inl (.inl e)) (.cons (.str _) (.cons (.bl _) (.cons (.bl _) .nil)))
    obtain ⟨u1, u2, u3, u4⟩ := node_fits nok
    refine ⟨nodeD ((kr r t).1, (kr r' t).1, restA xs ys), .lst (.inl (.inl upd_same)) (.cons (keyd (k3 _ _ (k26 _ _ a2))) (.cons (keyd (k3 _ _ (k26 _ _ b2))) (.cons (Dp.same k3 _ _ d6) .nil))), u1, u2, u3, u4, ?_⟩
    exact k _ (((s1.trans k26)).trans k3)
end
end Qw

set_option Elab.async false
set_option linter.all false
set_option maxRecDepth 100000
set_option maxHeartbeats 4000000
namespace Qw
open PySem L2
local macro_rules | `(tactic| walk_at "rd") => `(tactic| simp only [tDNewK, tDGet2, iEnumS, tDGet, tDIn, tDNotIn, sDPut, tDNewT, tLstRg, tRg2, iEnum, iRng3, tRevL, rSlS, rSlL, gSub, rSetL, wipe, List.map_cons, List.map_nil, rAll, rAny, rIsi, tM1, tM0, iZipLT, iZip, iRng2, tLenSetS, rListStr, rMulS, rRep, rCntB, tRevS, rNeD, rEqD, tSeq, tNext, tAsg, tRet, tRetN, tDrop, tIfS, sFld, sFldAug, tVar, tC, tOp, tUn, tTest, tB, tAnd, tOr, tNot, tAndV, tOrV, tNotV, tIf, tTup, tLst, tCons, tNil, tCB, tCall, tMeth, tMake, tFld, rI, rI0, rU, rEq, rNe, rCat, gName, gTup, gCons, gNil, tPar, tPar3, tBM, tBM0, rAppend, rExtend, rPopAt, rIxL, rIxT, rIxS, tSl, rSlS, rSlL, tPart, tNoPart, iStr, iTup, iList, iRng1, tAug, ipI, L2.rAdd, L2.rSub, L2.rAddS, tChain, rIsB, rNotB, scal_ss, scal_ii, scal_bb, scal_nn, scal_in, scal_ni, tYes,
  cx_K, cx_N, List.getElem?_cons_zero, List.getElem?_cons_succ, List.set_cons_zero, List.set_cons_succ, List.nil_append, List.cons_append, List.append_nil, List.length_cons, List.length_nil, Nat.zero_add,
  Option.some.injEq, V.ref.injEq, V.int.injEq, V.str.injEq, V.bl.injEq, HO.ins.injEq, HO.lst.injEq, HO.tup.injEq, List.cons.injEq, exists_eq_left, exists_eq_left', exists_eq_right, exists_eq_right', and_true, true_and, exists_and_left, exists_and_right, and_assoc, decide_eq_true_eq, Bool.not_eq_true', decide_eq_false_iff_not, reduceCtorEq, exists_const, forall_const, if_true, if_false, false_and, and_false, ite_true, ite_false, Bool.true_eq_false, Bool.false_eq_true, Nat.reduceLeDiff, Nat.reduceAdd, small_line, small_lt, upd_ne, ne_eq, not_false_eq_true, Nat.zero_le, Prod.mk.injEq, upd_same, upd_upd, S_tl, S_len, S_app, S_one, S_inj,
  lk_breaks, lk_hard, lk_soft, lk_bend, lk_note, lk_rules, lk_state, lk_bent, lk_word, lk_begun, lk_opened, lk_place, pt_state, pt_bent, pt_word, pt_wordS, pt_wordN, pt_begun, pt_opened, pt_place, pt_place1, len_mf, litv_empty, litv_note, litv_nl, mf_inj, rf_inj, lkn_begin, lkn_ended, lkn_plain, lkn_quoted, lkn_step, lkn_fault, lkn_key, lkn_told, lkn_quotes, lkn_special, pt_open1, not_true_eq_false, not_false_eq_true])
local macro_rules | `(tactic| walk_at "rdh") => `(tactic| simp only [tDNewK, tDGet2, iEnumS, tDGet, tDIn, tDNotIn, sDPut, tDNewT, tLstRg, tRg2, iEnum, iRng3, tRevL, rSlS, rSlL, gSub, rSetL, wipe, List.map_cons, List.map_nil, rAll, rAny, rIsi, tM1, tM0, iZipLT, iZip, iRng2, tLenSetS, rListStr, rMulS, rRep, rCntB, tRevS, rNeD, rEqD, tSeq, tNext, tAsg, tRet, tRetN, tDrop, tIfS, sFld, sFldAug, tVar, tC, tOp, tUn, tTest, tB, tAnd, tOr, tNot, tAndV, tOrV, tNotV, tIf, tTup, tLst, tCons, tNil, tCB, tCall, tMeth, tMake, tFld, rI, rI0, rU, rEq, rNe, rCat, gName, gTup, gCons, gNil, tPar, tPar3, tBM, tBM0, rAppend, rExtend, rPopAt, rIxL, rIxT, rIxS, tSl, rSlS, rSlL, tPart, tNoPart, iStr, iTup, iList, iRng1, tAug, ipI, L2.rAdd, L2.rSub, L2.rAddS, tChain, rIsB, rNotB, scal_ss, scal_ii, scal_bb, scal_nn, scal_in, scal_ni, tYes,
  cx_K, cx_N, List.getElem?_cons_zero, List.getElem?_cons_succ, List.set_cons_zero, List.set_cons_succ, List.nil_append, List.cons_append, List.append_nil, List.length_cons, List.length_nil, Nat.zero_add,
  Option.some.injEq, V.ref.injEq, V.int.injEq, V.str.injEq, V.bl.injEq, HO.ins.injEq, HO.lst.injEq, HO.tup.injEq, List.cons.injEq, exists_eq_left, exists_eq_left', exists_eq_right, exists_eq_right', and_true, true_and, exists_and_left, exists_and_right, and_assoc, decide_eq_true_eq, Bool.not_eq_true', decide_eq_false_iff_not, reduceCtorEq, exists_const, forall_const, if_true, if_false, false_and, and_false, ite_true, ite_false, Bool.true_eq_false, Bool.false_eq_true, Nat.reduceLeDiff, Nat.reduceAdd, small_line, small_lt, upd_ne, ne_eq, not_false_eq_true, Nat.zero_le, Prod.mk.injEq, upd_same, upd_upd, S_tl, S_len, S_app, S_one, S_inj,
  lk_breaks, lk_hard, lk_soft, lk_bend, lk_note, lk_rules, lk_state, lk_bent, lk_word, lk_begun, lk_opened, lk_place, pt_state, pt_bent, pt_word, pt_wordS, pt_wordN, pt_begun, pt_opened, pt_place, pt_place1, len_mf, litv_empty, litv_note, litv_nl, mf_inj, rf_inj, lkn_begin, lkn_ended, lkn_plain, lkn_quoted, lkn_step, lkn_fault, lkn_key, lkn_told, lkn_quotes, lkn_special, pt_open1, not_true_eq_false, not_false_eq_true, *])
local macro_rules | `(tactic| walk_at "pl") => `(tactic| (first | decide | (refine Nat.lt_of_le_of_lt (length_putF _ _ _) ?_; repeat (first | decide | refine pl2 ?_))))
local macro_rules | `(tactic| walk_at "al") => `(tactic| (intro p hp; generalize hH : upd _ p _ = H1; obtain ⟨S, e⟩ := gen_new hH hp; clear hH))
local macro_rules | `(tactic| walk_at "rc") => `(tactic| simp only [tDNewK, tDGet2, iEnumS, tDGet, tDIn, tDNotIn, sDPut, tDNewT, tLstRg, tRg2, iEnum, iRng3, tRevL, rSlS, rSlL, gSub, rSetL, wipe, List.map_cons, List.map_nil, rAll, rAny, rIsi, tM1, tM0, iZipLT, iZip, iRng2, tLenSetS, rListStr, rMulS, rRep, rCntB, tRevS, rNeD, rEqD, tNext, tAsg, tRet, tRetN, tDrop, tIfS, sFld, sFldAug, tVar, tC, tOp, tUn, tTest, tB, tAnd, tOr, tNot, tAndV, tOrV, tNotV, tIf, tTup, tLst, tCons, tNil, tCB, tCall, tMeth, tMake, tFld, rI, rI0, rU, rEq, rNe, rCat, gName, gTup, gCons, gNil, tPar, tPar3, tBM, tBM0, rAppend, rExtend, rPopAt, rIxL, rIxT, rIxS, tSl, rSlS, rSlL, tPart, tNoPart, iStr, iTup, iList, iRng1, tAug, ipI, L2.rAdd, L2.rSub, L2.rAddS, tChain, rIsB, rNotB, scal_ss, scal_ii, scal_bb, scal_nn, scal_in, scal_ni, tYes,
  cx_K, cx_N, List.getElem?_cons_zero, List.getElem?_cons_succ, List.set_cons_zero, List.set_cons_succ, List.nil_append, List.cons_append, List.append_nil, List.length_cons, List.length_nil, Nat.zero_add,
  Option.some.injEq, V.ref.injEq, V.int.injEq, V.str.injEq, V.bl.injEq, HO.ins.injEq, HO.lst.injEq, HO.tup.injEq, List.cons.injEq, exists_eq_left, exists_eq_left', exists_eq_right, exists_eq_right', and_true, true_and, exists_and_left, exists_and_right, and_assoc, decide_eq_true_eq, Bool.not_eq_true', decide_eq_false_iff_not, reduceCtorEq, exists_const, forall_const, if_true, if_false, false_and, and_false, ite_true, ite_false, Bool.true_eq_false, Bool.false_eq_true, Nat.reduceLeDiff, Nat.reduceAdd, small_line, small_lt, upd_ne, ne_eq, not_false_eq_true, Nat.zero_le, Prod.mk.injEq, upd_same, upd_upd, S_tl, S_len, S_app, S_one, S_inj,
  lk_breaks, lk_hard, lk_soft, lk_bend, lk_note, lk_rules, lk_state, lk_bent, lk_word, lk_begun, lk_opened, lk_place, pt_state, pt_bent, pt_word, pt_wordS, pt_wordN, pt_begun, pt_opened, pt_place, pt_place1, len_mf, litv_empty, litv_note, litv_nl, mf_inj, rf_inj, lkn_begin, lkn_ended, lkn_plain, lkn_quoted, lkn_step, lkn_fault, lkn_key, lkn_told, lkn_quotes, lkn_special, pt_open1, not_true_eq_false, not_false_eq_true])
/-! ### a shortest parted text, walked -/
abbrev ndS (r r' : RS) (t : Tx) : Str := nodeS (nodeA r r' t)
abbrev ptd (r r' : RS) (t : Tx) : Bool := !alikeT r r' t
def seenD (l : List Str) : List (Key × V) := l.map fun s => (Sum.inr s, .bl true)
theorem seen_val (l : List Str) (s : Str) : (valV (seenD l) (.inr s)).isSome = decide (s ∈ l) := by
  induction l with
  | nil => simp [seenD, valV_nil]
  | cons x l ih =>
    show (valV ((Sum.inr x, V.bl true) :: seenD l) (.inr s)).isSome = _
    by_cases e : x = s
    · rw [valV_pos (p := (Sum.inr x, V.bl true)) (by rw [e]), e]
      simp
    · rw [valV_neg (p := (Sum.inr x, V.bl true)) (fun z => e (Sum.inr.inj z)), ih]
      simp [Ne.symm e]
theorem seen_put {l : List Str} {s : Str} (h : s ∉ l) : putK (seenD l) (.inr s) (.bl true) = seenD (l ++ [s]) := by
  have : valV (seenD l) (.inr s) = none := by
    have := seen_val l s
    rw [decide_eq_false h] at this
    simpa using this
  rw [putK_new _ this, seenD, seenD, List.map_append]
  rfl
section
variable {N : Type} [DecidableEq N] {node : Tx → N} {A : Tx}
theorem le_exp1 (t : Tx) (c : Nat) (sm : List N × List Tx) (h : sm.2.length ≤ sm.1.length) : (exp1 node t sm c).2.length ≤ (exp1 node t sm c).1.length := by
  unfold exp1
  split
  · exact h
  · simp only [List.length_append, List.length_cons, List.length_nil]; omega
theorem le_fold1 (t : Tx) : ∀ (cs : Tx) (sm : List N × List Tx), sm.2.length ≤ sm.1.length → (cs.foldl (exp1 node t) sm).2.length ≤ (cs.foldl (exp1 node t) sm).1.length
  | [], _, h => h
  | c :: cs, sm, h => le_fold1 t cs (exp1 node t sm c) (le_exp1 t c sm h)
theorem le_fold : ∀ (ts : List Tx) (sm : List N × List Tx), sm.2.length ≤ sm.1.length → (ts.foldl (expT node A) sm).2.length ≤ (ts.foldl (expT node A) sm).1.length
  | [], _, h => h
  | t :: ts, sm, h => le_fold ts (expT node A sm t) (le_fold1 t A sm h)
end
theorem dropx_at {α : Type} : ∀ {l : List α} {i : Nat} {x : α}, l[i]? = some x → l.drop i = x :: l.drop (i + 1)
  | [], i, x, h => by simp at h
  | a :: l, 0, x, h => by
    cases (Option.some.inj h : a = x)
    rfl
  | a :: l, i + 1, x, h => by
    rw [List.drop_succ_cons, List.drop_succ_cons]
    exact dropx_at (by simpa using h)
theorem line_11 {n : Nat} (h : n ≤ 11000000) : n < sizeLine := Nat.lt_of_le_of_lt h (by decide)
section
variable {P : Program} {w : World} {K : PySem.W.Frag} {mg : Str → Option Value} {base : Heap} {a : Ad}
def sp_first (a : Ad) : Sp := fun vs H Q _ => ∃ p dr r p' dr' r', vs = [.ref p, .ref p'] ∧ H p = some (.ins a.c_Rules dr (RS.f r)) ∧ H p' = some (.ins a.c_Rules dr' (RS.f r')) ∧ r.Ok ∧ r'.Ok ∧
  ∀ o H', FirstT r r' o → Same H H' → Q (oV1 o) H'
theorem ok_first_parted (T : Txt K mg a) : FnG P w K mg base 7 a.f_first_parted a.d_first_parted P_first_parted (sp_first a) := by
  refine fnG_of T.F_first_parted sc_first_parted (fun vs H Q E h => ?_) (fun cdv A outer s H vs Q E hfr hr h => ?_)
  · obtain ⟨p, dr, r, p', dr', r', rfl, _⟩ := h
    rfl
  · obtain ⟨p, dr, r, p', dr', r', rfl, h1, h2, ok, ok', k0⟩ := h
    have G_few_signs := ok_few_signs (P := P) (w := w) (base := base) T
    have B_few_signs := bi_few_signs T
    have G_read_alike := ok_read_alike (P := P) (w := w) (base := base) T
    have B_read_alike := bi_read_alike T
    have G_node_of := ok_node_of (P := P) (w := w) (base := base) T
    have B_node_of := bi_node_of T
    refine ⟨_,
(pss_cons (ps_par3 (i := 2) (j := 3) (l := 4) (by rfl) sc_first_parted.nd rfl rfl rfl (by decide) (by decide) (by decide) rfl rfl rfl (pa_cons (pe_callG G_few_signs hfr (hr.mono (by decide)) rfl T.f_few_signs.g T.f_few_signs.k B_few_signs (pa_cons (pv 0) (pa_cons (pv 1) pa_nil))) (pa_cons pe_dnewK (pa_cons (pe_lst (pa_cons pe_str pa_nil)) pa_nil))) (by rfl))
    (pss_cons (ps_while PassesOwn.never (pt_cmpR (op_neD hr.units) (pv 4) (pe_lst pa_nil) (nomark _)) (pss_cons (ps_set (i := 5) sc_first_parted.nd rfl (by first | exact Or.inl rfl | exact Or.inr rfl) (pe_lst pa_nil))
    (pss_cons (ps_for PassesOwn.never rfl (pi_list (pv 4)) (pg_name (i := 6) sc_first_parted.nd rfl (by first | exact Or.inl rfl | exact Or.inr rfl))
    (pss_cons (ps_if (pt_not (pt_val (pe_call G_read_alike (hr.mono (by decide)) rfl T.f_read_alike.g T.f_read_alike.k B_read_alike .nil pass0 (pa_cons (pv 0) (pa_cons (pv 1) (pa_cons (pv 6) pa_nil)))))) (pss_one (ps_ret (pv 6))) pss_nil)
    (pss_one (ps_for PassesOwn.never rfl (pi_list (pv 2)) (pg_name (i := 7) sc_first_parted.nd rfl (by first | exact Or.inl rfl | exact Or.inr rfl))
    (pss_cons (ps_set (i := 8) sc_first_parted.nd rfl (by first | exact Or.inl rfl | exact Or.inr rfl) (pe_callG G_node_of hfr (hr.mono (by decide)) rfl T.f_node_of.g T.f_node_of.k B_node_of (pa_cons (pv 0) (pa_cons (pv 1) (pa_cons (pe_op op_add_str (pv 6) (pv 7)) pa_nil)))))
    (pss_one (ps_if (pt_cmp (pc_dnotin (hu_of hr) (pv 8) (pv 3))) (pss_cons (ps_dput (hu_of hr) (pv 3) (pv 8) pe_bl (by rfl))
    (pss_one (ps_expr (pe_bm PySem.F.plainAttrs_list PySem.F.slot_list_append PySem.F.type_list_append mt_append (pv 5) (pa_cons (pe_op op_add_str (pv 6) (pv 7)) pa_nil))))) pss_nil)))))))
    (pss_one (ps_set (i := 4) sc_first_parted.nd rfl (by first | exact Or.inl rfl | exact Or.inr rfl) (pv 5))))))
    (pss_one (ps_ret pe_non))))
      , ?_⟩
    rw [show start N_first_parted [V.ref p, V.ref p'] = [some (.ref p), some (.ref p'), none, none, none, none, none, none, none] from rfl]
    obtain ⟨N0, o, hN0, hb, hbo, hft⟩ := first_tells ok ok'
    have kk := fun H' => k0 o H' hft
    clear k0
    refine tseq_split (fun σ' G => ∃ sg d tq, σ' = [some (.ref p), some (.ref p'), some (.ref sg), some (.ref d), some (.ref tq), none, none, none, none] ∧ Same H G ∧ H d = none ∧ H tq = none ∧ G sg = some (.lst ((fewT r r').map sgV)) ∧ H sg = none ∧ G d = some (.dK []) ∧ G tq = some (.lst [sV []])) (fun N hN => ?_) ?_
    · walk_at "rd"
      refine ⟨p, dr, r, p', dr', r', rfl, h1, h2, ok, ok', fun sg F nsg m1 a1 d hd tq htq => ?_⟩
      have m2 := same_new (o := HO.dK []) hd
      have m3 := same_new (o := HO.lst [V.str (S [])]) htq
      exact hN _ _ ⟨sg, d, tq, rfl, (m1.trans m2).trans m3, m1.free hd, (m1.trans m2).free htq, m3 _ _ (m2 _ _ a1), nsg, m3 _ _ upd_same, upd_same⟩
    rintro σ1 G1 ⟨sg, d, tq, rfl, s1, hd, htq, e1, hsg, e2, e3⟩
    refine tseq_split (fun _ G => o = none ∧ Same H G) (fun N hN => ?_) ?_
    · refine while_rule (fun n σ G => ∃ (i : Nat) (seen : List Str) (turn : List Tx) (tq : Addr) (v5 v6 v7 v8 : Option V), σ = [some (.ref p), some (.ref p'), some (.ref sg), some (.ref d), some (.ref tq), v5, v6, v7, v8] ∧ Same H G ∧ H tq = none ∧ G sg = some (.lst ((fewT r r').map sgV)) ∧ G d = some (.dK (seenD seen)) ∧ G tq = some (.lst (turn.map sV)) ∧
          bfs (ndS r r') (fewT r r') (ptd r r') n seen turn = some o ∧ bfsOk (ndS r r') (fewT r r') (ptd r r') 11000000 n seen turn ∧ i + n = N0 ∧ (∀ t ∈ turn, OverA (fewT r r') t ∧ t.length = i) ∧ ∀ q ∈ seen, ∃ v, OverA (fewT r r') v ∧ ndS r r' v = q ∧ v.length ≤ i) N0
        ⟨0, [], [[]], tq, _, _, _, _, rfl, s1, htq, e1, e2, e3, hb, hbo, by omega, fun t h => by rw [List.mem_singleton.mp h]; exact ⟨fun c h => (by cases h), rfl⟩, fun q h => by cases h⟩ ?_
      clear e1 e2 e3 htq s1 hb hbo
      rintro n σ2 G2 R ⟨i, seen, turn, tq, v5, v6, v7, v8, rfl, s2, htq, e1, e2, e3, hb, hbo, hin, hturn, hseen⟩ hT hF
      obtain ⟨m, rfl⟩ : ∃ m, n = m + 1 := by
        cases n with
        | zero => cases hb
        | succ m => exact ⟨m, rfl⟩
      have hi26 : i ≤ 26 := by omega
      walk_at "rd"
      intro ne hne
      have k1 := same_new (o := HO.lst []) hne
      have okt : ∀ t ∈ turn, ok8 t := fun t ht c hc => by
        have := List.all_eq_true.mp (few_sgn ok ok' (hturn t ht).1) c hc
        simp only [sgn, Bool.or_eq_true, decide_eq_true_eq] at this
        omega
      have tt := wsD_tame okt
      refine ⟨_, dp_ws (.inl (.inl (k1 _ _ e3))), .list [], .lst (.inl (.inl upd_same)) .nil, shaped_of tt (Nat.le_trans (wsD_depth _) (by decide)), by decide, ?_⟩
      rw [show PyData.eqv (wsD turn) (.list []) = decide (turn = []) from eqv_dec tt rfl (wsD_inj (y := []))]
      by_cases e0 : turn = []
      · rw [decide_eq_true e0]
        refine hF _ ?_
        unfold bfs at hb
        rw [if_pos e0] at hb
        exact hN _ _ ⟨(Option.some.inj hb).symm, s2.trans k1⟩
      rw [decide_eq_false e0]
      refine hT _ ?_
      clear hT hF
      have s3 := s2.trans k1
      replace e1 := k1 _ _ e1
      replace e2 := k1 _ _ e2
      replace e3 := k1 _ _ e3
      generalize upd G2 ne (HO.lst []) = G3 at *
      obtain ⟨hbl, hbn⟩ := hbo e0
      refine tseq_split (fun σ' G => ∃ mq, σ' = [some (.ref p), some (.ref p'), some (.ref sg), some (.ref d), some (.ref tq), some (.ref mq), v6, v7, v8] ∧ Same G3 G ∧ G3 mq = none ∧ G mq = some (.lst [])) (fun N2 hN2 => ?_) ?_
      · walk_at "rd"
        intro mq hmq
        exact hN2 _ _ ⟨mq, rfl, same_new hmq, hmq, upd_same⟩
      rintro σ4 G4 ⟨mq, rfl, s4, fmq, emq⟩
      have nmd : mq ≠ d := Ne.symm (ne_of_none e2 fmq)
      have nms : mq ≠ sg := Ne.symm (ne_of_none e1 fmq)
      have nmt : mq ≠ tq := Ne.symm (ne_of_none e3 fmq)
      have ntd : tq ≠ d := ne_of e3 e2 fun z => by cases z
      have nsd : sg ≠ d := ne_of e1 e2 fun z => by cases z
      have hmq := s3.free fmq
      refine tseq_split (fun σ' G => ∃ v6 v7 v8, σ' = [some (.ref p), some (.ref p'), some (.ref sg), some (.ref d), some (.ref tq), some (.ref mq), v6, v7, v8] ∧ Same H G ∧ G sg = some (.lst ((fewT r r').map sgV)) ∧ G d = some (.dK (seenD (level (ndS r r') (fewT r r') seen turn).1)) ∧
          G mq = some (.lst ((level (ndS r r') (fewT r r') seen turn).2.map sV)) ∧ turn.find? (ptd r r') = none) (fun N2 hN2 => ?_) ?_
      · refine tfor_it (J := Itl K tq) (H1 := G4) (n := (turn.map sV).length) (G := fun H => SqL K H tq (turn.map sV)) (fun R hR => ?_) walk_list (fun k σ G => ∃ v6 v7 v8, σ = [some (.ref p), some (.ref p'), some (.ref sg), some (.ref d), some (.ref tq), some (.ref mq), v6, v7, v8] ∧ Same H G ∧ G sg = some (.lst ((fewT r r').map sgV)) ∧ G tq = some (.lst (turn.map sV)) ∧
            G d = some (.dK (seenD ((turn.take k).foldl (expT (ndS r r') (fewT r r')) (seen, [])).1)) ∧ G mq = some (.lst (((turn.take k).foldl (expT (ndS r r') (fewT r r')) (seen, [])).2.map sV)) ∧ ∀ t ∈ turn.take k, ptd r r' t = false)
            ⟨v6, v7, v8, rfl, s3.trans s4, s4 _ _ e1, s4 _ _ e3, s4 _ _ e2, emq, fun t h => by cases h⟩ (fun k σ G _ h => by obtain ⟨_, _, _, _, _, _, h, _⟩ := h; exact .inl (.inl h)) ?_ ?_
        · walk_at "rd"
          exact ⟨⟨_, .inl (.inl (s4 _ _ e3))⟩, hR⟩
        · rintro k x σ G G' hk ⟨w6, w7, w8, rfl, sG, g1, g2, g3, g4, g5⟩ ⟨rfl, hx⟩
          rw [List.getElem?_map] at hx
          obtain ⟨t, ht, rfl⟩ := Option.map_eq_some_iff.mp hx
          have tm := List.mem_of_getElem? ht
          obtain ⟨tO, tl⟩ := hturn t tm
          walk_at "rc"
          have full : turn.take (k + 1) = turn.take k ++ [t] := take_at ht
          have lvl : level (ndS r r') (fewT r r') seen turn = (turn.drop (k + 1)).foldl (expT (ndS r r') (fewT r r')) (expT (ndS r r') (fewT r r') ((turn.take k).foldl (expT (ndS r r') (fewT r r')) (seen, [])) t) := by
            unfold level
            rw [show expT (ndS r r') (fewT r r') ((turn.take k).foldl (expT (ndS r r') (fewT r r')) (seen, [])) t = (turn.take (k + 1)).foldl (expT (ndS r r') (fewT r r')) (seen, []) by rw [full, List.foldl_append]; rfl, ← List.foldl_append, List.take_append_drop]
          have le2 := le_fold (node := ndS r r') (A := fewT r r') (turn.take k) (seen, []) (Nat.zero_le _)
          have lb := (len_level (node := ndS r r') (A := fewT r r') (turn.drop (k + 1)) (expT (ndS r r') (fewT r r') ((turn.take k).foldl (expT (ndS r r') (fewT r r')) (seen, [])) t)).1
          rw [← lvl] at lb
          rw [full, List.foldl_append]
          show tSeq _ _ _ _ _
          generalize hsm : (turn.take k).foldl (expT (ndS r r') (fewT r r')) (seen, []) = sm at *
          refine tseq_split (fun σ' G => ∃ w7 w8, σ' = [some (.ref p), some (.ref p'), some (.ref sg), some (.ref d), some (.ref tq), some (.ref mq), some (sV t), w7, w8] ∧ ptd r r' t = false ∧ Same G' G) (fun N3 hN3 => ?_) ?_
          · walk_at "rd"
            refine ⟨p, dr, r, p', dr', r', t, rfl, sG _ _ h1, sG _ _ h2, ok, ok', by omega, few_sgn ok ok' tO, fun H5 s5 => ?_⟩
            refine ⟨_, rfl, ite2 (fun al => ?_) (fun al => ?_)⟩
            · -- the first parted one
              have pt : ptd r r' t = true := by
                show (!alikeT r r' t) = true
                rw [al]; rfl
              have hf : turn.find? (ptd r r') = some t := by
                rw [show turn = turn.take k ++ t :: turn.drop (k + 1) by rw [← dropx_at ht, List.take_append_drop], List.find?_append, List.find?_eq_none.mpr (fun u hu => by rw [g5 u hu]; decide), List.find?_cons, pt]
                rfl
              unfold bfs at hb
              rw [if_neg e0, hf] at hb
              have := kk _ (sG.trans s5)
              rw [← Option.some.inj hb] at this
              exact this
            · refine hN3 _ _ ⟨_, _, rfl, ?_, s5⟩
              show (!alikeT r r' t) = false
              rw [Bool.not_eq_false] at al
              rw [al]; rfl
          rintro σ6 G6 ⟨w7, w8, rfl, pf, s6⟩
          refine tfor_it (J := Itl K sg) (H1 := G6) (n := ((fewT r r').map sgV).length) (G := fun H => SqL K H sg ((fewT r r').map sgV)) (fun R hR => ?_) walk_list (fun j σ G => ∃ w7 w8, σ = [some (.ref p), some (.ref p'), some (.ref sg), some (.ref d), some (.ref tq), some (.ref mq), some (sV t), w7, w8] ∧ Same H G ∧ G sg = some (.lst ((fewT r r').map sgV)) ∧ G tq = some (.lst (turn.map sV)) ∧
              G d = some (.dK (seenD (((fewT r r').take j).foldl (exp1 (ndS r r') t) sm).1)) ∧ G mq = some (.lst ((((fewT r r').take j).foldl (exp1 (ndS r r') t) sm).2.map sV)))
              ⟨w7, w8, rfl, sG.trans s6, s6 _ _ g1, s6 _ _ g2, s6 _ _ g3, s6 _ _ g4⟩ (fun k σ G _ h => by obtain ⟨_, _, _, _, h, _⟩ := h; exact .inl (.inl h)) ?_ ?_
          · walk_at "rd"
            exact ⟨⟨_, .inl (.inl (s6 _ _ g1))⟩, hR⟩
          · rintro j x σ G G' hj ⟨w7, w8, rfl, sG, g1, g2, g3, g4⟩ ⟨rfl, hx⟩
            rw [List.getElem?_map] at hx
            obtain ⟨c, hc, rfl⟩ := Option.map_eq_some_iff.mp hx
            have cA := List.mem_of_getElem? hc
            have bound : ((((fewT r r').take j).foldl (exp1 (ndS r r') t) sm)).1.length ≤ 11000000 ∧ ((((fewT r r').take j).foldl (exp1 (ndS r r') t) sm)).2.length ≤ ((((fewT r r').take j).foldl (exp1 (ndS r r') t) sm)).1.length := by
              have e : expT (ndS r r') (fewT r r') sm t = ((fewT r r').drop j).foldl (exp1 (ndS r r') t) (((fewT r r').take j).foldl (exp1 (ndS r r') t) sm) := by
                rw [← List.foldl_append, List.take_append_drop]
                rfl
              have b1 := (len_expT (node := ndS r r') t ((fewT r r').drop j) (((fewT r r').take j).foldl (exp1 (ndS r r') t) sm)).1
              rw [← e] at b1
              exact ⟨by omega, le_fold1 (node := ndS r r') t _ _ le2⟩
            rw [show (fewT r r').take (j + 1) = (fewT r r').take j ++ [c] from take_at hc, List.foldl_append]
            generalize (((fewT r r').take j).foldl (exp1 (ndS r r') t) sm) = sj at *
            walk_at "rd"
            have sl : (S t).length + 1 ≤ sizeLine := by
              rw [S_len]
              exact Nat.le_trans (show t.length + 1 ≤ 100 by omega) (by decide)
            refine ⟨S t, rfl, sl, ?_⟩
            rw [S_app]
            have tcO := tO.snoc cA
            refine ⟨p, dr, r, p', dr', r', t ++ [c], rfl, sG _ _ h1, sG _ _ h2, ok, ok', by rw [List.length_append]; simp only [List.length_cons, List.length_nil]; omega, few_sgn ok ok' tcO, fun H7 s7 => ?_⟩
            refine ⟨_, DGet.k (k := .inr (nodeS (nodeA r r' (t ++ [c])))) (s7 _ _ g3), ?_⟩
            rw [seen_val]
            show (if decide (ndS r r' (t ++ [c]) ∈ sj.1) = false then _ else _)
            have ex : [c].foldl (exp1 (ndS r r') t) sj = if ndS r r' (t ++ [c]) ∈ sj.1 then sj else (sj.1 ++ [ndS r r' (t ++ [c])], sj.2 ++ [t ++ [c]]) := rfl
            rw [ex]
            refine ite2 (fun c1 => ?_) (fun c1 => ?_)
            · have c2 := of_decide_eq_false c1
              rw [if_neg c2]
              have f4 : upd H7 d (HO.dK (putK (seenD sj.1) (.inr (nodeS (nodeA r r' (t ++ [c])))) (.bl true))) mq = some (.lst (sj.2.map sV)) := by rw [upd_ne nmd]; exact s7 _ _ g4
              refine ⟨_, DPut.k (k := .inr (nodeS (nodeA r r' (t ++ [c])))) (s7 _ _ g3) (line_11 (by rw [seenD, List.length_map]; exact bound.1)), .inl ⟨rfl, _, .inl (.inl f4)⟩, S t, rfl, sl, _, f4, line_11 (by rw [List.length_map]; omega), Same.mut (Same.mut (sG.trans s7) hd) hmq, ?_, ?_, ?_, by rw [S_app, List.map_append]; rfl⟩
              · rw [upd_ne (Ne.symm nms), upd_ne nsd]; exact s7 _ _ g1
              · rw [upd_ne (Ne.symm nmt), upd_ne ntd]; exact s7 _ _ g2
              · rw [upd_ne (Ne.symm nmd), upd_same]
                exact congrArg (fun l => some (HO.dK l)) (seen_put c2)
            · have c2 : ndS r r' (t ++ [c]) ∈ sj.1 := Classical.byContradiction fun z => c1 (decide_eq_false z)
              rw [if_pos c2]
              exact ⟨sG.trans s7, s7 _ _ g1, s7 _ _ g2, s7 _ _ g3, s7 _ _ g4⟩
          · rintro σ G ⟨w7, w8, rfl, sG, g1, g2, g3, g4⟩
            rw [List.length_map, List.take_length] at g3 g4
            refine ⟨⟨_, _, _, rfl⟩, sG, g1, g2, g3, g4, fun u hu => ?_⟩
            rcases List.mem_append.mp hu with hu | hu
            · exact g5 u hu
            · rw [List.mem_singleton.mp hu]; exact pf
        · rintro σ G ⟨w6, w7, w8, rfl, sG, g1, g2, g3, g4, g5⟩
          rw [List.length_map, List.take_length] at g3 g4 g5
          exact hN2 _ _ ⟨_, _, _, rfl, sG, g1, g3, g4, List.find?_eq_none.mpr fun t ht => by rw [g5 t ht]; decide⟩
      rintro σ5 G5 ⟨w6, w7, w8, rfl, s5, g1, g3, g4, gn⟩
      walk_at "rd"
      obtain ⟨I, _, _, _⟩ := lv_fold (node := ndS r r') (A := fewT r r') turn (seen, []) hturn ⟨fun q hq => (hseen q hq).imp fun v z => ⟨z.1, z.2.1, .inl z.2.2⟩, fun _ z => nomatch z⟩
      unfold bfs at hb
      rw [if_neg e0, gn] at hb
      refine ⟨m, by omega, s5, hmq, g1, i + 1, _, g3, _, g4, hb, hbn gn, by omega, fun t ht => I.m t ht, fun q hq => ?_⟩
      obtain ⟨v, b1, b2, b3⟩ := I.s q hq
      exact ⟨v, b1, b2, b3.elim (fun z => by omega) fun z => by rw [(I.m v z).2]; exact Nat.le_refl _⟩
    rintro σ2 G2 ⟨rfl, s2⟩
    walk_at "rd"
    exact kk _ s2
end
end Qw

set_option Elab.async false
set_option linter.all false
set_option maxRecDepth 100000
set_option maxHeartbeats 4000000
namespace Qw
open PySem L2
local macro_rules | `(tactic| walk_at "rd") => `(tactic| simp only [tMakeBare, tDNewK, tDGet2, iEnumS, tDGet, tDIn, tDNotIn, sDPut, tDNewT, tLstRg, tRg2, iEnum, iRng3, tRevL, rSlS, rSlL, gSub, rSetL, wipe, List.map_cons, List.map_nil, rAll, rAny, rIsi, tM1, tM0, iZipLT, iZip, iRng2, tLenSetS, rListStr, rMulS, rRep, rCntB, tRevS, rNeD, rEqD, tSeq, tNext, tAsg, tRet, tRetN, tDrop, tIfS, sFld, sFldAug, tVar, tC, tOp, tUn, tTest, tB, tAnd, tOr, tNot, tAndV, tOrV, tNotV, tIf, tTup, tLst, tCons, tNil, tCB, tCall, tMeth, tMake, tFld, rI, rI0, rU, rEq, rNe, rCat, gName, gTup, gCons, gNil, tPar, tPar3, tBM, tBM0, rAppend, rExtend, rPopAt, rIxL, rIxT, rIxS, tSl, rSlS, rSlL, tPart, tNoPart, iStr, iTup, iList, iRng1, tAug, ipI, L2.rAdd, L2.rSub, L2.rAddS, tChain, rIsB, rNotB, scal_ss, scal_ii, scal_bb, scal_nn, scal_in, scal_ni, tYes,
  cx_K, cx_N, List.getElem?_cons_zero, List.getElem?_cons_succ, List.set_cons_zero, List.set_cons_succ, List.nil_append, List.cons_append, List.append_nil, List.length_cons, List.length_nil, Nat.zero_add,
  Option.some.injEq, V.ref.injEq, V.int.injEq, V.str.injEq, V.bl.injEq, HO.ins.injEq, HO.lst.injEq, HO.tup.injEq, List.cons.injEq, exists_eq_left, exists_eq_left', exists_eq_right, exists_eq_right', and_true, true_and, exists_and_left, exists_and_right, and_assoc, decide_eq_true_eq, Bool.not_eq_true', decide_eq_false_iff_not, reduceCtorEq, exists_const, forall_const, if_true, if_false, false_and, and_false, ite_true, ite_false, Bool.true_eq_false, Bool.false_eq_true, Nat.reduceLeDiff, Nat.reduceAdd, small_line, small_lt, upd_ne, ne_eq, not_false_eq_true, Nat.zero_le, Prod.mk.injEq, upd_same, upd_upd, S_tl, S_len, S_app, S_one, S_inj,
  lk_breaks, lk_hard, lk_soft, lk_bend, lk_note, lk_rules, lk_state, lk_bent, lk_word, lk_begun, lk_opened, lk_place, pt_state, pt_bent, pt_word, pt_wordS, pt_wordN, pt_begun, pt_opened, pt_place, pt_place1, len_mf, litv_empty, litv_note, litv_nl, mf_inj, rf_inj, lkn_begin, lkn_ended, lkn_plain, lkn_quoted, lkn_step, lkn_fault, lkn_key, lkn_told, lkn_quotes, lkn_special, pt_open1, not_true_eq_false, not_false_eq_true])
local macro_rules | `(tactic| walk_at "rdh") => `(tactic| simp only [tMakeBare, tDNewK, tDGet2, iEnumS, tDGet, tDIn, tDNotIn, sDPut, tDNewT, tLstRg, tRg2, iEnum, iRng3, tRevL, rSlS, rSlL, gSub, rSetL, wipe, List.map_cons, List.map_nil, rAll, rAny, rIsi, tM1, tM0, iZipLT, iZip, iRng2, tLenSetS, rListStr, rMulS, rRep, rCntB, tRevS, rNeD, rEqD, tSeq, tNext, tAsg, tRet, tRetN, tDrop, tIfS, sFld, sFldAug, tVar, tC, tOp, tUn, tTest, tB, tAnd, tOr, tNot, tAndV, tOrV, tNotV, tIf, tTup, tLst, tCons, tNil, tCB, tCall, tMeth, tMake, tFld, rI, rI0, rU, rEq, rNe, rCat, gName, gTup, gCons, gNil, tPar, tPar3, tBM, tBM0, rAppend, rExtend, rPopAt, rIxL, rIxT, rIxS, tSl, rSlS, rSlL, tPart, tNoPart, iStr, iTup, iList, iRng1, tAug, ipI, L2.rAdd, L2.rSub, L2.rAddS, tChain, rIsB, rNotB, scal_ss, scal_ii, scal_bb, scal_nn, scal_in, scal_ni, tYes,
  cx_K, cx_N, List.getElem?_cons_zero, List.getElem?_cons_succ, List.set_cons_zero, List.set_cons_succ, List.nil_append, List.cons_append, List.append_nil, List.length_cons, List.length_nil, Nat.zero_add,
  Option.some.injEq, V.ref.injEq, V.int.injEq, V.str.injEq, V.bl.injEq, HO.ins.injEq, HO.lst.injEq, HO.tup.injEq, List.cons.injEq, exists_eq_left, exists_eq_left', exists_eq_right, exists_eq_right', and_true, true_and, exists_and_left, exists_and_right, and_assoc, decide_eq_true_eq, Bool.not_eq_true', decide_eq_false_iff_not, reduceCtorEq, exists_const, forall_const, if_true, if_false, false_and, and_false, ite_true, ite_false, Bool.true_eq_false, Bool.false_eq_true, Nat.reduceLeDiff, Nat.reduceAdd, small_line, small_lt, upd_ne, ne_eq, not_false_eq_true, Nat.zero_le, Prod.mk.injEq, upd_same, upd_upd, S_tl, S_len, S_app, S_one, S_inj,
  lk_breaks, lk_hard, lk_soft, lk_bend, lk_note, lk_rules, lk_state, lk_bent, lk_word, lk_begun, lk_opened, lk_place, pt_state, pt_bent, pt_word, pt_wordS, pt_wordN, pt_begun, pt_opened, pt_place, pt_place1, len_mf, litv_empty, litv_note, litv_nl, mf_inj, rf_inj, lkn_begin, lkn_ended, lkn_plain, lkn_quoted, lkn_step, lkn_fault, lkn_key, lkn_told, lkn_quotes, lkn_special, pt_open1, not_true_eq_false, not_false_eq_true, *])
local macro_rules | `(tactic| walk_at "pl") => `(tactic| (first | decide | (refine Nat.lt_of_le_of_lt (length_putF _ _ _) ?_; repeat (first | decide | refine pl2 ?_))))
local macro_rules | `(tactic| walk_at "al") => `(tactic| (intro p hp; generalize hH : upd _ p _ = H1; obtain ⟨S, e⟩ := gen_new hH hp; clear hH))
/-! ### compared, and what its answers show -/
section
variable {P : Program} {w : World} {K : PySem.W.Frag} {mg : Str → Option Value} {base : Heap} {a : Ad}
/-- an answer at q -/
def AnsC (a : Ad) (H : Hp) (q : Addr) : Option Tx → Prop
  | none => ∃ dx, H q = some (.ins a.c_Alike dx [])
  | some t => ∃ dx, H q = some (.ins a.c_Parted dx [("text", .str (S t))])
theorem AnsC.same {H H' : Hp} {q : Addr} {o : Option Tx} (h : AnsC a H q o) (s : Same H H') : AnsC a H' q o := by
  cases o with
  | none => obtain ⟨dx, h⟩ := h; exact ⟨dx, s _ _ h⟩
  | some t => obtain ⟨dx, h⟩ := h; exact ⟨dx, s _ _ h⟩
def sp_Parted_init (a : Ad) : Sp := fun vs H Q _ => ∃ p dx t, vs = [.ref p, .str (S t)] ∧ H p = some (.ins a.c_Parted dx []) ∧ ∀ H', H' p = some (.ins a.c_Parted dx [("text", .str (S t))]) → Kp p H H' → Q .non H'
theorem ok_Parted_init (T : Txt K mg a) : FnOk P w K mg base CX0 1 a.f_Parted_init a.d_Parted_init P_Parted_init (sp_Parted_init a) := by
  refine T.F_Parted_init.ok sc_Parted_init (fun vs H Q E h => ?_) (fun cdv A outer s H vs Q E hr h => ?_)
  · obtain ⟨p, dx, t, rfl, _⟩ := h
    rfl
  · obtain ⟨p, dx, t, rfl, hM, k⟩ := h
    refine ⟨_,
(pss_one (ps_fld (pv 0) (pv 1) rfl))
      , ?_⟩
    rw [show start N_Parted_init [V.ref p, V.str (S t)] = [some (.ref p), some (.str (S t))] from rfl]
    have hc := T.c_Parted.cl
    have n1 := T.n_Parted_text
    walk_at "rdh"
    refine ⟨by walk_at "pl", k _ ?_ kp_upd⟩
    rw [upd_same]
    exact congrArg (fun l => some (HO.ins a.c_Parted dx l)) (show _ = [(Str.ofString "text", V.str (S t))] by kernel_rfl)
theorem ty_Rules (T : Txt K mg a) {H : Hp} {p dx : Addr} {fs : List (Str × V)} (h : H p = some (.ins a.c_Rules dx fs)) : TyX K H (.ref p) (.ref a.c_Rules) :=
  .base (.ins h T.c_Rules.cl T.i_Rules.ha T.i_Rules.hn T.i_Rules.ht T.i_Rules.hm)
def sp_compared (a : Ad) : Sp := fun vs H Q _ => ∃ p dr r p' dr' r', vs = [.ref p, .ref p'] ∧ H p = some (.ins a.c_Rules dr (RS.f r)) ∧ H p' = some (.ins a.c_Rules dr' (RS.f r')) ∧ r.Ok ∧ r'.Ok ∧
  ∀ q o H', FirstT r r' o → H q = none → Same H H' → AnsC a H' q o → Q (.ref q) H'
theorem ok_compared (T : Txt K mg a) : FnG P w K mg base 8 a.f_compared a.d_compared P_compared (sp_compared a) := by
  refine fnG_of T.F_compared sc_compared (fun vs H Q E h => ?_) (fun cdv A outer s H vs Q E hfr hr h => ?_)
  · obtain ⟨p, dr, r, p', dr', r', rfl, _⟩ := h
    rfl
  · obtain ⟨p, dr, r, p', dr', r', rfl, h1, h2, ok, ok', k⟩ := h
    have G_first_parted := ok_first_parted (P := P) (w := w) (base := base) T
    have B_first_parted := bi_first_parted T
    have G_Parted_init := ok_Parted_init (P := P) (w := w) (base := base) T
    have B_Parted_init := bi_Parted_init T
    refine ⟨_,
(pss_cons (ps_if (PW.pt (pw_or (pt_not (pt_val (pe_callB (call_isi) (by rfl) T.b_isinstance (by decide +kernel) (pa_cons (pv 0) (pa_cons (pe_glob (v := .ref a.c_Rules) rfl T.c_Rules.g rfl) pa_nil))))) (pw_or1 (pt_not (pt_val (pe_callB (call_isi) (by rfl) T.b_isinstance (by decide +kernel) (pa_cons (pv 1) (pa_cons (pe_glob (v := .ref a.c_Rules) rfl T.c_Rules.g rfl) pa_nil)))))))) (pss_one ps_never) pss_nil)
    (pss_cons (ps_set (i := 2) sc_compared.nd rfl (by first | exact Or.inl rfl | exact Or.inr rfl) (pe_callG G_first_parted hfr (hr.mono (by decide)) rfl T.f_first_parted.g T.f_first_parted.k B_first_parted (pa_cons (pv 0) (pa_cons (pv 1) pa_nil))))
    (pss_one (ps_ret (pe_ifExp (pt_cmpR op_isN (pv 2) pe_non (nomark _)) (pe_makeBare (k := 0) T.c_Alike.mc (hr.mono (by decide)) rfl T.c_Alike.g) (pe_make T.c_Parted.mc G_Parted_init (hr.mono (by decide)) rfl T.c_Parted.g B_Parted_init .nil pass0 (pa_cons (pv 2) pa_nil)))))))
      , ?_⟩
    rw [show start N_compared [V.ref p, V.ref p'] = [some (.ref p), some (.ref p'), none] from rfl]
    have hc := T.c_Parted.cl
    walk_at "rd"
    refine ⟨_, _, .own _, ty_Rules T h1, _, T.k_RR, ite2 (fun z => by cases z) (fun _ => ⟨_, _, .own _, ty_Rules T h2, _, T.k_RR, ite2 (fun z => by cases z) (fun _ => ?_)⟩)⟩
    refine ⟨p, dr, r, p', dr', r', rfl, h1, h2, ok, ok', fun o H1 ft s1 => ?_⟩
    cases o with
    | none =>
      refine ite2 (fun _ q dx hq hdx ne => ?_) (fun z => absurd rfl z)
      exact k q none _ ft (s1.free hq) (s1.trans (Same.made hq hdx (fun _ _ e _ => e))) ⟨dx, upd_same⟩
    | some t =>
      refine ite2 (fun z => by cases z) (fun _ q dx hq hdx ne => ?_)
      refine ⟨q, dx, t, rfl, upd_same, fun H2 e2 k2 => ⟨rfl, ?_⟩⟩
      exact k q (some t) _ ft (s1.free hq) (s1.trans (Same.made hq hdx k2)) ⟨dx, e2⟩
def sp_Alike_shows (a : Ad) : Sp := fun vs H Q _ => ∃ q dx p dr r p' dr' r', vs = [.ref q, .ref p, .ref p'] ∧ H q = some (.ins a.c_Alike dx []) ∧ H p = some (.ins a.c_Rules dr (RS.f r)) ∧ H p' = some (.ins a.c_Rules dr' (RS.f r')) ∧ r.Ok ∧ r'.Ok ∧
  ∀ o H', FirstT r r' o → Same H H' → Q (.bl o.isNone) H'
theorem ok_Alike_shows (T : Txt K mg a) : FnG P w K mg base 8 a.f_Alike_shows a.d_Alike_shows P_Alike_shows (sp_Alike_shows a) := by
  refine fnG_of T.F_Alike_shows sc_Alike_shows (fun vs H Q E h => ?_) (fun cdv A outer s H vs Q E hfr hr h => ?_)
  · obtain ⟨q, dx, p, dr, r, p', dr', r', rfl, _⟩ := h
    rfl
  · obtain ⟨q, dx, p, dr, r, p', dr', r', rfl, h0, h1, h2, ok, ok', k⟩ := h
    have G_first_parted := ok_first_parted (P := P) (w := w) (base := base) T
    have B_first_parted := bi_first_parted T
    refine ⟨_,
(pss_one (ps_ret (pe_cmpR op_isN (pe_callG G_first_parted hfr (hr.mono (by decide)) rfl T.f_first_parted.g T.f_first_parted.k B_first_parted (pa_cons (pv 1) (pa_cons (pv 2) pa_nil))) pe_non (nomark _))))
      , ?_⟩
    rw [show start N_Alike_shows [V.ref q, V.ref p, V.ref p'] = [some (.ref q), some (.ref p), some (.ref p')] from rfl]
    walk_at "rd"
    refine ⟨p, dr, r, p', dr', r', rfl, h1, h2, ok, ok', fun o H1 ft s1 => ?_⟩
    have := k o H1 ft s1
    cases o with
    | none => exact this
    | some t => exact this
def shownC (r r' : RS) (u : Tx) : Option Tx → Bool
  | none => false
  | some t => decide (t.length = u.length) && !alikeT r r' u
def sp_Parted_shows (a : Ad) : Sp := fun vs H Q _ => ∃ q dx u p dr r p' dr' r', vs = [.ref q, .ref p, .ref p'] ∧ H q = some (.ins a.c_Parted dx [("text", .str (S u))]) ∧ H p = some (.ins a.c_Rules dr (RS.f r)) ∧ H p' = some (.ins a.c_Rules dr' (RS.f r')) ∧ r.Ok ∧ r'.Ok ∧ u.length ≤ 1000 ∧ u.all sgn = true ∧
  ∀ o H', FirstT r r' o → Same H H' → Q (.bl (shownC r r' u o)) H'
theorem ok_Parted_shows (T : Txt K mg a) : FnG P w K mg base 8 a.f_Parted_shows a.d_Parted_shows P_Parted_shows (sp_Parted_shows a) := by
  refine fnG_of T.F_Parted_shows sc_Parted_shows (fun vs H Q E h => ?_) (fun cdv A outer s H vs Q E hfr hr h => ?_)
  · obtain ⟨q, dx, u, p, dr, r, p', dr', r', rfl, _⟩ := h
    rfl
  · obtain ⟨q, dx, u, p, dr, r, p', dr', r', rfl, h0, h1, h2, ok, ok', ul, us, k⟩ := h
    have G_first_parted := ok_first_parted (P := P) (w := w) (base := base) T
    have B_first_parted := bi_first_parted T
    have G_read_alike := ok_read_alike (P := P) (w := w) (base := base) T
    have B_read_alike := bi_read_alike T
    refine ⟨_,
(pss_cons (ps_set (i := 3) sc_Parted_shows.nd rfl (by first | exact Or.inl rfl | exact Or.inr rfl) (pe_callG G_first_parted hfr (hr.mono (by decide)) rfl T.f_first_parted.g T.f_first_parted.k B_first_parted (pa_cons (pv 1) (pa_cons (pv 2) pa_nil))))
    (pss_one (ps_ret (pe_and (pe_cmpR op_notN (pv 3) pe_non (nomark _)) (pe_and (pe_cmpR op_eq (pe_callB call_len_str (by rfl) T.b_len PySem.boot_len (pa_cons (pv 3) pa_nil)) (pe_callB call_len_str (by rfl) T.b_len PySem.boot_len (pa_cons (pe_fld (pv 0) rfl) pa_nil)) (nomark _)) (pe_one (pe_not (pe_call G_read_alike (hr.mono (by decide)) rfl T.f_read_alike.g T.f_read_alike.k B_read_alike .nil pass0 (pa_cons (pv 1) (pa_cons (pv 2) (pa_cons (pe_fld (pv 0) rfl) pa_nil)))))))))))
      , ?_⟩
    rw [show start N_Parted_shows [V.ref q, V.ref p, V.ref p'] = [some (.ref q), some (.ref p), some (.ref p'), none] from rfl]
    walk_at "rd"
    refine ⟨p, dr, r, p', dr', r', rfl, h1, h2, ok, ok', fun o H1 ft s1 => ?_⟩
    have k1 := k o H1 ft s1
    cases o with
    | none => exact ite2 (fun z => absurd rfl z) (fun _ => k1)
    | some t =>
      refine ite2 (fun _ => ?_) (fun z => absurd (fun e => by cases e) z)
      have lk : List.lookup (Str.ofString "text") [(Str.ofString "text", V.str (S u))] = some (.str (S u)) := by kernel_rfl
      have hu := s1 _ _ h0
      have tl := ft.1.l
      refine ⟨S t, rfl, by rw [S_len]; exact Nat.le_trans tl (by decide), _, _, _, hu, T.c_Parted.cl, T.n_Parted_text, _, lk, S u, rfl, by rw [S_len]; exact Nat.le_trans ul (by decide), ?_⟩
      rw [S_len, S_len]
      refine ite2 (fun c => ?_) (fun c => ?_)
      · refine ⟨_, _, _, hu, T.c_Parted.cl, T.n_Parted_text, _, lk, p, dr, r, p', dr', r', u, rfl, s1 _ _ h1, s1 _ _ h2, ok, ok', ul, us, fun H2 s2 => ⟨_, rfl, ?_⟩⟩
        have k2 := k (some t) H2 ft (s1.trans s2)
        replace k2 : Q (.bl (decide (t.length = u.length) && !alikeT r r' u)) H2 := k2
        rw [decide_eq_true (show t.length = u.length by omega), Bool.true_and] at k2
        exact k2
      · replace k1 : Q (.bl (decide (t.length = u.length) && !alikeT r r' u)) H1 := k1
        rw [decide_eq_false (show ¬ t.length = u.length by omega), Bool.false_and] at k1
        exact k1
end
end Qw

set_option Elab.async false
set_option linter.all false
set_option maxRecDepth 100000
set_option maxHeartbeats 4000000
namespace Qw
open PySem L2 PyProof.Rows
/-! ### sorted texts; rules that play alike, by sorted texts -/
theorem sorted_unique : ∀ {l m : Tx}, l.Pairwise (· ≤ ·) → m.Pairwise (· ≤ ·) → l.Perm m → l = m
  | [], m, _, _, h => (List.nil_perm.mp h).symm
  | a :: l, [], _, _, h => by have := h.length_eq; simp at this
  | a :: l, b :: m, hl, hm, h => by
    obtain ⟨l1, l2⟩ := List.pairwise_cons.mp hl
    obtain ⟨m1, m2⟩ := List.pairwise_cons.mp hm
    have e : a = b := by
      rcases List.mem_cons.mp (h.mem_iff.mp (List.mem_cons_self (a := a) (l := l))) with e | e
      · exact e
      · rcases List.mem_cons.mp (h.mem_iff.mpr (List.mem_cons_self (a := b) (l := m))) with e' | e'
        · exact e'.symm
        · have h1 := m1 a e
          have h2 := l1 b e'
          omega
    subst e
    rw [sorted_unique l2 m2 h.cons_inv]
abbrev sg1 (c : Nat) : Str := S [c]
theorem rising_sg : ∀ (m : Tx) (p : Nat), risingS (sg1 p) (m.map sg1) = true → (p :: m).Pairwise (· ≤ ·)
  | [], p, _ => by simp
  | x :: m, p, h => by
    have h : (!PySem.Spec.ltCps [x] [p] && risingS (sg1 x) (m.map sg1)) = true := h
    simp only [Bool.and_eq_true, Bool.not_eq_true'] at h
    obtain ⟨h1, h2⟩ := h
    have ih := rising_sg m x h2
    have px : p ≤ x := by
      have : (decide (x < p) || (x == p && PySem.Spec.ltCps [] [])) = false := h1
      simp only [PySem.Spec.ltCps, Bool.and_false, Bool.or_false, decide_eq_false_iff_not] at this
      omega
    refine List.pairwise_cons.mpr ⟨fun y hy => ?_, ih⟩
    rcases List.mem_cons.mp hy with rfl | hy
    · exact px
    · exact Nat.le_trans px ((List.pairwise_cons.mp ih).1 y hy)
theorem sorted_tx {l : Tx} {ys : List Str} (hp : ys.Perm (l.map sg1)) (hs : sortedS ys = true) : ∃ m : Tx, m.Perm l ∧ m.Pairwise (· ≤ ·) ∧ ys = m.map sg1 := by
  have e : ys = (ys.map fun y => y.cps.toList.headD 0).map sg1 := by
    rw [List.map_map]
    have : ∀ y ∈ ys, (sg1 ∘ fun y => y.cps.toList.headD 0) y = y := fun y hy => by
      obtain ⟨c, _, rfl⟩ := List.mem_map.mp (hp.mem_iff.mp hy)
      rfl
    rw [List.map_congr_left this, List.map_id']
  refine ⟨ys.map fun y => y.cps.toList.headD 0, ?_, ?_, e⟩
  · have h := hp.map fun y : Str => y.cps.toList.headD 0
    rw [List.map_map] at h
    have : (l.map ((fun y : Str => y.cps.toList.headD 0) ∘ sg1)) = l := by
      exact (List.map_congr_left (g := id) (fun c _ => rfl)).trans (List.map_id l)
    rw [this] at h
    exact h
  · rw [e] at hs
    generalize (ys.map fun y => y.cps.toList.headD 0) = m at *
    cases m with
    | nil => exact List.Pairwise.nil
    | cons c m => exact rising_sg m c hs
theorem sorted_eq {l l' m m' : Tx} (h1 : m.Perm l) (h2 : m.Pairwise (· ≤ ·)) (h3 : m'.Perm l') (h4 : m'.Pairwise (· ≤ ·)) : m = m' ↔ l.Perm l' :=
  ⟨fun e => h1.symm.trans (e ▸ h3), fun e => sorted_unique h2 h4 (h1.trans (e.trans h3.symm))⟩
theorem few_mem_eq {x y : Tx} (hx : x.length ≤ 1) (hy : y.length ≤ 1) : x = y ↔ ∀ c, c ∈ x ↔ c ∈ y := by
  refine ⟨fun e c => by rw [e], fun h => ?_⟩
  match x, hx, y, hy, h with
  | [], _, [], _, _ => rfl
  | [], _, b :: y, _, h => exact absurd ((h b).mpr (.head _)) (by simp)
  | a :: x, _, [], _, h => exact absurd ((h a).mp (.head _)) (by simp)
  | [a], _, [b], _, h =>
    have := (h a).mp (.head _)
    rw [List.mem_singleton.mp this]
  | _ :: _ :: _, hx, _, _, _ => exact absurd hx (by simp)
  | _, _, _ :: _ :: _, hy, _ => exact absurd hy (by simp)
theorem same_perm {r r' : RS} (ok : r.Ok) (ok' : r'.Ok) : SameR r r' ↔ (r.breaks.Perm r'.breaks ∧ r.bend = r'.bend ∧ r.note = r'.note) ∧ (r.hard ++ r.soft).Perm (r'.hard ++ r'.soft) ∧ (r.bend = [] ∨ r.hard.Perm r'.hard) := by
  have nd : ∀ {r : RS}, r.Ok → r.breaks.Nodup ∧ (r.hard ++ r.soft).Nodup ∧ r.hard.Nodup ∧ r.soft.Nodup ∧ ∀ c, c ∈ r.hard → c ∉ r.soft := fun {r} ok => by
    have h := ok.nd
    rw [RS.every] at h
    simp only [List.nodup_append, List.mem_append] at h
    obtain ⟨k1, ⟨k2, ⟨k3, _, _⟩, k4⟩, _⟩ := h
    refine ⟨k1, ?_, k2, k3, fun c hc hs => k4 c hc c (.inl hs) rfl⟩
    rw [List.nodup_append]
    exact ⟨k2, k3, fun a ha b hb => k4 a ha b (.inl hb)⟩
  obtain ⟨a1, a2, a3, a4, a5⟩ := nd ok
  obtain ⟨b1, b2, b3, b4, b5⟩ := nd ok'
  rw [List.perm_ext_iff_of_nodup a1 b1, List.perm_ext_iff_of_nodup a2 b2, List.perm_ext_iff_of_nodup a3 b3, few_mem_eq ok.l4 ok'.l4, few_mem_eq ok.l5 ok'.l5]
  refine ⟨fun h => ⟨⟨h.br, h.be, h.no⟩, h.qu, ?_⟩, fun ⟨⟨h1, h2, h3⟩, h4, h5⟩ => ⟨h1, h3, h2, h4, fun nb c => ?_⟩⟩
  · by_cases e : r.bend = []
    · exact .inl e
    · refine .inr fun c => ?_
      have q := h.qu c
      have s := h.so e c
      simp only [RS.quotes, List.mem_append] at q
      have n1 := a5 c
      have n2 := b5 c
      exact ⟨fun z => (q.mp (.inl z)).elim id fun w => absurd (s.mpr w) (n1 z), fun z => (q.mpr (.inl z)).elim id fun w => absurd (s.mp w) (n2 z)⟩
  · have h5 := h5.resolve_left nb
    have q := h4 c
    have s := h5 c
    simp only [List.mem_append] at q
    have n1 := a5 c
    have n2 := b5 c
    exact ⟨fun z => (q.mp (.inr z)).elim (fun w => absurd z (n1 (s.mpr w))) id, fun z => (q.mpr (.inr z)).elim (fun w => absurd z (n2 (s.mp w))) id⟩
/-! ### the law's own signs -/
/-- what the law's list of signs holds: all that rules name, the line's end, two that none names -/
structure LawA (r r' : RS) (A : Tx) : Prop where
  le : LE ∈ A
  n1 : ∀ c ∈ r.every, c ∈ A
  n2 : ∀ c ∈ r'.every, c ∈ A
  two : ∃ a ∈ A, ∃ b ∈ A, a ≠ b ∧ cls r r' a = (5, 5, false) ∧ cls r r' b = (5, 5, false)
theorem law_rep {r r' : RS} {A : Tx} (h : LawA r r' A) : RepA r r' A := by
  obtain ⟨a, ha, b, hb, ab, ca, cb⟩ := h.two
  have inA : ∀ c, cls r r' c ≠ (5, 5, false) → c ∈ A := fun c n => by
    by_cases e : c = LE
    · rw [e]; exact h.le
    by_cases q : c ∈ r.every
    · exact h.n1 c q
    by_cases q' : c ∈ r'.every
    · exact h.n2 c q'
    · exact absurd (by simp only [cls, Prod.mk.injEq]; exact ⟨rl_out q, rl_out q', decide_eq_false e⟩) n
  refine ⟨fun c => ?_, fun c d ne e => ?_⟩
  · by_cases q : cls r r' c = (5, 5, false)
    · exact ⟨a, ha, by rw [ca, q]⟩
    · exact ⟨c, inA c q, rfl⟩
  · by_cases q : cls r r' c = (5, 5, false)
    · exact ⟨a, ha, b, hb, ab, by rw [ca, q], by rw [cb, ← e, q]⟩
    · exact ⟨c, inA c q, d, inA d (by rw [← e]; exact q), ne, rfl, rfl⟩
/-- all texts of k signs over A -/
def allT (A : Tx) : Nat → List Tx
  | 0 => [[]]
  | k + 1 => (allT A k).flatMap fun t => A.map fun c => t ++ [c]
theorem allT_mem {A : Tx} : ∀ (k : Nat) (s : Tx), s ∈ allT A k ↔ (∀ c ∈ s, c ∈ A) ∧ s.length = k
  | 0, s => by
    simp only [allT, List.mem_singleton]
    exact ⟨fun e => by rw [e]; exact ⟨fun c h => (by cases h), rfl⟩, fun h => List.length_eq_zero_iff.mp h.2⟩
  | k + 1, s => by
    simp only [allT, List.mem_flatMap, List.mem_map]
    constructor
    · rintro ⟨t, ht, c, hc, rfl⟩
      obtain ⟨h1, h2⟩ := (allT_mem k t).mp ht
      refine ⟨fun d hd => ?_, by simp [h2]⟩
      rcases List.mem_append.mp hd with z | z
      · exact h1 d z
      · rw [List.mem_singleton.mp z]; exact hc
    · rintro ⟨h1, h2⟩
      have ne : s ≠ [] := fun z => by rw [z] at h2; simp at h2
      refine ⟨s.dropLast, (allT_mem k _).mpr ⟨fun c hc => h1 c (List.dropLast_subset s hc), by rw [List.length_dropLast]; omega⟩, s.getLast ne, h1 _ (List.getLast_mem ne), List.dropLast_concat_getLast ne⟩
theorem allT_len (A : Tx) : ∀ k, (allT A k).length = A.length ^ k
  | 0 => rfl
  | k + 1 => by
    rw [allT, List.length_flatMap]
    simp only [List.length_map, List.map_const', List.sum_replicate_nat]
    rw [allT_len A k, Nat.pow_succ]
end Qw

set_option Elab.async false
set_option linter.all false
set_option maxRecDepth 100000
set_option maxHeartbeats 4000000
namespace Qw
open PySem L2
/-! ### the law's own signs, gone through -/
def CD : Tx := [99, 100, 101, 102, 103, 104, 105, 106, 107, 108, 109, 110, 111, 112]
def cntU (nm f : Tx) : Nat := (f.filter fun x => decide (x ∉ nm ++ [LE])).length
def lsStep (nm f : Tx) (c : Nat) : Tx := if c ∉ f ∧ (cntU nm f < 2 ∨ c ∈ nm) then f ++ [c] else f
def lsGo (nm : Tx) (f W : Tx) : Tx := W.foldl (lsStep nm) f
theorem ls_mono {nm f : Tx} {c x : Nat} (h : x ∈ f) : x ∈ lsStep nm f c := by
  unfold lsStep
  split
  · exact List.mem_append_left _ h
  · exact h
theorem lsGo_mono {nm : Tx} : ∀ (W f : Tx) {x : Nat}, x ∈ f → x ∈ lsGo nm f W
  | [], _, _, h => h
  | c :: W, f, _, h => lsGo_mono W (lsStep nm f c) (ls_mono h)
theorem cnt_mono {nm f : Tx} {c : Nat} : cntU nm f ≤ cntU nm (lsStep nm f c) := by
  unfold lsStep
  split
  · unfold cntU
    rw [List.filter_append, List.length_append]
    omega
  · exact Nat.le_refl _
theorem lsGo_cnt {nm : Tx} : ∀ (W f : Tx), cntU nm f ≤ cntU nm (lsGo nm f W)
  | [], _ => Nat.le_refl _
  | c :: W, f => Nat.le_trans cnt_mono (lsGo_cnt W (lsStep nm f c))
theorem lsGo_nm {nm : Tx} : ∀ (W f : Tx), ∀ c ∈ W, c ∈ nm → c ∈ lsGo nm f W
  | [], _, _, h, _ => nomatch h
  | d :: W, f, c, h, hn => by
    rcases List.mem_cons.mp h with rfl | h
    · refine lsGo_mono W _ ?_
      unfold lsStep
      by_cases q : c ∈ f
      · rw [if_neg (fun z => z.1 q)]; exact q
      · rw [if_pos ⟨q, .inr hn⟩]; exact List.mem_append_right _ (.head _)
    · exact lsGo_nm W _ c h hn
theorem lsGo_few {nm : Tx} : ∀ (W f : Tx), cntU nm (lsGo nm f W) < 2 → ∀ c ∈ W, c ∈ lsGo nm f W
  | [], _, _, _, h => nomatch h
  | d :: W, f, hc, c, h => by
    have hf : cntU nm f < 2 := Nat.lt_of_le_of_lt (Nat.le_trans (cnt_mono (c := d)) (lsGo_cnt W (lsStep nm f d))) hc
    rcases List.mem_cons.mp h with rfl | h
    · refine lsGo_mono W _ ?_
      unfold lsStep
      by_cases q : c ∈ f
      · rw [if_neg (fun z => z.1 q)]; exact q
      · rw [if_pos ⟨q, .inl hf⟩]; exact List.mem_append_right _ (.head _)
    · exact lsGo_few W _ hc c h
theorem ls_nd {nm f : Tx} {c : Nat} (h : f.Nodup) : (lsStep nm f c).Nodup := by
  unfold lsStep
  split
  · rename_i q
    rw [List.nodup_append]
    exact ⟨h, by simp, fun a ha b hb e => q.1 (by rw [← List.mem_singleton.mp hb, ← e]; exact ha)⟩
  · exact h
theorem lsGo_nd {nm : Tx} : ∀ (W f : Tx), f.Nodup → (lsGo nm f W).Nodup
  | [], _, h => h
  | c :: W, f, h => lsGo_nd W _ (ls_nd h)
theorem ls_len {nm f : Tx} {c : Nat} : (lsStep nm f c).length ≤ f.length + 1 := by
  unfold lsStep
  split
  · simp
  · omega
theorem lsGo_len {nm : Tx} : ∀ (W f : Tx), (lsGo nm f W).length ≤ f.length + W.length
  | [], _ => Nat.le_refl _
  | c :: W, f => by
    have h1 := lsGo_len (nm := nm) W (lsStep nm f c)
    have h2 := ls_len (nm := nm) (f := f) (c := c)
    show (lsGo nm (lsStep nm f c) W).length ≤ _
    simp only [List.length_cons]
    omega
theorem lsGo_mem {nm : Tx} : ∀ (W f : Tx) (x : Nat), x ∈ lsGo nm f W → x ∈ f ∨ x ∈ W
  | [], _, _, h => .inl h
  | c :: W, f, x, h => by
    rcases lsGo_mem W (lsStep nm f c) x h with h | h
    · unfold lsStep at h
      split at h
      · rcases List.mem_append.mp h with h | h
        · exact .inl h
        · rw [List.mem_singleton.mp h]; exact .inr (.head _)
      · exact .inl h
    · exact .inr (.tail _ h)
def lawA (r r' : RS) : Tx := lsGo (r.every ++ r'.every) [10, 97, 98] (r.every ++ r'.every ++ CD)
theorem lawA_ok {r r' : RS} (ok : r.Ok) (ok' : r'.Ok) (d : Dr r) (d' : Dr r') : LawA r r' (lawA r r') ∧ (lawA r r').length ≤ 40 ∧ (lawA r r').all sgn = true := by
  have inN : ∀ c ∈ r.every ++ r'.every, c ∈ lawA r r' := fun c h => lsGo_nm _ _ c (List.mem_append_left _ h) h
  have le : LE ∈ lawA r r' := lsGo_mono _ _ (.head _)
  have out : ∀ c, c ∉ signs12 → c ∉ (r.every ++ r'.every) := fun c n h => (List.mem_append.mp h).elim (fun z => n (d c z)) (fun z => n (d' c z))
  have cU : ∀ c, c ∈ lawA r r' → c ∉ r.every ++ r'.every ++ [LE] → cls r r' c = (5, 5, false) := fun c _ n => by
    simp only [List.mem_append, not_or, List.mem_singleton] at n
    simp only [cls, Prod.mk.injEq]
    exact ⟨rl_out n.1.1, rl_out n.1.2, decide_eq_false n.2⟩
  have nd : (lawA r r').Nodup := lsGo_nd _ _ (by decide)
  refine ⟨⟨le, fun c h => inN c (List.mem_append_left _ h), fun c h => inN c (List.mem_append_right _ h), ?_⟩, ?_, ?_⟩
  · by_cases q : cntU (r.every ++ r'.every) (lawA r r') < 2
    · have all := lsGo_few _ _ q
      have n99 : (99 : Nat) ∉ r.every ++ r'.every ++ [LE] := fun z => (List.mem_append.mp z).elim (out 99 (by decide)) (by decide)
      have n100 : (100 : Nat) ∉ r.every ++ r'.every ++ [LE] := fun z => (List.mem_append.mp z).elim (out 100 (by decide)) (by decide)
      have m1 : (99 : Nat) ∈ lawA r r' := all 99 (List.mem_append_right _ (.head _))
      have m2 : (100 : Nat) ∈ lawA r r' := all 100 (List.mem_append_right _ (.tail _ (.head _)))
      exact ⟨99, m1, 100, m2, by decide, cU _ m1 n99, cU _ m2 n100⟩
    · have ndf := nd.filter fun x => decide (x ∉ r.every ++ r'.every ++ [LE])
      unfold cntU at q
      match e : (lawA r r').filter fun x => decide (x ∉ r.every ++ r'.every ++ [LE]), q, ndf with
      | [], q, _ => exact absurd (show ([] : Tx).length < 2 by decide) q
      | [x], q, _ => exact absurd (show ([x] : Tx).length < 2 by simp) q
      | a :: b :: l, _, ndf =>
        have ha : a ∈ (lawA r r').filter fun x => decide (x ∉ r.every ++ r'.every ++ [LE]) := by rw [e]; exact .head _
        have hb : b ∈ (lawA r r').filter fun x => decide (x ∉ r.every ++ r'.every ++ [LE]) := by rw [e]; exact .tail _ (.head _)
        obtain ⟨a1, a2⟩ := List.mem_filter.mp ha
        obtain ⟨b1, b2⟩ := List.mem_filter.mp hb
        exact ⟨a, a1, b, b1, fun z => (List.nodup_cons.mp ndf).1 (by rw [z]; exact .head _), cU a a1 (of_decide_eq_true a2), cU b b1 (of_decide_eq_true b2)⟩
  · have h1 := lsGo_len (nm := r.every ++ r'.every) (r.every ++ r'.every ++ CD) [10, 97, 98]
    have h2 := every_len ok
    have h3 := every_len ok'
    have h4 : CD.length = 14 := rfl
    simp only [List.length_append, List.length_cons, List.length_nil] at h1
    unfold lawA
    omega
  · refine List.all_eq_true.mpr fun c hc => ?_
    rcases lsGo_mem _ _ c hc with h | h
    · have : ([10, 97, 98] : Tx).all sgn = true := by decide
      exact List.all_eq_true.mp this c h
    · rcases List.mem_append.mp h with h | h
      · rcases List.mem_append.mp h with h | h
        · exact List.all_eq_true.mp ok.sg c h
        · exact List.all_eq_true.mp ok'.sg c h
      · have : CD.all sgn = true := by decide
        exact List.all_eq_true.mp this c h
end Qw

set_option Elab.async false
set_option linter.all false
set_option maxRecDepth 100000
set_option maxHeartbeats 4000000
namespace Qw
open PySem L2
local macro_rules | `(tactic| walk_at "rd") => `(tactic| simp only [tMakeBare, tDNewK, tDGet2, iEnumS, tDGet, tDIn, tDNotIn, sDPut, tDNewT, tLstRg, tRg2, iEnum, iRng3, tRevL, rSlS, rSlL, gSub, rSetL, wipe, List.map_cons, List.map_nil, rAll, rAny, rIsi, tM1, tM0, iZipLT, iZip, iRng2, tLenSetS, rListStr, rMulS, rRep, rCntB, tRevS, rNeD, rEqD, tSeq, tNext, tAsg, tRet, tRetN, tDrop, tIfS, sFld, sFldAug, tVar, tC, tOp, tUn, tTest, tB, tAnd, tOr, tNot, tAndV, tOrV, tNotV, tIf, tTup, tLst, tCons, tNil, tCB, tCall, tMeth, tMake, tFld, rI, rI0, rU, rEq, rNe, rCat, gName, gTup, gCons, gNil, tPar, tPar3, tBM, tBM0, rAppend, rExtend, rPopAt, rIxL, rIxT, rIxS, tSl, rSlS, rSlL, tPart, tNoPart, iStr, iTup, iList, iRng1, tAug, ipI, L2.rAdd, L2.rSub, L2.rAddS, tChain, rIsB, rNotB, scal_ss, scal_ii, scal_bb, scal_nn, scal_in, scal_ni, tYes,
  cx_K, cx_N, List.getElem?_cons_zero, List.getElem?_cons_succ, List.set_cons_zero, List.set_cons_succ, List.nil_append, List.cons_append, List.append_nil, List.length_cons, List.length_nil, Nat.zero_add,
  Option.some.injEq, V.ref.injEq, V.int.injEq, V.str.injEq, V.bl.injEq, HO.ins.injEq, HO.lst.injEq, HO.tup.injEq, List.cons.injEq, exists_eq_left, exists_eq_left', exists_eq_right, exists_eq_right', and_true, true_and, exists_and_left, exists_and_right, and_assoc, decide_eq_true_eq, Bool.not_eq_true', decide_eq_false_iff_not, reduceCtorEq, exists_const, forall_const, if_true, if_false, false_and, and_false, ite_true, ite_false, Bool.true_eq_false, Bool.false_eq_true, Nat.reduceLeDiff, Nat.reduceAdd, small_line, small_lt, upd_ne, ne_eq, not_false_eq_true, Nat.zero_le, Prod.mk.injEq, upd_same, upd_upd, S_tl, S_len, S_app, S_one, S_inj,
  lk_breaks, lk_hard, lk_soft, lk_bend, lk_note, lk_rules, lk_state, lk_bent, lk_word, lk_begun, lk_opened, lk_place, pt_state, pt_bent, pt_word, pt_wordS, pt_wordN, pt_begun, pt_opened, pt_place, pt_place1, len_mf, litv_empty, litv_note, litv_nl, mf_inj, rf_inj, lkn_begin, lkn_ended, lkn_plain, lkn_quoted, lkn_step, lkn_fault, lkn_key, lkn_told, lkn_quotes, lkn_special, pt_open1, not_true_eq_false, not_false_eq_true])
local macro_rules | `(tactic| walk_at "rdh") => `(tactic| simp only [tMakeBare, tDNewK, tDGet2, iEnumS, tDGet, tDIn, tDNotIn, sDPut, tDNewT, tLstRg, tRg2, iEnum, iRng3, tRevL, rSlS, rSlL, gSub, rSetL, wipe, List.map_cons, List.map_nil, rAll, rAny, rIsi, tM1, tM0, iZipLT, iZip, iRng2, tLenSetS, rListStr, rMulS, rRep, rCntB, tRevS, rNeD, rEqD, tSeq, tNext, tAsg, tRet, tRetN, tDrop, tIfS, sFld, sFldAug, tVar, tC, tOp, tUn, tTest, tB, tAnd, tOr, tNot, tAndV, tOrV, tNotV, tIf, tTup, tLst, tCons, tNil, tCB, tCall, tMeth, tMake, tFld, rI, rI0, rU, rEq, rNe, rCat, gName, gTup, gCons, gNil, tPar, tPar3, tBM, tBM0, rAppend, rExtend, rPopAt, rIxL, rIxT, rIxS, tSl, rSlS, rSlL, tPart, tNoPart, iStr, iTup, iList, iRng1, tAug, ipI, L2.rAdd, L2.rSub, L2.rAddS, tChain, rIsB, rNotB, scal_ss, scal_ii, scal_bb, scal_nn, scal_in, scal_ni, tYes,
  cx_K, cx_N, List.getElem?_cons_zero, List.getElem?_cons_succ, List.set_cons_zero, List.set_cons_succ, List.nil_append, List.cons_append, List.append_nil, List.length_cons, List.length_nil, Nat.zero_add,
  Option.some.injEq, V.ref.injEq, V.int.injEq, V.str.injEq, V.bl.injEq, HO.ins.injEq, HO.lst.injEq, HO.tup.injEq, List.cons.injEq, exists_eq_left, exists_eq_left', exists_eq_right, exists_eq_right', and_true, true_and, exists_and_left, exists_and_right, and_assoc, decide_eq_true_eq, Bool.not_eq_true', decide_eq_false_iff_not, reduceCtorEq, exists_const, forall_const, if_true, if_false, false_and, and_false, ite_true, ite_false, Bool.true_eq_false, Bool.false_eq_true, Nat.reduceLeDiff, Nat.reduceAdd, small_line, small_lt, upd_ne, ne_eq, not_false_eq_true, Nat.zero_le, Prod.mk.injEq, upd_same, upd_upd, S_tl, S_len, S_app, S_one, S_inj,
  lk_breaks, lk_hard, lk_soft, lk_bend, lk_note, lk_rules, lk_state, lk_bent, lk_word, lk_begun, lk_opened, lk_place, pt_state, pt_bent, pt_word, pt_wordS, pt_wordN, pt_begun, pt_opened, pt_place, pt_place1, len_mf, litv_empty, litv_note, litv_nl, mf_inj, rf_inj, lkn_begin, lkn_ended, lkn_plain, lkn_quoted, lkn_step, lkn_fault, lkn_key, lkn_told, lkn_quotes, lkn_special, pt_open1, not_true_eq_false, not_false_eq_true, *])
local macro_rules | `(tactic| walk_at "pl") => `(tactic| (first | decide | (refine Nat.lt_of_le_of_lt (length_putF _ _ _) ?_; repeat (first | decide | refine pl2 ?_))))
local macro_rules | `(tactic| walk_at "al") => `(tactic| (intro p hp; generalize hH : upd _ p _ = H1; obtain ⟨S, e⟩ := gen_new hH hp; clear hH))
local macro_rules | `(tactic| walk_at "rc") => `(tactic| simp only [tDNewK, tDGet2, iEnumS, tDGet, tDIn, tDNotIn, sDPut, tDNewT, tLstRg, tRg2, iEnum, iRng3, tRevL, rSlS, rSlL, gSub, rSetL, wipe, List.map_cons, List.map_nil, rAll, rAny, rIsi, tM1, tM0, iZipLT, iZip, iRng2, tLenSetS, rListStr, rMulS, rRep, rCntB, tRevS, rNeD, rEqD, tNext, tAsg, tRet, tRetN, tDrop, tIfS, sFld, sFldAug, tVar, tC, tOp, tUn, tTest, tB, tAnd, tOr, tNot, tAndV, tOrV, tNotV, tIf, tTup, tLst, tCons, tNil, tCB, tCall, tMeth, tMake, tFld, rI, rI0, rU, rEq, rNe, rCat, gName, gTup, gCons, gNil, tPar, tPar3, tBM, tBM0, rAppend, rExtend, rPopAt, rIxL, rIxT, rIxS, tSl, rSlS, rSlL, tPart, tNoPart, iStr, iTup, iList, iRng1, tAug, ipI, L2.rAdd, L2.rSub, L2.rAddS, tChain, rIsB, rNotB, scal_ss, scal_ii, scal_bb, scal_nn, scal_in, scal_ni, tYes,
  cx_K, cx_N, List.getElem?_cons_zero, List.getElem?_cons_succ, List.set_cons_zero, List.set_cons_succ, List.nil_append, List.cons_append, List.append_nil, List.length_cons, List.length_nil, Nat.zero_add,
  Option.some.injEq, V.ref.injEq, V.int.injEq, V.str.injEq, V.bl.injEq, HO.ins.injEq, HO.lst.injEq, HO.tup.injEq, List.cons.injEq, exists_eq_left, exists_eq_left', exists_eq_right, exists_eq_right', and_true, true_and, exists_and_left, exists_and_right, and_assoc, decide_eq_true_eq, Bool.not_eq_true', decide_eq_false_iff_not, reduceCtorEq, exists_const, forall_const, if_true, if_false, false_and, and_false, ite_true, ite_false, Bool.true_eq_false, Bool.false_eq_true, Nat.reduceLeDiff, Nat.reduceAdd, small_line, small_lt, upd_ne, ne_eq, not_false_eq_true, Nat.zero_le, Prod.mk.injEq, upd_same, upd_upd, S_tl, S_len, S_app, S_one, S_inj,
  lk_breaks, lk_hard, lk_soft, lk_bend, lk_note, lk_rules, lk_state, lk_bent, lk_word, lk_begun, lk_opened, lk_place, pt_state, pt_bent, pt_word, pt_wordS, pt_wordN, pt_begun, pt_opened, pt_place, pt_place1, len_mf, litv_empty, litv_note, litv_nl, mf_inj, rf_inj, lkn_begin, lkn_ended, lkn_plain, lkn_quoted, lkn_step, lkn_fault, lkn_key, lkn_told, lkn_quotes, lkn_special, pt_open1, not_true_eq_false, not_false_eq_true])
/-! ### the law's own looks at two rules -/
theorem pe_joinK {X : Cx} {K : PySem.W.Frag} (h : X.K = K) {o e : Expr} {to te : TE} {apos pos : Pos} (ho : PE X o to) (he : PE X e te) (hs : starEach [e] X.env = [(false, eval e X.env)] := by rfl) (hbase : attributeBase o "join" X.env (eval o X.env) = eval o X.env := by rfl) (hline : (apos.endLine == pos.line) = true := by rfl) :
    PE X (.Call (.Attribute o "join" apos) [e] [] pos) (tM1 (fun x xs H Q => ∃ a p, ∃ ys : List Str, x = .str a ∧ xs = [.ref p] ∧ (SqL K H p (ys.map V.str) ∨ SqT K H p (ys.map V.str)) ∧
      (ys.map (·.length)).sum + ys.length * a.length ≤ 16777216 ∧ Q (.str (Txt.join a ys)) H) to te) := by
  subst h
  exact pe_join ho he hs hbase hline
def sgl (c : Nat) : Tx := [c]
theorem sgs_V (m : Tx) : (m.map sg1).map V.str = (m.map sgl).map sV := by
  rw [List.map_map, List.map_map]
  rfl
theorem sgs_tame {m : Tx} (h : ok8 m) : tame (wsD (m.map sgl)) = true := wsD_tame fun t ht => by
  obtain ⟨c, hc, rfl⟩ := List.mem_map.mp ht
  intro d hd
  rw [List.mem_singleton.mp hd]
  exact h c hc
theorem sgs_inj {m m' : Tx} : wsD (m.map sgl) = wsD (m'.map sgl) ↔ m = m' := by
  rw [wsD_inj]
  exact map_inj fun {x y} => by simp [sgl]
theorem Ok.ok8 {r : RS} (ok : r.Ok) : Qw.ok8 r.breaks ∧ Qw.ok8 r.hard ∧ Qw.ok8 r.soft ∧ Qw.ok8 r.bend ∧ Qw.ok8 r.note := by
  have h := Ok_sgn ok
  simp only [RS.every, List.mem_append] at h
  exact ⟨fun c hc => h c (.inl hc), fun c hc => h c (.inr (.inl hc)), fun c hc => h c (.inr (.inr (.inl hc))), fun c hc => h c (.inr (.inr (.inr (.inl hc)))), fun c hc => h c (.inr (.inr (.inr (.inr hc))))⟩
section
variable {P : Program} {w : World} {K : PySem.W.Frag} {mg : Str → Option Value} {base : Heap} {a : Ad}
def sp_same (K : PySem.W.Frag) : Sp := fun vs H Q _ => ∃ tp tp' r r', vs = [.ref tp, .ref tp'] ∧ H tp = some (.tup (RS.tup r)) ∧ H tp' = some (.tup (RS.tup r')) ∧ r.Ok ∧ r'.Ok ∧ ∀ b H', (b = true ↔ SameR r r') → Same H H' → Q (.bl b) H'
theorem ok__law_same_rules (T : Txt K mg a) : FnOk P w K mg base CX0 1 a.f__law_same_rules a.d__law_same_rules P__law_same_rules (sp_same K) := by
  refine T.F__law_same_rules.ok sc__law_same_rules (fun vs H Q E h => ?_) (fun cdv A outer s H vs Q E hr h => ?_)
  · obtain ⟨tp, tp', r, r', rfl, _⟩ := h
    rfl
  · obtain ⟨tp, tp', r, r', rfl, h1, h2, ok, ok', k⟩ := h
    refine ⟨_,
(pss_cons (ps_if (pt_cmpR (op_neD hr.units) (pe_lst (pa_cons (pe_callB (cr_sortTx rfl) (by rfl) T.b_sorted (by decide +kernel) (pa_cons (pe_ix ix_tup (pv 0) pe_int (fun _ _ => rfl)) pa_nil)) (pa_cons (pe_ix ix_tup (pv 0) pe_int (fun _ _ => rfl)) (pa_cons (pe_ix ix_tup (pv 0) pe_int (fun _ _ => rfl)) pa_nil)))) (pe_lst (pa_cons (pe_callB (cr_sortTx rfl) (by rfl) T.b_sorted (by decide +kernel) (pa_cons (pe_ix ix_tup (pv 1) pe_int (fun _ _ => rfl)) pa_nil)) (pa_cons (pe_ix ix_tup (pv 1) pe_int (fun _ _ => rfl)) (pa_cons (pe_ix ix_tup (pv 1) pe_int (fun _ _ => rfl)) pa_nil)))) (nomark _)) (pss_one (ps_ret pe_bl)) pss_nil)
    (pss_cons (ps_if (pt_cmpR (op_neD hr.units) (pe_callB (cr_sortTx rfl) (by rfl) T.b_sorted (by decide +kernel) (pa_cons (pe_op op_add_str (pe_ix ix_tup (pv 0) pe_int (fun _ _ => rfl)) (pe_ix ix_tup (pv 0) pe_int (fun _ _ => rfl))) pa_nil)) (pe_callB (cr_sortTx rfl) (by rfl) T.b_sorted (by decide +kernel) (pa_cons (pe_op op_add_str (pe_ix ix_tup (pv 1) pe_int (fun _ _ => rfl)) (pe_ix ix_tup (pv 1) pe_int (fun _ _ => rfl))) pa_nil)) (nomark _)) (pss_one (ps_ret pe_bl)) pss_nil)
    (pss_one (ps_ret (pe_or (pe_cmpR op_eq (pe_ix ix_tup (pv 0) pe_int (fun _ _ => rfl)) pe_str (nomark _)) (pe_one (pe_cmpR (op_eqD hr.units) (pe_callB (cr_sortTx rfl) (by rfl) T.b_sorted (by decide +kernel) (pa_cons (pe_ix ix_tup (pv 0) pe_int (fun _ _ => rfl)) pa_nil)) (pe_callB (cr_sortTx rfl) (by rfl) T.b_sorted (by decide +kernel) (pa_cons (pe_ix ix_tup (pv 1) pe_int (fun _ _ => rfl)) pa_nil)) (nomark _))))))))
      , ?_⟩
    rw [show start N__law_same_rules [V.ref tp, V.ref tp'] = [some (.ref tp), some (.ref tp')] from rfl]
    walk_at "rd"
    have l1 := ok.l1; have l2 := ok.l2; have l3 := ok.l3
    have l1' := ok'.l1; have l2' := ok'.l2; have l3' := ok'.l3
    obtain ⟨k1, k2, k3, k4, k5⟩ := Ok.ok8 ok
    obtain ⟨k1', k2', k3', k4', k5'⟩ := Ok.ok8 ok'
    refine ⟨_, .inl (.inl h1), _, atI_nat (j := 0) rfl, r.breaks, rfl, by omega, fun ys p1 hp hs hq1 => ?_⟩
    obtain ⟨m, m1, m2, rfl⟩ := sorted_tx hp hs
    rw [sgs_V]
    obtain ⟨s1, e1⟩ := gen_new (o := HO.lst ((m.map sgl).map sV)) rfl hq1
    generalize upd H p1 (HO.lst ((m.map sgl).map sV)) = H1 at *
    refine ⟨_, .inl (.inl (s1 _ _ h1)), _, atI_nat (j := 3) rfl, _, .inl (.inl (s1 _ _ h1)), _, atI_nat (j := 4) rfl, fun p2 hq2 => ?_⟩
    obtain ⟨s2, e2⟩ := gen_new (o := HO.lst [V.ref p1, V.str (S r.bend), V.str (S r.note)]) rfl hq2
    generalize upd H1 p2 (HO.lst [V.ref p1, V.str (S r.bend), V.str (S r.note)]) = H2 at *
    replace h1 := s2 _ _ (s1 _ _ h1)
    replace h2 := s2 _ _ (s1 _ _ h2)
    refine ⟨_, .inl (.inl h2), _, atI_nat (j := 0) rfl, r'.breaks, rfl, by omega, fun ys p3 hp' hs' hq3 => ?_⟩
    obtain ⟨m', m1', m2', rfl⟩ := sorted_tx hp' hs'
    rw [sgs_V]
    obtain ⟨s3, e3⟩ := gen_new (o := HO.lst ((m'.map sgl).map sV)) rfl hq3
    generalize upd H2 p3 (HO.lst ((m'.map sgl).map sV)) = H3 at *
    refine ⟨_, .inl (.inl (s3 _ _ h2)), _, atI_nat (j := 3) rfl, _, .inl (.inl (s3 _ _ h2)), _, atI_nat (j := 4) rfl, fun p4 hq4 => ?_⟩
    obtain ⟨s4, e4⟩ := gen_new (o := HO.lst [V.ref p3, V.str (S r'.bend), V.str (S r'.note)]) rfl hq4
    generalize upd H3 p4 (HO.lst [V.ref p3, V.str (S r'.bend), V.str (S r'.note)]) = H4 at *
    have s14 := ((s1.trans s2).trans s3).trans s4
    have om : ok8 m := fun c hc => k1 c (m1.mem_iff.mp hc)
    have om' : ok8 m' := fun c hc => k1' c (m1'.mem_iff.mp hc)
    let d1 (m b n : Tx) : PyData := .list [wsD (m.map sgl), .str (S b), .str (S n)]
    have td : ∀ m b n : Tx, ok8 m → ok8 b → ok8 n → tame (d1 m b n) = true := fun m b n x y z => by
      show tame (.list [wsD (m.map sgl), .str (S b), .str (S n)]) = true
      rw [tame, tameAll_iff]
      intro d hd
      simp only [List.mem_cons, List.not_mem_nil, or_false] at hd
      rcases hd with rfl | rfl | rfl
      · exact sgs_tame x
      · exact strOk_S y
      · exact strOk_S z
    have dd : ∀ m b n : Tx, (d1 m b n).depth ≤ 32 := fun m b n => by
      have := wsD_depth (m.map sgl)
      simp only [d1, PyData.depth, PyData.depthAll]
      omega
    refine ⟨d1 m r.bend r.note, .lst (.inl (.inl (s4 _ _ (s3 _ _ e2)))) (.cons (dp_ws (.inl (.inl (s4 _ _ (s3 _ _ (s2 _ _ e1)))))) (.cons (.str _) (.cons (.str _) .nil))), d1 m' r'.bend r'.note, .lst (.inl (.inl e4)) (.cons (dp_ws (.inl (.inl (s4 _ _ e3)))) (.cons (.str _) (.cons (.str _) .nil))), shaped_of (td _ _ _ om k4 k5) (dd _ _ _), shaped_of (td _ _ _ om' k4' k5') (dd _ _ _), ?_⟩
    rw [eqv_dec (p := r.breaks.Perm r'.breaks ∧ r.bend = r'.bend ∧ r.note = r'.note) (td _ _ _ om k4 k5) (td _ _ _ om' k4' k5') (by
      simp only [d1, PyData.list.injEq, List.cons.injEq, and_true, S_inj', sgs_inj, sorted_eq m1 m2 m1' m2'])]
    replace h1 := s4 _ _ (s3 _ _ h1)
    replace h2 := s4 _ _ (s3 _ _ h2)
    have sp := same_perm ok ok'
    refine ite2 (fun c => ?_) (fun c => ?_)
    · exact k false _ ⟨fun z => (by cases z), fun z => absurd (sp.mp z).1 (of_decide_eq_false c)⟩ s14
    have q1 : r.breaks.Perm r'.breaks ∧ r.bend = r'.bend ∧ r.note = r'.note := Classical.byContradiction fun z => c (decide_eq_false z)
    clear e1 e2 e3 e4
    refine ⟨_, .inl (.inl h1), _, atI_nat (j := 1) rfl, _, .inl (.inl h1), _, atI_nat (j := 2) rfl, _, rfl, _, rfl, by rw [S_len, S_len]; exact Nat.le_trans (show _ ≤ 4 by omega) (by decide), r.hard ++ r.soft, by rw [S_app], by rw [List.length_append]; omega, fun ys p5 hp5 hs5 hq5 => ?_⟩
    obtain ⟨u, u1, u2, rfl⟩ := sorted_tx hp5 hs5
    rw [sgs_V]
    obtain ⟨s5, e5⟩ := gen_new (o := HO.lst ((u.map sgl).map sV)) rfl hq5
    generalize upd H4 p5 (HO.lst ((u.map sgl).map sV)) = H5 at *
    refine ⟨_, .inl (.inl (s5 _ _ h2)), _, atI_nat (j := 1) rfl, _, .inl (.inl (s5 _ _ h2)), _, atI_nat (j := 2) rfl, _, rfl, _, rfl, by rw [S_len, S_len]; exact Nat.le_trans (show _ ≤ 4 by omega) (by decide), r'.hard ++ r'.soft, by rw [S_app], by rw [List.length_append]; omega, fun ys p6 hp6 hs6 hq6 => ?_⟩
    obtain ⟨u', u1', u2', rfl⟩ := sorted_tx hp6 hs6
    rw [sgs_V]
    obtain ⟨s6, e6⟩ := gen_new (o := HO.lst ((u'.map sgl).map sV)) rfl hq6
    generalize upd H5 p6 (HO.lst ((u'.map sgl).map sV)) = H6 at *
    have ou : ok8 u := fun c hc => (List.mem_append.mp (u1.mem_iff.mp hc)).elim (k2 c) (k3 c)
    have ou' : ok8 u' := fun c hc => (List.mem_append.mp (u1'.mem_iff.mp hc)).elim (k2' c) (k3' c)
    have wd : ∀ ws : List Tx, (wsD ws).depth ≤ 32 := fun ws => Nat.le_trans (wsD_depth ws) (by decide)
    refine ⟨_, dp_ws (.inl (.inl (s6 _ _ e5))), _, dp_ws (.inl (.inl e6)), shaped_of (sgs_tame ou) (wd _), shaped_of (sgs_tame ou') (wd _), ?_⟩
    rw [eqv_dec (p := (r.hard ++ r.soft).Perm (r'.hard ++ r'.soft)) (sgs_tame ou) (sgs_tame ou') (by rw [sgs_inj, sorted_eq u1 u2 u1' u2'])]
    have s16 := (s14.trans s5).trans s6
    replace h1 := s6 _ _ (s5 _ _ h1)
    replace h2 := s6 _ _ (s5 _ _ h2)
    refine ite2 (fun c => ?_) (fun c => ?_)
    · exact k false _ ⟨fun z => (by cases z), fun z => absurd (sp.mp z).2.1 (of_decide_eq_false c)⟩ s16
    have q2 : (r.hard ++ r.soft).Perm (r'.hard ++ r'.soft) := Classical.byContradiction fun z => c (decide_eq_false z)
    refine ⟨_, .inl (.inl h1), _, atI_nat (j := 3) rfl, ?_⟩
    refine ⟨rfl, ite2 (fun c => ?_) (fun c => ?_)⟩
    · have e : r.bend = [] := S_inj.mp (V.str.inj c)
      exact k true _ ⟨fun _ => sp.mpr ⟨q1, q2, .inl e⟩, fun _ => rfl⟩ s16
    have nb : ¬ r.bend = [] := fun z => c (by rw [z])
    refine ⟨_, .inl (.inl h1), _, atI_nat (j := 1) rfl, r.hard, rfl, by omega, fun ys p7 hp7 hs7 hq7 => ?_⟩
    obtain ⟨x, x1, x2, rfl⟩ := sorted_tx hp7 hs7
    rw [sgs_V]
    obtain ⟨s7, e7⟩ := gen_new (o := HO.lst ((x.map sgl).map sV)) rfl hq7
    generalize upd H6 p7 (HO.lst ((x.map sgl).map sV)) = H7 at *
    refine ⟨_, .inl (.inl (s7 _ _ h2)), _, atI_nat (j := 1) rfl, r'.hard, rfl, by omega, fun ys p8 hp8 hs8 hq8 => ?_⟩
    obtain ⟨x', x1', x2', rfl⟩ := sorted_tx hp8 hs8
    rw [sgs_V]
    obtain ⟨s8, e8⟩ := gen_new (o := HO.lst ((x'.map sgl).map sV)) rfl hq8
    generalize upd H7 p8 (HO.lst ((x'.map sgl).map sV)) = H8 at *
    have ox : ok8 x := fun c hc => k2 c (x1.mem_iff.mp hc)
    have ox' : ok8 x' := fun c hc => k2' c (x1'.mem_iff.mp hc)
    refine ⟨_, dp_ws (.inl (.inl (s8 _ _ e7))), _, dp_ws (.inl (.inl e8)), shaped_of (sgs_tame ox) (wd _), shaped_of (sgs_tame ox') (wd _), ?_⟩
    rw [eqv_dec (p := r.hard.Perm r'.hard) (sgs_tame ox) (sgs_tame ox') (by rw [sgs_inj, sorted_eq x1 x2 x1' x2'])]
    refine k _ _ ⟨fun z => sp.mpr ⟨q1, q2, .inr (of_decide_eq_true z)⟩, fun z => decide_eq_true ((sp.mp z).2.2.resolve_left nb)⟩ ((s16.trans s7).trans s8)
def sp_lalike (K : PySem.W.Frag) : Sp := fun vs H Q _ => ∃ tp tp' r r' t, vs = [.ref tp, .ref tp', .str (S t)] ∧ H tp = some (.tup (RS.tup r)) ∧ H tp' = some (.tup (RS.tup r')) ∧ r.Ok ∧ r'.Ok ∧ t.length ≤ 1000 ∧ t.all sgn = true ∧ ∀ H', Same H H' → Q (.bl (alikeT r r' t)) H'
theorem ok__law_alike (T : Txt K mg a) : FnOk P w K mg base CX0 4 a.f__law_alike a.d__law_alike P__law_alike (sp_lalike K) := by
  refine T.F__law_alike.ok sc__law_alike (fun vs H Q E h => ?_) (fun cdv A outer s H vs Q E hr h => ?_)
  · obtain ⟨tp, tp', r, r', t, rfl, _⟩ := h
    rfl
  · obtain ⟨tp, tp', r, r', t, rfl, h1, h2, ok, ok', hl, hs, k⟩ := h
    have G__law_read := ok__law_read (P := P) (w := w) (base := base) T
    have B__law_read := bi__law_read T
    refine ⟨_,
(pss_cons (ps_par (i := 3) (j := 4) (by rfl) sc__law_alike.nd rfl rfl (by decide) rfl rfl (pa_cons (pe_call G__law_read (hr.mono (by decide)) rfl T.f__law_read.g T.f__law_read.k B__law_read .nil pass0 (pa_cons (pv 0) (pa_cons (pv 2) pa_nil))) (pa_cons (pe_call G__law_read (hr.mono (by decide)) rfl T.f__law_read.g T.f__law_read.k B__law_read .nil pass0 (pa_cons (pv 1) (pa_cons (pv 2) pa_nil))) pa_nil)) (by rfl))
    (pss_cons (ps_if (PW.pt (pw_or (pt_not (pt_val (pe_callB (call_isi) (by rfl) T.b_isinstance (by decide +kernel) (pa_cons (pv 3) (pa_cons (pe_bltn (v := .ty "tuple") (u := .type "tuple") rfl T.b_tuple (by decide +kernel) rfl) pa_nil))))) (pw_or1 (pt_not (pt_val (pe_callB (call_isi) (by rfl) T.b_isinstance (by decide +kernel) (pa_cons (pv 4) (pa_cons (pe_bltn (v := .ty "tuple") (u := .type "tuple") rfl T.b_tuple (by decide +kernel) rfl) pa_nil)))))))) (pss_one (ps_ret (pe_and (pe_not (pe_callB (call_isi) (by rfl) T.b_isinstance (by decide +kernel) (pa_cons (pv 3) (pa_cons (pe_bltn (v := .ty "tuple") (u := .type "tuple") rfl T.b_tuple (by decide +kernel) rfl) pa_nil)))) (pe_one (pe_not (pe_callB (call_isi) (by rfl) T.b_isinstance (by decide +kernel) (pa_cons (pv 4) (pa_cons (pe_bltn (v := .ty "tuple") (u := .type "tuple") rfl T.b_tuple (by decide +kernel) rfl) pa_nil)))))))) pss_nil)
    (pss_one (ps_ret (pe_cmpR (op_eqD hr.units) (pe_ix ix_tup (pv 3) pe_int (fun _ _ => rfl)) (pe_ix ix_tup (pv 4) pe_int (fun _ _ => rfl)) (nomark _))))))
      , ?_⟩
    rw [show start N__law_alike [V.ref tp, V.ref tp', V.str (S t)] = [some (.ref tp), some (.ref tp'), some (.str (S t)), none, none] from rfl]
    walk_at "rd"
    have same : ∀ {H : Hp} {q : Addr} {xs : List V}, H q = some (.tup xs) → TyX K H (.ref q) (.type "tuple") := fun e => .base (.tup e)
    have bd : ∀ {r : RS} {ds : List W3}, r.Ok → lr r t (t.length + 1) 0 [] = .ok ds → ds.length ≤ 1100 ∧ tame (wsD (ds.map (·.1))) = true := fun {r ds} ok e => by
      have e : readAll r t 0 = .ok ds := (readAll_lr ok t 0).trans e
      have hb := readAll_bd r t 0
      rw [e] at hb
      refine ⟨by have := hb.1; omega, wsD_tame fun x hx => ?_⟩
      obtain ⟨d, hd, rfl⟩ := List.mem_map.mp hx
      exact fun c hc => ok8_of hs c ((hb.2 d hd).1 c hc)
    rw [← alike_read r r' t 0 0, readAll_lr ok, readAll_lr ok'] at k
    refine ⟨tp, r, t, rfl, h1, ok, by omega, fun v1 F1 s1 a1 => ?_⟩
    refine ⟨tp', r', t, rfl, s1 _ _ h2, ok', by omega, fun v2 F2 s2 a2 => ?_⟩
    have kt : PySem.W.kitOne K (.type "tuple") (.type "tuple") = some true := kit_ty (b := "tuple") (r := true) (by decide +kernel)
    have ki : PySem.W.kitOne K (.type "int") (.type "tuple") = some false := kit_ty (b := "tuple") (r := false) (by decide +kernel)
    cases e1 : lr r t (t.length + 1) 0 [] with
    | error m =>
      rw [e1] at a1 k
      cases a1
      cases e2 : lr r' t (t.length + 1) 0 [] with
      | error m' =>
        rw [e2] at a2 k
        cases a2
        exact ⟨_, _, .ty _, .base (.int _), _, ki, ite2 (fun _ => ⟨_, _, .ty _, .base (.int _), _, ki, ite2 (fun _ => ⟨_, _, .ty _, .base (.int _), _, ki, k _ (s1.trans s2)⟩) (fun z => absurd rfl z)⟩) (fun z => absurd rfl z)⟩
      | ok ds' =>
        rw [e2] at a2 k
        obtain ⟨p2, l2, _, _, rfl, _, _, _, _, b1, _⟩ := a2
        exact ⟨_, _, .ty _, .base (.int _), _, ki, ite2 (fun _ => ⟨_, _, .ty _, .base (.int _), _, ki, ite2 (fun _ => ⟨_, _, .ty _, .base (.tup b1), _, kt, k _ (s1.trans s2)⟩) (fun z => absurd rfl z)⟩) (fun z => absurd rfl z)⟩
    | ok ds =>
      rw [e1] at a1 k
      obtain ⟨p1, l1, _, _, rfl, _, _, _, _, b1, b2, _⟩ := a1
      replace b1 := s2 _ _ b1
      replace b2 := s2 _ _ b2
      cases e2 : lr r' t (t.length + 1) 0 [] with
      | error m' =>
        rw [e2] at a2 k
        cases a2
        exact ⟨_, _, .ty _, .base (.tup b1), _, kt, ite2 (fun z => by cases z) (fun _ => ⟨_, _, .ty _, .base (.int _), _, ki, ite2 (fun _ => ⟨_, _, .ty _, .base (.tup b1), _, kt, ite2 (fun z => by cases z) (fun _ => k _ (s1.trans s2))⟩) (fun z => absurd rfl z)⟩)⟩
      | ok ds' =>
        rw [e2] at a2 k
        obtain ⟨p2, l2, _, _, rfl, _, _, _, _, c1, c2, _⟩ := a2
        obtain ⟨d1, t1⟩ := bd ok e1
        obtain ⟨d2, t2⟩ := bd ok' e2
        have dep : ∀ ws : List Tx, (wsD ws).depth ≤ 32 := fun ws => Nat.le_trans (wsD_depth ws) (by decide)
        refine ⟨_, _, .ty _, .base (.tup b1), _, kt, ite2 (fun z => by cases z) (fun _ => ⟨_, _, .ty _, .base (.tup c1), _, kt, ite2 (fun z => by cases z) (fun _ => ?_)⟩)⟩
        refine ⟨p1, rfl, _, .inl (.inl b1), _, atI_nat (j := 0) rfl, p2, rfl, _, .inl (.inl c1), _, atI_nat (j := 0) rfl, _, dp_ws (.inl (.inl b2)), _, dp_ws (.inl (.inl c2)), shaped_of t1 (dep _), shaped_of t2 (dep _), ?_⟩
        rw [eqv_dec (p := ds.map (·.1) = ds'.map (·.1)) t1 t2 wsD_inj]
        exact k _ (s1.trans s2)
def sp_lsigns (K : PySem.W.Frag) : Sp := fun vs H Q _ => ∃ tp tp' r r', vs = [.ref tp, .ref tp'] ∧ H tp = some (.tup (RS.tup r)) ∧ H tp' = some (.tup (RS.tup r')) ∧ r.Ok ∧ r'.Ok ∧ Dr r ∧ Dr r' ∧ ∀ A H', LawA r r' A → A.length ≤ 40 → A.all sgn = true → Same H H' → Q (.str (S A)) H'
theorem ok__law_signs (T : Txt K mg a) : FnOk P w K mg base CX0 1 a.f__law_signs a.d__law_signs P__law_signs (sp_lsigns K) := by
  refine T.F__law_signs.ok sc__law_signs (fun vs H Q E h => ?_) (fun cdv A outer s H vs Q E hr h => ?_)
  · obtain ⟨tp, tp', r, r', rfl, _⟩ := h
    rfl
  · obtain ⟨tp, tp', r, r', rfl, h1, h2, ok, ok', dr, dr', k⟩ := h
    refine ⟨_,
(pss_cons (ps_set (i := 2) sc__law_signs.nd rfl (by first | exact Or.inl rfl | exact Or.inr rfl) pe_str)
    (pss_cons (ps_for PassesOwn.never rfl (pi_str (pe_op op_add_str (pe_op op_add_str (pe_join pe_str (pv 0)) (pe_join pe_str (pv 1))) pe_str)) (pg_name (i := 3) sc__law_signs.nd rfl (by first | exact Or.inl rfl | exact Or.inr rfl))
    (pss_cons (ps_set (i := 4) sc__law_signs.nd rfl (by first | exact Or.inl rfl | exact Or.inr rfl) (pe_cmpR op_lt (pe_callB call_len_seq (by rfl) T.b_len PySem.boot_len (pa_cons (pe_lc (own := [("_law_late", 5)]) (g := gName 5) rfl sc__law_signs.nd (pi_str (pv 2)) (blkOk_by (own := [("_law_late", 5)]) (N := N__law_signs) (sc := defScope st__law_signs) (by decide +kernel)) (fun _ _ _ _ _ => (pg_name (i := 5) sc__law_signs.nd rfl (by first | exact Or.inl rfl | exact Or.inr rfl))) (fun _ _ _ _ _ => (pts_one (pt_cmpR op_notIn_sign (pv 5) (pe_op op_add_str (pe_op op_add_str (pe_joinK (K := K) rfl pe_str (pv 0)) (pe_joinK (K := K) rfl pe_str (pv 1))) pe_str) rfl))) (fun _ _ _ _ _ => (pv 5))) pa_nil)) pe_int (nomark _)))
    (pss_one (ps_if (PW.pt (pw_and (pt_cmpR op_notIn_sign (pv 3) (pv 2) rfl) (pw_and1 (PW.pt (pw_or (pt_val (pv 4)) (pw_or1 (pt_cmpR op_in_sign (pv 3) (pe_op op_add_str (pe_join pe_str (pv 0)) (pe_join pe_str (pv 1))) rfl))))))) (pss_one (ps_set (i := 2) sc__law_signs.nd rfl (by first | exact Or.inl rfl | exact Or.inr rfl) (pe_op op_add_str (pv 2) (pv 3)))) pss_nil))))
    (pss_one (ps_ret (pv 2)))))
      , ?_⟩
    rw [show start N__law_signs [V.ref tp, V.ref tp'] = [some (.ref tp), some (.ref tp'), none, none, none, none] from rfl]
    obtain ⟨la1, la2, la3⟩ := lawA_ok ok ok' dr dr'
    have l1 := every_len ok
    have l2 := every_len ok'
    have jn : ∀ (r : RS) (H : Hp) (tp : Addr), H tp = some (.tup (RS.tup r)) → r.every.length ≤ 10 → ∃ ys : List Str, (SqL K H tp (ys.map V.str) ∨ SqT K H tp (ys.map V.str)) ∧ (ys.map (·.length)).sum + ys.length * 0 ≤ 16777216 ∧ Txt.join (S []) ys = S r.every := fun r H tp h hl => by
      refine ⟨[r.breaks, r.hard, r.soft, r.bend, r.note].map S, .inr (.inl (.inl h)), ?_, ?_⟩
      · simp only [RS.every, List.length_append] at hl
        simp only [List.map_cons, List.map_nil, List.sum_cons, List.sum_nil, S_len, List.length_cons, List.length_nil]
        omega
      · rw [join_flat]
        simp [RS.every]
    obtain ⟨ys, y1, y2, y3⟩ := jn r H tp h1 l1
    obtain ⟨zs, z1, z2, z3⟩ := jn r' H tp' h2 l2
    refine tseq_split (fun σ' G => σ' = [some (.ref tp), some (.ref tp'), some (.str (S [10, 97, 98])), none, none, none] ∧ G = H) (fun N hN => ?_) ?_
    · walk_at "rd"
      refine hN _ _ ⟨?_, rfl⟩
      rw [show Str.ofString "\nab" = S [10, 97, 98] by decide +kernel]
    rintro σ1 G1 ⟨rfl, rfl⟩
    refine tseq_split (fun σ' G => ∃ v3 v4 v5, σ' = [some (.ref tp), some (.ref tp'), some (.str (S (lawA r r'))), v3, v4, v5] ∧ Same G1 G) (fun N hN => ?_) ?_
    · refine tfor_all (ι := Unit) (C := fun _ => True) (J := fun _ => Its (S (r.every ++ r'.every ++ CD))) (H1 := fun _ => G1) (fun R hR => ?_) fun _ _ => ?_
      · walk_at "rd"
        refine ⟨⟨_, rfl⟩, ys, y1, y2, ⟨_, rfl⟩, zs, z1, z2, ?_⟩
        rw [y3, z3, show Str.ofString "cdefghijklmnop" = S CD by decide +kernel, S_app, S_app, S_len, S_len, S_len, S_len, List.length_append]
        have h4 : CD.length = 14 := rfl
        exact ⟨Nat.le_trans (show _ ≤ 20 by omega) (by decide), Nat.le_trans (show _ ≤ 40 by omega) (by decide), hR () trivial⟩
      refine for_it (walk_text (t := r.every ++ r'.every ++ CD)) (fun i σ G => ∃ v3 v4 v5, σ = [some (.ref tp), some (.ref tp'), some (.str (S (lsGo (r.every ++ r'.every) [10, 97, 98] ((r.every ++ r'.every ++ CD).take i)))), v3, v4, v5] ∧ Same G1 G) ⟨none, none, none, rfl, Same.refl _⟩ (fun _ _ _ _ _ => trivial) ?_ ?_
      · rintro i x σ G G' hi ⟨v3, v4, v5, rfl, sG⟩ ⟨rfl, c, hc, rfl⟩
        have fl : (lsGo (r.every ++ r'.every) [10, 97, 98] ((r.every ++ r'.every ++ CD).take i)).length ≤ 100 := by
          have h1 := lsGo_len (nm := r.every ++ r'.every) ((r.every ++ r'.every ++ CD).take i) [10, 97, 98]
          have h2 := List.length_take_le i (r.every ++ r'.every ++ CD)
          have h4 : CD.length = 14 := rfl
          have h5 : (r.every ++ r'.every ++ CD).length ≤ 34 := by
            rw [List.length_append, List.length_append]; omega
          simp only [List.length_cons, List.length_nil] at h1
          rw [List.length_take] at h1
          omega
        rw [show (r.every ++ r'.every ++ CD).take (i + 1) = (r.every ++ r'.every ++ CD).take i ++ [c] from take_at hc]
        rw [show lsGo (r.every ++ r'.every) [10, 97, 98] ((r.every ++ r'.every ++ CD).take i ++ [c]) = lsStep (r.every ++ r'.every) (lsGo (r.every ++ r'.every) [10, 97, 98] ((r.every ++ r'.every ++ CD).take i)) c by unfold lsGo; rw [List.foldl_append]; rfl]
        generalize lsGo (r.every ++ r'.every) [10, 97, 98] ((r.every ++ r'.every ++ CD).take i) = f at *
        refine tseq_split (fun σ' G => ∃ v5, σ' = [some (.ref tp), some (.ref tp'), some (.str (S f)), some (.str (S [c])), some (.bl (decide (cntU (r.every ++ r'.every) f < 2))), v5] ∧ Same G1 G) (fun N2 hN2 => ?_) ?_
        · walk_at "rd"
          have t1 := sG _ _ h1
          have t2 := sG _ _ h2
          refine tlc_all (ι := Unit) (C := fun _ => True) (J := fun _ => Its (S f)) (H1 := fun _ => G') (fun R hR => ?_) fun _ _ D hD => ?_
          · walk_at "rd"
            exact hR () trivial
          refine lc_filtS f (fun x => decide (x ∉ r.every ++ r'.every ++ [LE])) sgV walk_text (by omega) hD (fun H s => trivial) ?_ ?_
          · rintro R R' j d x G3 G4 hj g ⟨rfl, c', hc', rfl⟩ hk1 hk2
            rw [hj] at hc'
            cases hc'
            obtain ⟨ys, y1, y2, y3⟩ := jn r G4 tp (g _ _ t1) l1
            obtain ⟨zs, z1, z2, z3⟩ := jn r' G4 tp' (g _ _ t2) l2
            walk_at "rd"
            refine ⟨⟨_, rfl⟩, ys, y1, y2, ⟨_, rfl⟩, zs, z1, z2, ?_⟩
            rw [y3, z3, S_app, S_app, S_tl, S_len, S_len, S_len, List.length_append]
            exact ⟨Nat.le_trans (show _ ≤ 20 by omega) (by decide), Nat.le_trans (show _ ≤ 21 by omega) (by decide), ite2 (fun c1 => hk1 _ (Same.refl _) (decide_eq_true c1)) (fun c1 => hk2 _ (Same.refl _) (decide_eq_false c1))⟩
          · intro G s e
            refine ⟨D, rfl, _, .inl (.inl (.inl e)), hN2 _ _ ⟨v5, ?_, sG.trans s⟩⟩
            rw [List.length_map]
            have : decide (((f.filter fun x => decide (x ∉ r.every ++ r'.every ++ [LE])).length : Int) < 2) = decide (cntU (r.every ++ r'.every) f < 2) := decide_eq_decide.mpr (by unfold cntU; omega)
            rw [this]
        rintro σ2 G2 ⟨v5, rfl, s2⟩
        walk_at "rd"
        have t1 := s2 _ _ h1
        have t2 := s2 _ _ h2
        obtain ⟨ys, y1, y2, y3⟩ := jn r G2 tp t1 l1
        obtain ⟨zs, z1, z2, z3⟩ := jn r' G2 tp' t2 l2
        have sf : f.length + 1 ≤ sizeLine := Nat.le_trans (show f.length + 1 ≤ 101 by omega) (by decide)
        unfold lsStep
        refine ite2 (fun c1 => ?_) (fun c1 => ?_)
        · refine ite2 (fun c2 => ?_) (fun c2 => ?_)
          · rw [if_pos ⟨c1, .inl c2⟩]
            exact ⟨sf, rfl, s2⟩
          · refine ⟨⟨_, rfl⟩, ys, y1, y2, ⟨_, rfl⟩, zs, z1, z2, ?_⟩
            rw [y3, z3, S_app, S_tl, S_len, S_len]
            refine ⟨Nat.le_trans (show _ ≤ 20 by omega) (by decide), ite2 (fun c3 => ?_) (fun c3 => ?_)⟩
            · rw [if_pos ⟨c1, .inr c3⟩]
              exact ⟨sf, rfl, s2⟩
            · rw [if_neg (fun z => z.2.elim c2 c3)]
              exact ⟨rfl, s2⟩
        · rw [if_neg (fun z => c1 z.1)]
          exact ⟨rfl, s2⟩
      · rintro σ G ⟨v3, v4, v5, rfl, sG⟩
        rw [List.take_length] at *
        exact hN _ _ ⟨_, _, _, rfl, sG⟩
    rintro σ2 G2 ⟨v3, v4, v5, rfl, s2⟩
    walk_at "rd"
    exact k _ _ la1 la2 la3 s2
end
end Qw

set_option Elab.async false
set_option linter.all false
set_option maxRecDepth 100000
set_option maxHeartbeats 4000000
namespace Qw
open PySem L2
local macro_rules | `(tactic| walk_at "rd") => `(tactic| simp only [tOrT, tMakeBare, tDNewK, tDGet2, iEnumS, tDGet, tDIn, tDNotIn, sDPut, tDNewT, tLstRg, tRg2, iEnum, iRng3, tRevL, rSlS, rSlL, gSub, rSetL, wipe, List.map_cons, List.map_nil, rAll, rAny, rIsi, tM1, tM0, iZipLT, iZip, iRng2, tLenSetS, rListStr, rMulS, rRep, rCntB, tRevS, rNeD, rEqD, tSeq, tNext, tAsg, tRet, tRetN, tDrop, tIfS, sFld, sFldAug, tVar, tC, tOp, tUn, tTest, tB, tAnd, tOr, tNot, tAndV, tOrV, tNotV, tIf, tTup, tLst, tCons, tNil, tCB, tCall, tMeth, tMake, tFld, rI, rI0, rU, rEq, rNe, rCat, gName, gTup, gCons, gNil, tPar, tPar3, tBM, tBM0, rAppend, rExtend, rPopAt, rIxL, rIxT, rIxS, tSl, rSlS, rSlL, tPart, tNoPart, iStr, iTup, iList, iRng1, tAug, ipI, L2.rAdd, L2.rSub, L2.rAddS, tChain, rIsB, rNotB, scal_ss, scal_ii, scal_bb, scal_nn, scal_in, scal_ni, tYes,
  cx_K, cx_N, List.getElem?_cons_zero, List.getElem?_cons_succ, List.set_cons_zero, List.set_cons_succ, List.nil_append, List.cons_append, List.append_nil, List.length_cons, List.length_nil, Nat.zero_add,
  Option.some.injEq, V.ref.injEq, V.int.injEq, V.str.injEq, V.bl.injEq, HO.ins.injEq, HO.lst.injEq, HO.tup.injEq, List.cons.injEq, exists_eq_left, exists_eq_left', exists_eq_right, exists_eq_right', and_true, true_and, exists_and_left, exists_and_right, and_assoc, decide_eq_true_eq, Bool.not_eq_true', decide_eq_false_iff_not, reduceCtorEq, exists_const, forall_const, if_true, if_false, false_and, and_false, ite_true, ite_false, Bool.true_eq_false, Bool.false_eq_true, Nat.reduceLeDiff, Nat.reduceAdd, small_line, small_lt, upd_ne, ne_eq, not_false_eq_true, Nat.zero_le, Prod.mk.injEq, upd_same, upd_upd, S_tl, S_len, S_app, S_one, S_inj,
  lk_breaks, lk_hard, lk_soft, lk_bend, lk_note, lk_rules, lk_state, lk_bent, lk_word, lk_begun, lk_opened, lk_place, pt_state, pt_bent, pt_word, pt_wordS, pt_wordN, pt_begun, pt_opened, pt_place, pt_place1, len_mf, litv_empty, litv_note, litv_nl, mf_inj, rf_inj, lkn_begin, lkn_ended, lkn_plain, lkn_quoted, lkn_step, lkn_fault, lkn_key, lkn_told, lkn_quotes, lkn_special, pt_open1, not_true_eq_false, not_false_eq_true])
local macro_rules | `(tactic| walk_at "rdh") => `(tactic| simp only [tOrT, tMakeBare, tDNewK, tDGet2, iEnumS, tDGet, tDIn, tDNotIn, sDPut, tDNewT, tLstRg, tRg2, iEnum, iRng3, tRevL, rSlS, rSlL, gSub, rSetL, wipe, List.map_cons, List.map_nil, rAll, rAny, rIsi, tM1, tM0, iZipLT, iZip, iRng2, tLenSetS, rListStr, rMulS, rRep, rCntB, tRevS, rNeD, rEqD, tSeq, tNext, tAsg, tRet, tRetN, tDrop, tIfS, sFld, sFldAug, tVar, tC, tOp, tUn, tTest, tB, tAnd, tOr, tNot, tAndV, tOrV, tNotV, tIf, tTup, tLst, tCons, tNil, tCB, tCall, tMeth, tMake, tFld, rI, rI0, rU, rEq, rNe, rCat, gName, gTup, gCons, gNil, tPar, tPar3, tBM, tBM0, rAppend, rExtend, rPopAt, rIxL, rIxT, rIxS, tSl, rSlS, rSlL, tPart, tNoPart, iStr, iTup, iList, iRng1, tAug, ipI, L2.rAdd, L2.rSub, L2.rAddS, tChain, rIsB, rNotB, scal_ss, scal_ii, scal_bb, scal_nn, scal_in, scal_ni, tYes,
  cx_K, cx_N, List.getElem?_cons_zero, List.getElem?_cons_succ, List.set_cons_zero, List.set_cons_succ, List.nil_append, List.cons_append, List.append_nil, List.length_cons, List.length_nil, Nat.zero_add,
  Option.some.injEq, V.ref.injEq, V.int.injEq, V.str.injEq, V.bl.injEq, HO.ins.injEq, HO.lst.injEq, HO.tup.injEq, List.cons.injEq, exists_eq_left, exists_eq_left', exists_eq_right, exists_eq_right', and_true, true_and, exists_and_left, exists_and_right, and_assoc, decide_eq_true_eq, Bool.not_eq_true', decide_eq_false_iff_not, reduceCtorEq, exists_const, forall_const, if_true, if_false, false_and, and_false, ite_true, ite_false, Bool.true_eq_false, Bool.false_eq_true, Nat.reduceLeDiff, Nat.reduceAdd, small_line, small_lt, upd_ne, ne_eq, not_false_eq_true, Nat.zero_le, Prod.mk.injEq, upd_same, upd_upd, S_tl, S_len, S_app, S_one, S_inj,
  lk_breaks, lk_hard, lk_soft, lk_bend, lk_note, lk_rules, lk_state, lk_bent, lk_word, lk_begun, lk_opened, lk_place, pt_state, pt_bent, pt_word, pt_wordS, pt_wordN, pt_begun, pt_opened, pt_place, pt_place1, len_mf, litv_empty, litv_note, litv_nl, mf_inj, rf_inj, lkn_begin, lkn_ended, lkn_plain, lkn_quoted, lkn_step, lkn_fault, lkn_key, lkn_told, lkn_quotes, lkn_special, pt_open1, not_true_eq_false, not_false_eq_true, *])
local macro_rules | `(tactic| walk_at "pl") => `(tactic| (first | decide | (refine Nat.lt_of_le_of_lt (length_putF _ _ _) ?_; repeat (first | decide | refine pl2 ?_))))
local macro_rules | `(tactic| walk_at "al") => `(tactic| (intro p hp; generalize hH : upd _ p _ = H1; obtain ⟨S, e⟩ := gen_new hH hp; clear hH))
local macro_rules | `(tactic| walk_at "rc") => `(tactic| simp only [tDNewK, tDGet2, iEnumS, tDGet, tDIn, tDNotIn, sDPut, tDNewT, tLstRg, tRg2, iEnum, iRng3, tRevL, rSlS, rSlL, gSub, rSetL, wipe, List.map_cons, List.map_nil, rAll, rAny, rIsi, tM1, tM0, iZipLT, iZip, iRng2, tLenSetS, rListStr, rMulS, rRep, rCntB, tRevS, rNeD, rEqD, tNext, tAsg, tRet, tRetN, tDrop, tIfS, sFld, sFldAug, tVar, tC, tOp, tUn, tTest, tB, tAnd, tOr, tNot, tAndV, tOrV, tNotV, tIf, tTup, tLst, tCons, tNil, tCB, tCall, tMeth, tMake, tFld, rI, rI0, rU, rEq, rNe, rCat, gName, gTup, gCons, gNil, tPar, tPar3, tBM, tBM0, rAppend, rExtend, rPopAt, rIxL, rIxT, rIxS, tSl, rSlS, rSlL, tPart, tNoPart, iStr, iTup, iList, iRng1, tAug, ipI, L2.rAdd, L2.rSub, L2.rAddS, tChain, rIsB, rNotB, scal_ss, scal_ii, scal_bb, scal_nn, scal_in, scal_ni, tYes,
  cx_K, cx_N, List.getElem?_cons_zero, List.getElem?_cons_succ, List.set_cons_zero, List.set_cons_succ, List.nil_append, List.cons_append, List.append_nil, List.length_cons, List.length_nil, Nat.zero_add,
  Option.some.injEq, V.ref.injEq, V.int.injEq, V.str.injEq, V.bl.injEq, HO.ins.injEq, HO.lst.injEq, HO.tup.injEq, List.cons.injEq, exists_eq_left, exists_eq_left', exists_eq_right, exists_eq_right', and_true, true_and, exists_and_left, exists_and_right, and_assoc, decide_eq_true_eq, Bool.not_eq_true', decide_eq_false_iff_not, reduceCtorEq, exists_const, forall_const, if_true, if_false, false_and, and_false, ite_true, ite_false, Bool.true_eq_false, Bool.false_eq_true, Nat.reduceLeDiff, Nat.reduceAdd, small_line, small_lt, upd_ne, ne_eq, not_false_eq_true, Nat.zero_le, Prod.mk.injEq, upd_same, upd_upd, S_tl, S_len, S_app, S_one, S_inj,
  lk_breaks, lk_hard, lk_soft, lk_bend, lk_note, lk_rules, lk_state, lk_bent, lk_word, lk_begun, lk_opened, lk_place, pt_state, pt_bent, pt_word, pt_wordS, pt_wordN, pt_begun, pt_opened, pt_place, pt_place1, len_mf, litv_empty, litv_note, litv_nl, mf_inj, rf_inj, lkn_begin, lkn_ended, lkn_plain, lkn_quoted, lkn_step, lkn_fault, lkn_key, lkn_told, lkn_quotes, lkn_special, pt_open1, not_true_eq_false, not_false_eq_true])
/-! ### the law's own search of shorter texts -/
section
variable {P : Program} {w : World} {K : PySem.W.Frag} {mg : Str → Option Value} {base : Heap} {a : Ad}
def sp_shorter (K : PySem.W.Frag) : Sp := fun vs H Q _ => ∃ tp tp' r r' n, vs = [.ref tp, .ref tp', .int (n : Nat)] ∧ H tp = some (.tup (RS.tup r)) ∧ H tp' = some (.tup (RS.tup r')) ∧ r.Ok ∧ r'.Ok ∧ Dr r ∧ Dr r' ∧ n ≤ 4 ∧
  ∀ b H', (b = true ↔ ∃ s : Tx, s.length < n ∧ alikeT r r' s = false) → Same H H' → Q (.bl b) H'
theorem ok__law_shorter (T : Txt K mg a) : FnOk P w K mg base CX0 5 a.f__law_shorter a.d__law_shorter P__law_shorter (sp_shorter K) := by
  refine T.F__law_shorter.ok sc__law_shorter (fun vs H Q E h => ?_) (fun cdv A outer s H vs Q E hr h => ?_)
  · obtain ⟨tp, tp', r, r', n, rfl, _⟩ := h
    rfl
  · obtain ⟨tp, tp', r, r', n, rfl, h1, h2, ok, ok', dr, dr', hn, k⟩ := h
    have G__law_signs := ok__law_signs (P := P) (w := w) (base := base) T
    have B__law_signs := bi__law_signs T
    have G__law_alike := ok__law_alike (P := P) (w := w) (base := base) T
    have B__law_alike := bi__law_alike T
    refine ⟨_,
(pss_cons (ps_par (i := 3) (j := 4) (by rfl) sc__law_shorter.nd rfl rfl (by decide) rfl rfl (pa_cons (pe_call G__law_signs (hr.mono (by decide)) rfl T.f__law_signs.g T.f__law_signs.k B__law_signs .nil pass0 (pa_cons (pv 0) (pa_cons (pv 1) pa_nil))) (pa_cons (pe_lst (pa_cons pe_str pa_nil)) pa_nil)) (by rfl))
    (pss_cons (ps_for PassesOwn.never rfl (pi_range1 rfl T.b_range (pa_cons (pv 2) pa_nil)) (pg_name (i := 5) sc__law_shorter.nd rfl (by first | exact Or.inl rfl | exact Or.inr rfl))
    (pss_cons (ps_if (pt_val (pe_callB (cr_any rfl) (by rfl) T.b_any (by decide +kernel) (pa_cons (pe_lc (own := [("_law_text_here", 6)]) (g := gName 6) (tt := tYes) rfl sc__law_shorter.nd (pi_list (pv 4)) (blkOk_by (own := [("_law_text_here", 6)]) (N := N__law_shorter) (sc := defScope st__law_shorter) (by decide +kernel)) (fun _ _ _ _ _ => (pg_name (i := 6) sc__law_shorter.nd rfl (by first | exact Or.inl rfl | exact Or.inr rfl))) (fun _ _ _ _ _ => pts_nil) (fun _ _ _ _ _ => (pe_not (pe_call G__law_alike (hr.mono (by decide)) rfl T.f__law_alike.g T.f__law_alike.k B__law_alike .nil pass0 (pa_cons (pv 0) (pa_cons (pv 1) (pa_cons (pv 6) pa_nil))))))) pa_nil))) (pss_one (ps_ret pe_bl)) pss_nil)
    (pss_cons (ps_set (i := 7) sc__law_shorter.nd rfl (by first | exact Or.inl rfl | exact Or.inr rfl) (pe_lst pa_nil))
    (pss_cons (ps_if (pt_cmpR op_lt (pe_op op_add (pv 5) pe_int) (pv 2) (nomark _)) (pss_one (ps_for PassesOwn.never rfl (pi_list (pv 4)) (pg_name (i := 6) sc__law_shorter.nd rfl (by first | exact Or.inl rfl | exact Or.inr rfl))
    (pss_one (ps_set (i := 7) sc__law_shorter.nd rfl (by first | exact Or.inl rfl | exact Or.inr rfl) (pe_op op_cat (pv 7) (pe_lc (own := [("_law_sign", 8)]) (g := gName 8) (tt := tYes) rfl sc__law_shorter.nd (pi_str (pv 3)) (blkOk_by (own := [("_law_sign", 8)]) (N := N__law_shorter) (sc := defScope st__law_shorter) (by decide +kernel)) (fun _ _ _ _ _ => (pg_name (i := 8) sc__law_shorter.nd rfl (by first | exact Or.inl rfl | exact Or.inr rfl))) (fun _ _ _ _ _ => pts_nil) (fun _ _ _ _ _ => (pe_op op_add_str (pv 6) (pv 8))))))))) pss_nil)
    (pss_one (ps_set (i := 4) sc__law_shorter.nd rfl (by first | exact Or.inl rfl | exact Or.inr rfl) (pv 7)))))))
    (pss_one (ps_ret pe_bl))))
      , ?_⟩
    rw [show start N__law_shorter [V.ref tp, V.ref tp', V.int (n : Nat)] = [some (.ref tp), some (.ref tp'), some (.int (n : Nat)), none, none, none, none, none, none] from rfl]
    refine tseq_split (fun σ' G => ∃ A tq, σ' = [some (.ref tp), some (.ref tp'), some (.int (n : Nat)), some (.str (S A)), some (.ref tq), none, none, none, none] ∧ LawA r r' A ∧ A.length ≤ 40 ∧ A.all sgn = true ∧ Same H G ∧ G tq = some (.lst [sV []])) (fun N hN => ?_) ?_
    · walk_at "rd"
      refine ⟨tp, tp', r, r', rfl, h1, h2, ok, ok', dr, dr', fun A G1 a1 a2 a3 s1 tq htq => ?_⟩
      refine hN _ _ ⟨A, tq, rfl, a1, a2, a3, s1.trans (same_new htq), upd_same⟩
    rintro σ1 G1 ⟨A, tq, rfl, a1, a2, a3, s1, e1⟩
    have over : ∀ (i : Nat) (s : Tx), s ∈ allT A i → s.all sgn = true ∧ s.length = i := fun i s hs => by
      obtain ⟨b1, b2⟩ := (allT_mem i s).mp hs
      exact ⟨List.all_eq_true.mpr fun c hc => List.all_eq_true.mp a3 c (b1 c hc), b2⟩
    have size : ∀ i, i ≤ 3 → (allT A i).length ≤ 64000 := fun i hi => by
      rw [allT_len]
      have h1 : A.length ^ i ≤ 40 ^ i := Nat.pow_le_pow_left a2 i
      have h2 : (40 : Nat) ^ i ≤ 40 ^ 3 := Nat.pow_le_pow_right (by decide) hi
      omega
    have low := less_in ok ok' (law_rep a1) hn
    refine tseq_split (fun _ G => Same H G ∧ ∀ s : Tx, (∀ c ∈ s, c ∈ A) → s.length < n → alikeT r r' s = true) (fun N hN => ?_) ?_
    · refine tfor_it (J := Itr 0 n) (H1 := G1) (n := n) (fun R hR => ?_) walk_range (fun i σ G => ∃ tq v5 v6 v7 v8, σ = [some (.ref tp), some (.ref tp'), some (.int (n : Nat)), some (.str (S A)), some (.ref tq), v5, v6, v7, v8] ∧ Same H G ∧ (i < n → G tq = some (.lst ((allT A i).map sV))) ∧ ∀ s : Tx, (∀ c ∈ s, c ∈ A) → s.length < i → alikeT r r' s = true)
        ⟨tq, _, _, _, _, rfl, s1, fun _ => e1, fun s _ h => by omega⟩ (fun _ _ _ _ _ => trivial) ?_ ?_
      · walk_at "rd"
        exact ⟨by omega, by omega, hR⟩
      · rintro i x σ G G' hi ⟨tq, v5, v6, v7, v8, rfl, sG, e2, low2⟩ ⟨rfl, rfl⟩
        have e2 := e2 hi
        have ht1 := sG _ _ h1
        have ht2 := sG _ _ h2
        have sz := size i (by omega)
        refine tseq_split (fun σ' G => σ' = [some (.ref tp), some (.ref tp'), some (.int (n : Nat)), some (.str (S A)), some (.ref tq), some (.int (i : Nat)), v6, v7, v8] ∧ Same G' G ∧ ∀ s ∈ allT A i, alikeT r r' s = true) (fun N2 hN2 => ?_) ?_
        · walk_at "rd"
          refine tlc_map (allT A i) (fun t => .bl (!alikeT r r' t)) (J := Itl K tq) (H1 := G') (G := fun H => SqL K H tq ((allT A i).map sV)) (fun R hR => ?_) (List.length_map (as := allT A i) sV ▸ walk_list) (by omega) (fun H s => .inl (.inl (s _ _ e2))) ?_ ?_
          · walk_at "rd"
            exact ⟨⟨_, .inl (.inl e2)⟩, hR⟩
          · rintro R R' j t x F1 F2 hj g ⟨rfl, hx⟩ hR
            rw [List.getElem?_map, hj] at hx
            cases hx
            obtain ⟨o1, o2⟩ := over i t (List.mem_of_getElem? hj)
            walk_at "rd"
            exact ⟨tp, tp', r, r', t, rfl, g _ _ ht1, g _ _ ht2, ok, ok', by omega, o1, fun F3 s3 => ⟨_, rfl, hR _ s3⟩⟩
          intro D F hD sF eD
          walk_at "rd"
          refine ⟨(allT A i).map fun t => !alikeT r r' t, .inl (.inl (by rw [List.map_map]; exact eD)), ite2 (fun c => ?_) (fun c => ?_)⟩
          · refine k true _ ⟨fun _ => ?_, fun _ => rfl⟩ (sG.trans sF)
            rw [List.any_eq_true] at c
            obtain ⟨b, hb, hb2⟩ := c
            obtain ⟨s, hs, rfl⟩ := List.mem_map.mp hb
            have hb3 : alikeT r r' s = false := by simpa using hb2
            exact ⟨s, by rw [(over i s hs).2]; exact hi, hb3⟩
          · refine hN2 _ _ ⟨by rw [Int.zero_add], sF, fun s hs => ?_⟩
            cases q : alikeT r r' s with
            | true => rfl
            | false =>
              exfalso
              apply c
              rw [List.any_eq_true]
              exact ⟨true, List.mem_map.mpr ⟨s, hs, by rw [q]; rfl⟩, rfl⟩
        rintro σ2 G2 ⟨rfl, s2, now⟩
        refine tseq_split (fun σ' G => ∃ lq, σ' = [some (.ref tp), some (.ref tp'), some (.int (n : Nat)), some (.str (S A)), some (.ref tq), some (.int (i : Nat)), v6, some (.ref lq), v8] ∧ Same G2 G ∧ G lq = some (.lst [])) (fun N2 hN2 => ?_) ?_
        · walk_at "rd"
          intro lq hlq
          exact hN2 _ _ ⟨lq, rfl, same_new hlq, upd_same⟩
        rintro σ3 G3 ⟨lq, rfl, s3, e3⟩
        refine tseq_split (fun σ' G => ∃ lq v6 v8, σ' = [some (.ref tp), some (.ref tp'), some (.int (n : Nat)), some (.str (S A)), some (.ref tq), some (.int (i : Nat)), v6, some (.ref lq), v8] ∧ Same G3 G ∧ (i + 1 < n → G lq = some (.lst ((allT A (i + 1)).map sV)))) (fun N2 hN2 => ?_) ?_
        · walk_at "rc"
          refine ite2 (fun c => ?_) (fun c => hN2 _ _ ⟨lq, v6, v8, rfl, Same.refl _, fun z => absurd (show (i : Int) + 1 < (n : Nat) by omega) c⟩)
          have e2' := s3 _ _ (s2 _ _ e2)
          have sz2 := size (i + 1) (by omega)
          refine tfor_it (J := Itl K tq) (H1 := G3) (n := ((allT A i).map sV).length) (G := fun H => SqL K H tq ((allT A i).map sV)) (fun R hR => ?_) walk_list (fun k σ G => ∃ lq v6 v8, σ = [some (.ref tp), some (.ref tp'), some (.int (n : Nat)), some (.str (S A)), some (.ref tq), some (.int (i : Nat)), v6, some (.ref lq), v8] ∧ Same G3 G ∧ G lq = some (.lst ((((allT A i).take k).flatMap fun t => A.map fun c => t ++ [c]).map sV)))
            ⟨lq, v6, v8, rfl, Same.refl _, e3⟩ (fun k σ G _ h => by obtain ⟨_, _, _, _, h, _⟩ := h; exact .inl (.inl (h _ _ e2'))) ?_ ?_
          · walk_at "rd"
            exact ⟨⟨_, .inl (.inl e2')⟩, hR⟩
          · rintro j x σ G G' hj ⟨lq, v6, v8, rfl, sG3, e5⟩ ⟨rfl, hx⟩
            rw [List.getElem?_map] at hx
            obtain ⟨t, ht, rfl⟩ := Option.map_eq_some_iff.mp hx
            obtain ⟨o1, o2⟩ := over i t (List.mem_of_getElem? ht)
            have lj : (((allT A i).take j).flatMap fun t => A.map fun c => t ++ [c]).length + A.length ≤ 64000 := by
              have h1 : (allT A (i + 1)).length = (((allT A i).take j).flatMap fun t => A.map fun c => t ++ [c]).length + (((allT A i).drop j).flatMap fun t => A.map fun c => t ++ [c]).length := by
                rw [← List.length_append, ← List.flatMap_append, List.take_append_drop]
                rfl
              rw [dropx_at ht, List.flatMap_cons, List.length_append, List.length_map] at h1
              omega
            walk_at "rd"
            refine tlc_map A (fun c => sV (t ++ [c])) (J := Its (S A)) (H1 := G') (fun R hR => ?_) walk_text (by omega) (fun _ _ => trivial) ?_ ?_
            · walk_at "rd"
              exact hR
            · rintro R R' m c x F1 F2 hm g ⟨rfl, c', hc', rfl⟩ hR
              rw [hm] at hc'
              cases hc'
              walk_at "rd"
              refine ⟨S t, rfl, by rw [S_len]; exact Nat.le_trans (show t.length + 1 ≤ 10 by omega) (by decide), ?_⟩
              rw [S_app]
              exact hR _ (Same.refl _)
            intro D F hD sF eD
            walk_at "rd"
            refine ⟨_, sF _ _ e5, _, eD, ?_, fun lq2 hq2 => ⟨(sG3.trans sF).trans (same_new hq2), ?_⟩⟩
            · rw [List.length_map, List.length_map]
              exact Nat.le_trans lj (by decide)
            · rw [take_at ht, List.flatMap_append, List.flatMap_cons, List.flatMap_nil, List.append_nil, List.map_append, List.map_map (l := A)]
              rfl
          · rintro σ G ⟨lq, v6, v8, rfl, sG3, e5⟩
            rw [List.length_map, List.take_length] at e5
            exact hN2 _ _ ⟨lq, _, _, rfl, sG3, fun _ => e5⟩
        rintro σ4 G4 ⟨lq', w6, w8, rfl, s4, e4⟩
        walk_at "rd"
        refine ⟨((sG.trans s2).trans s3).trans s4, e4, fun s hs hl => ?_⟩
        by_cases q : s.length < i
        · exact low2 s hs q
        · exact now s ((allT_mem i s).mpr ⟨hs, by omega⟩)
      · rintro σ G ⟨_, _, _, _, _, rfl, sG, _, low2⟩
        exact hN _ _ ⟨sG, low2⟩
    rintro σ2 G2 ⟨s2, none_⟩
    walk_at "rd"
    refine k false _ ⟨fun z => (by cases z), fun z => ?_⟩ s2
    obtain ⟨s, b1, b2, b3⟩ := low.mpr z
    rw [none_ s b1 b2] at b3
    cases b3
end
end Qw

set_option Elab.async false
set_option linter.all false
set_option maxRecDepth 100000
set_option maxHeartbeats 4000000
namespace Qw
open PySem L2
local macro_rules | `(tactic| walk_at "rd") => `(tactic| simp only [tOrT, tMakeBare, tDNewK, tDGet2, iEnumS, tDGet, tDIn, tDNotIn, sDPut, tDNewT, tLstRg, tRg2, iEnum, iRng3, tRevL, rSlS, rSlL, gSub, rSetL, wipe, List.map_cons, List.map_nil, rAll, rAny, rIsi, tM1, tM0, iZipLT, iZip, iRng2, tLenSetS, rListStr, rMulS, rRep, rCntB, tRevS, rNeD, rEqD, tSeq, tNext, tAsg, tRet, tRetN, tDrop, tIfS, sFld, sFldAug, tVar, tC, tOp, tUn, tTest, tB, tAnd, tOr, tNot, tAndV, tOrV, tNotV, tIf, tTup, tLst, tCons, tNil, tCB, tCall, tMeth, tMake, tFld, rI, rI0, rU, rEq, rNe, rCat, gName, gTup, gCons, gNil, tPar, tPar3, tBM, tBM0, rAppend, rExtend, rPopAt, rIxL, rIxT, rIxS, tSl, rSlS, rSlL, tPart, tNoPart, iStr, iTup, iList, iRng1, tAug, ipI, L2.rAdd, L2.rSub, L2.rAddS, tChain, rIsB, rNotB, scal_ss, scal_ii, scal_bb, scal_nn, scal_in, scal_ni, tYes,
  cx_K, cx_N, List.getElem?_cons_zero, List.getElem?_cons_succ, List.set_cons_zero, List.set_cons_succ, List.nil_append, List.cons_append, List.append_nil, List.length_cons, List.length_nil, Nat.zero_add,
  Option.some.injEq, V.ref.injEq, V.int.injEq, V.str.injEq, V.bl.injEq, HO.ins.injEq, HO.lst.injEq, HO.tup.injEq, List.cons.injEq, exists_eq_left, exists_eq_left', exists_eq_right, exists_eq_right', and_true, true_and, exists_and_left, exists_and_right, and_assoc, decide_eq_true_eq, Bool.not_eq_true', decide_eq_false_iff_not, reduceCtorEq, exists_const, forall_const, if_true, if_false, false_and, and_false, ite_true, ite_false, Bool.true_eq_false, Bool.false_eq_true, Nat.reduceLeDiff, Nat.reduceAdd, small_line, small_lt, upd_ne, ne_eq, not_false_eq_true, Nat.zero_le, Prod.mk.injEq, upd_same, upd_upd, S_tl, S_len, S_app, S_one, S_inj,
  lk_breaks, lk_hard, lk_soft, lk_bend, lk_note, lk_rules, lk_state, lk_bent, lk_word, lk_begun, lk_opened, lk_place, pt_state, pt_bent, pt_word, pt_wordS, pt_wordN, pt_begun, pt_opened, pt_place, pt_place1, len_mf, litv_empty, litv_note, litv_nl, mf_inj, rf_inj, lkn_begin, lkn_ended, lkn_plain, lkn_quoted, lkn_step, lkn_fault, lkn_key, lkn_told, lkn_quotes, lkn_special, pt_open1, not_true_eq_false, not_false_eq_true])
local macro_rules | `(tactic| walk_at "rdh") => `(tactic| simp only [tOrT, tMakeBare, tDNewK, tDGet2, iEnumS, tDGet, tDIn, tDNotIn, sDPut, tDNewT, tLstRg, tRg2, iEnum, iRng3, tRevL, rSlS, rSlL, gSub, rSetL, wipe, List.map_cons, List.map_nil, rAll, rAny, rIsi, tM1, tM0, iZipLT, iZip, iRng2, tLenSetS, rListStr, rMulS, rRep, rCntB, tRevS, rNeD, rEqD, tSeq, tNext, tAsg, tRet, tRetN, tDrop, tIfS, sFld, sFldAug, tVar, tC, tOp, tUn, tTest, tB, tAnd, tOr, tNot, tAndV, tOrV, tNotV, tIf, tTup, tLst, tCons, tNil, tCB, tCall, tMeth, tMake, tFld, rI, rI0, rU, rEq, rNe, rCat, gName, gTup, gCons, gNil, tPar, tPar3, tBM, tBM0, rAppend, rExtend, rPopAt, rIxL, rIxT, rIxS, tSl, rSlS, rSlL, tPart, tNoPart, iStr, iTup, iList, iRng1, tAug, ipI, L2.rAdd, L2.rSub, L2.rAddS, tChain, rIsB, rNotB, scal_ss, scal_ii, scal_bb, scal_nn, scal_in, scal_ni, tYes,
  cx_K, cx_N, List.getElem?_cons_zero, List.getElem?_cons_succ, List.set_cons_zero, List.set_cons_succ, List.nil_append, List.cons_append, List.append_nil, List.length_cons, List.length_nil, Nat.zero_add,
  Option.some.injEq, V.ref.injEq, V.int.injEq, V.str.injEq, V.bl.injEq, HO.ins.injEq, HO.lst.injEq, HO.tup.injEq, List.cons.injEq, exists_eq_left, exists_eq_left', exists_eq_right, exists_eq_right', and_true, true_and, exists_and_left, exists_and_right, and_assoc, decide_eq_true_eq, Bool.not_eq_true', decide_eq_false_iff_not, reduceCtorEq, exists_const, forall_const, if_true, if_false, false_and, and_false, ite_true, ite_false, Bool.true_eq_false, Bool.false_eq_true, Nat.reduceLeDiff, Nat.reduceAdd, small_line, small_lt, upd_ne, ne_eq, not_false_eq_true, Nat.zero_le, Prod.mk.injEq, upd_same, upd_upd, S_tl, S_len, S_app, S_one, S_inj,
  lk_breaks, lk_hard, lk_soft, lk_bend, lk_note, lk_rules, lk_state, lk_bent, lk_word, lk_begun, lk_opened, lk_place, pt_state, pt_bent, pt_word, pt_wordS, pt_wordN, pt_begun, pt_opened, pt_place, pt_place1, len_mf, litv_empty, litv_note, litv_nl, mf_inj, rf_inj, lkn_begin, lkn_ended, lkn_plain, lkn_quoted, lkn_step, lkn_fault, lkn_key, lkn_told, lkn_quotes, lkn_special, pt_open1, not_true_eq_false, not_false_eq_true, *])
local macro_rules | `(tactic| walk_at "pl") => `(tactic| (first | decide | (refine Nat.lt_of_le_of_lt (length_putF _ _ _) ?_; repeat (first | decide | refine pl2 ?_))))
local macro_rules | `(tactic| walk_at "al") => `(tactic| (intro p hp; generalize hH : upd _ p _ = H1; obtain ⟨S, e⟩ := gen_new hH hp; clear hH))
local macro_rules | `(tactic| walk_at "rc") => `(tactic| simp only [tDNewK, tDGet2, iEnumS, tDGet, tDIn, tDNotIn, sDPut, tDNewT, tLstRg, tRg2, iEnum, iRng3, tRevL, rSlS, rSlL, gSub, rSetL, wipe, List.map_cons, List.map_nil, rAll, rAny, rIsi, tM1, tM0, iZipLT, iZip, iRng2, tLenSetS, rListStr, rMulS, rRep, rCntB, tRevS, rNeD, rEqD, tNext, tAsg, tRet, tRetN, tDrop, tIfS, sFld, sFldAug, tVar, tC, tOp, tUn, tTest, tB, tAnd, tOr, tNot, tAndV, tOrV, tNotV, tIf, tTup, tLst, tCons, tNil, tCB, tCall, tMeth, tMake, tFld, rI, rI0, rU, rEq, rNe, rCat, gName, gTup, gCons, gNil, tPar, tPar3, tBM, tBM0, rAppend, rExtend, rPopAt, rIxL, rIxT, rIxS, tSl, rSlS, rSlL, tPart, tNoPart, iStr, iTup, iList, iRng1, tAug, ipI, L2.rAdd, L2.rSub, L2.rAddS, tChain, rIsB, rNotB, scal_ss, scal_ii, scal_bb, scal_nn, scal_in, scal_ni, tYes,
  cx_K, cx_N, List.getElem?_cons_zero, List.getElem?_cons_succ, List.set_cons_zero, List.set_cons_succ, List.nil_append, List.cons_append, List.append_nil, List.length_cons, List.length_nil, Nat.zero_add,
  Option.some.injEq, V.ref.injEq, V.int.injEq, V.str.injEq, V.bl.injEq, HO.ins.injEq, HO.lst.injEq, HO.tup.injEq, List.cons.injEq, exists_eq_left, exists_eq_left', exists_eq_right, exists_eq_right', and_true, true_and, exists_and_left, exists_and_right, and_assoc, decide_eq_true_eq, Bool.not_eq_true', decide_eq_false_iff_not, reduceCtorEq, exists_const, forall_const, if_true, if_false, false_and, and_false, ite_true, ite_false, Bool.true_eq_false, Bool.false_eq_true, Nat.reduceLeDiff, Nat.reduceAdd, small_line, small_lt, upd_ne, ne_eq, not_false_eq_true, Nat.zero_le, Prod.mk.injEq, upd_same, upd_upd, S_tl, S_len, S_app, S_one, S_inj,
  lk_breaks, lk_hard, lk_soft, lk_bend, lk_note, lk_rules, lk_state, lk_bent, lk_word, lk_begun, lk_opened, lk_place, pt_state, pt_bent, pt_word, pt_wordS, pt_wordN, pt_begun, pt_opened, pt_place, pt_place1, len_mf, litv_empty, litv_note, litv_nl, mf_inj, rf_inj, lkn_begin, lkn_ended, lkn_plain, lkn_quoted, lkn_step, lkn_fault, lkn_key, lkn_told, lkn_quotes, lkn_special, pt_open1, not_true_eq_false, not_false_eq_true])
/-! ### rules near told ones -/
theorem okd_of {r r' : RS} (ok : r.Ok) (dr : Dr r) (l : Tx) (h1 : r'.every.Sublist l) (h2 : l.Perm r.every) (k1 : r'.breaks.length ≤ 4) (k2 : r'.hard.length ≤ 2) (k3 : r'.soft.length ≤ 2) (k4 : r'.bend.length ≤ 1) (k5 : r'.note.length ≤ 1) (k6 : r'.breaks ≠ []) : r'.Ok ∧ Dr r' := by
  have sub : ∀ c ∈ r'.every, c ∈ r.every := fun c h => h2.mem_iff.mp (h1.subset h)
  exact ⟨⟨k1, k2, k3, k4, k5, k6, List.all_eq_true.mpr fun c h => List.all_eq_true.mp ok.sg c (sub c h), (h2.nodup_iff.mpr ok.nd).sublist h1⟩, fun c h => dr c (sub c h)⟩
section
variable {r : RS} (ok : r.Ok) (dr : Dr r)
include ok dr
theorem near0 : (⟨r.breaks.reverse, r.hard.reverse, r.soft.reverse, r.bend.reverse, r.note.reverse⟩ : RS).Ok ∧ Dr ⟨r.breaks.reverse, r.hard.reverse, r.soft.reverse, r.bend.reverse, r.note.reverse⟩ :=
  okd_of ok dr _ (List.Sublist.refl _) ((List.reverse_perm _).append ((List.reverse_perm _).append ((List.reverse_perm _).append ((List.reverse_perm _).append (List.reverse_perm _))))) (by simpa using ok.l1) (by simpa using ok.l2) (by simpa using ok.l3) (by simpa using ok.l4) (by simpa using ok.l5) (by simpa using ok.ne)
theorem near1 : (⟨r.breaks, r.soft, r.hard, r.bend, r.note⟩ : RS).Ok ∧ Dr ⟨r.breaks, r.soft, r.hard, r.bend, r.note⟩ :=
  okd_of ok dr _ (List.Sublist.refl _) (List.Perm.append_left _ (by
    show (r.soft ++ (r.hard ++ (r.bend ++ r.note))).Perm (r.hard ++ (r.soft ++ (r.bend ++ r.note)))
    have := (List.perm_append_comm (l₁ := r.soft) (l₂ := r.hard)).append_right (r.bend ++ r.note)
    rw [List.append_assoc, List.append_assoc] at this
    exact this)) ok.l1 ok.l3 ok.l2 ok.l4 ok.l5 ok.ne
theorem near2 : (⟨r.breaks, r.hard, r.soft, [], r.note⟩ : RS).Ok ∧ Dr ⟨r.breaks, r.hard, r.soft, [], r.note⟩ :=
  okd_of ok dr r.every ((List.Sublist.refl _).append ((List.Sublist.refl _).append ((List.Sublist.refl _).append (List.sublist_append_right _ _)))) (List.Perm.refl _) ok.l1 ok.l2 ok.l3 (by simp) ok.l5 ok.ne
theorem near3 (h : (r.hard ++ r.soft).length < 3) : (⟨r.breaks, r.hard ++ r.soft, [], r.bend, r.note⟩ : RS).Ok ∧ Dr ⟨r.breaks, r.hard ++ r.soft, [], r.bend, r.note⟩ :=
  okd_of ok dr r.every (by
    have : (⟨r.breaks, r.hard ++ r.soft, [], r.bend, r.note⟩ : RS).every = r.every := by simp [RS.every]
    rw [this]
    exact List.Sublist.refl _) (List.Perm.refl _) ok.l1 (by show (r.hard ++ r.soft).length ≤ 2; omega) (by simp) ok.l4 ok.l5 ok.ne
theorem near4 : (⟨r.breaks, r.hard, r.soft, r.bend, []⟩ : RS).Ok ∧ Dr ⟨r.breaks, r.hard, r.soft, r.bend, []⟩ :=
  okd_of ok dr r.every ((List.Sublist.refl _).append ((List.Sublist.refl _).append ((List.Sublist.refl _).append (by show (r.bend ++ []).Sublist _; rw [List.append_nil]; exact List.sublist_append_left _ _)))) (List.Perm.refl _) ok.l1 ok.l2 ok.l3 ok.l4 (by simp) ok.ne
theorem near5 : (⟨r.breaks.take 1, r.hard, r.soft, r.bend, r.note⟩ : RS).Ok ∧ Dr ⟨r.breaks.take 1, r.hard, r.soft, r.bend, r.note⟩ :=
  okd_of ok dr r.every ((List.take_sublist _ _).append (List.Sublist.refl _)) (List.Perm.refl _) (by
    show (r.breaks.take 1).length ≤ 4
    rw [List.length_take]; omega) ok.l2 ok.l3 ok.l4 ok.l5 (by
    show r.breaks.take 1 ≠ []
    have := ok.ne
    cases h : r.breaks with
    | nil => exact absurd h this
    | cons a l => simp)
theorem near6 : (⟨r.breaks, r.hard, r.soft, r.note, r.bend⟩ : RS).Ok ∧ Dr ⟨r.breaks, r.hard, r.soft, r.note, r.bend⟩ :=
  okd_of ok dr _ (List.Sublist.refl _) (List.Perm.append_left _ (List.Perm.append_left _ (List.Perm.append_left _ List.perm_append_comm))) ok.l1 ok.l2 ok.l3 ok.l5 ok.l4 ok.ne
end
section
variable {P : Program} {w : World} {K : PySem.W.Frag} {mg : Str → Option Value} {base : Heap} {a : Ad}
def sp_near (K : PySem.W.Frag) : Sp := fun vs H Q _ => ∃ (ns : List Int) (st tp : Addr) (r : RS), vs = [.ref st, .ref tp] ∧ Stt K ns H st ∧ H tp = some (.tup (RS.tup r)) ∧ r.Ok ∧ Dr r ∧
  ∀ (r' : RS) tp' H', r'.Ok → Dr r' → H' tp' = some (.tup r'.tup) → Stt K ns H' st → Kp st H H' → Q (.ref tp') H'
theorem ok__law_near (T : Txt K mg a) : FnOk P w K mg base CX0 4 a.f__law_near a.d__law_near P__law_near (sp_near K) := by
  refine T.F__law_near.ok sc__law_near (fun vs H Q E h => ?_) (fun cdv A outer s H vs Q E hr h => ?_)
  · obtain ⟨ns, st, tp, r, rfl, _⟩ := h
    rfl
  · obtain ⟨ns, st, tp, r, rfl, hs, ht, ok, dr, k⟩ := h
    have G__law_next := ok__law_next (P := P) (w := w) (base := base) T
    have B__law_next := bi__law_next T
    refine ⟨_,
(pss_cons (ps_par (i := 2) (j := 3) (by rfl) sc__law_near.nd rfl rfl (by decide) rfl rfl (pa_cons (pe_callTy call_list_of (by rfl) T.b_list (by decide +kernel) (pa_cons (pv 1) pa_nil)) (pa_cons (pe_call G__law_next (hr.mono (by decide)) rfl T.f__law_next.g T.f__law_next.k B__law_next .nil pass0 (pa_cons (pv 0) (pa_cons pe_int pa_nil))) pa_nil)) (by rfl))
    (pss_cons (ps_if (pt_cmpR op_eq (pv 3) pe_int (nomark _)) (pss_one (ps_ret (pe_callTy call_tuple_of (by rfl) T.b_tuple (by decide +kernel) (pa_cons (pe_lc (own := [("_law_part", 4)]) (g := gName 4) (tt := tYes) rfl sc__law_near.nd (pi_list (pv 2)) (blkOk_by (own := [("_law_part", 4)]) (N := N__law_near) (sc := defScope st__law_near) (by decide +kernel)) (fun _ _ _ _ _ => (pg_name (i := 4) sc__law_near.nd rfl (by first | exact Or.inl rfl | exact Or.inr rfl))) (fun _ _ _ _ _ => pts_nil) (fun _ _ _ _ _ => (pe_revS (pv 4)))) pa_nil)))) pss_nil)
    (pss_cons (ps_if (pt_cmpR op_eq (pv 3) pe_int (nomark _)) (pss_one (ps_ret (pe_tup (pa_cons (pe_ix ix_list (pv 2) pe_int (fun _ _ => rfl)) (pa_cons (pe_ix ix_list (pv 2) pe_int (fun _ _ => rfl)) (pa_cons (pe_ix ix_list (pv 2) pe_int (fun _ _ => rfl)) (pa_cons (pe_ix ix_list (pv 2) pe_int (fun _ _ => rfl)) (pa_cons (pe_ix ix_list (pv 2) pe_int (fun _ _ => rfl)) pa_nil)))))))) pss_nil)
    (pss_cons (ps_if (pt_cmpR op_eq (pv 3) pe_int (nomark _)) (pss_one (ps_ret (pe_tup (pa_cons (pe_ix ix_list (pv 2) pe_int (fun _ _ => rfl)) (pa_cons (pe_ix ix_list (pv 2) pe_int (fun _ _ => rfl)) (pa_cons (pe_ix ix_list (pv 2) pe_int (fun _ _ => rfl)) (pa_cons pe_str (pa_cons (pe_ix ix_list (pv 2) pe_int (fun _ _ => rfl)) pa_nil)))))))) pss_nil)
    (pss_cons (ps_if (pt_cmpR op_eq (pv 3) pe_int (nomark _)) (pss_one (ps_ret (pe_ifExp (pt_cmpR op_lt (pe_callB call_len_str (by rfl) T.b_len PySem.boot_len (pa_cons (pe_op op_add_str (pe_ix ix_list (pv 2) pe_int (fun _ _ => rfl)) (pe_ix ix_list (pv 2) pe_int (fun _ _ => rfl))) pa_nil)) pe_int (nomark _)) (pe_tup (pa_cons (pe_ix ix_list (pv 2) pe_int (fun _ _ => rfl)) (pa_cons (pe_op op_add_str (pe_ix ix_list (pv 2) pe_int (fun _ _ => rfl)) (pe_ix ix_list (pv 2) pe_int (fun _ _ => rfl))) (pa_cons pe_str (pa_cons (pe_ix ix_list (pv 2) pe_int (fun _ _ => rfl)) (pa_cons (pe_ix ix_list (pv 2) pe_int (fun _ _ => rfl)) pa_nil)))))) (pv 1)))) pss_nil)
    (pss_cons (ps_if (pt_cmpR op_eq (pv 3) pe_int (nomark _)) (pss_one (ps_ret (pe_tup (pa_cons (pe_ix ix_list (pv 2) pe_int (fun _ _ => rfl)) (pa_cons (pe_ix ix_list (pv 2) pe_int (fun _ _ => rfl)) (pa_cons (pe_ix ix_list (pv 2) pe_int (fun _ _ => rfl)) (pa_cons (pe_ix ix_list (pv 2) pe_int (fun _ _ => rfl)) (pa_cons pe_str pa_nil)))))))) pss_nil)
    (pss_cons (ps_if (pt_cmpR op_eq (pv 3) pe_int (nomark _)) (pss_one (ps_ret (pe_tup (pa_cons (pe_orT (pe_slice sl_str (pe_ix ix_list (pv 2) pe_int (fun _ _ => rfl)) po_none (po_some pe_int)) (pe_one pe_str)) (pa_cons (pe_ix ix_list (pv 2) pe_int (fun _ _ => rfl)) (pa_cons (pe_ix ix_list (pv 2) pe_int (fun _ _ => rfl)) (pa_cons (pe_ix ix_list (pv 2) pe_int (fun _ _ => rfl)) (pa_cons (pe_ix ix_list (pv 2) pe_int (fun _ _ => rfl)) pa_nil)))))))) pss_nil)
    (pss_one (ps_ret (pe_tup (pa_cons (pe_ix ix_list (pv 2) pe_int (fun _ _ => rfl)) (pa_cons (pe_ix ix_list (pv 2) pe_int (fun _ _ => rfl)) (pa_cons (pe_ix ix_list (pv 2) pe_int (fun _ _ => rfl)) (pa_cons (pe_ix ix_list (pv 2) pe_int (fun _ _ => rfl)) (pa_cons (pe_ix ix_list (pv 2) pe_int (fun _ _ => rfl)) pa_nil)))))))))))))))
      , ?_⟩
    rw [show start N__law_near [V.ref st, V.ref tp] = [some (.ref st), some (.ref tp), none, none, none] from rfl]
    refine tseq_split (fun σ' G => ∃ lp kd, σ' = [some (.ref st), some (.ref tp), some (.ref lp), some (.int kd), none] ∧ Stt K ns G st ∧ Kp st H G ∧ G lp = some (.lst (RS.tup r)) ∧ G tp = some (.tup (RS.tup r))) (fun N hN => ?_) ?_
    · walk_at "rd"
      refine ⟨_, .inr (.inl (.inl ht)), fun lp hlp => ?_⟩
      have s1 := same_new (o := HO.lst (RS.tup r)) hlp
      have nl : lp ≠ st := fun z => by
        obtain ⟨xs, e⟩ := hs.has
        rw [z, e] at hlp; cases hlp
      have nt : tp ≠ st := fun z => by
        obtain ⟨xs, e⟩ := hs.has
        rw [z, e] at ht; cases ht
      exact ⟨ns, st, 7, rfl, hs.same s1, by decide, fun z H2 _ _ t2 k2 => hN _ _ ⟨lp, z, rfl, t2, (s1.kp st).trans k2, k2 _ _ upd_same nl, k2 _ _ (s1 _ _ ht) nt⟩⟩
    rintro σ1 G ⟨lp, kd, rfl, sG, kG, eL, eT⟩
    have fin : ∀ (r2 : RS), r2.Ok ∧ Dr r2 → ∀ p, G p = none → Q (.ref p) (upd G p (.tup r2.tup)) := fun r2 h p hp => k r2 p _ h.1 h.2 upd_same (sG.same (same_new hp)) (kG.trans ((same_new hp).kp st))
    have l1 := ok.l1; have l2 := ok.l2; have l3 := ok.l3; have l4 := ok.l4; have l5 := ok.l5
    have L : SqL K G lp (RS.tup r) := .inl (.inl eL)
    walk_at "rd"
    refine ite2 (fun c0 => ?_) (fun c0 => ite2 (fun c1 => ?_) (fun c1 => ite2 (fun c2 => ?_) (fun c2 => ite2 (fun c3 => ?_) (fun c3 => ite2 (fun c4 => ?_) (fun c4 => ite2 (fun c5 => ?_) (fun c5 => ?_))))))
    · refine tlc_map [r.breaks, r.hard, r.soft, r.bend, r.note] (fun t => sV t.reverse) (J := Itl K lp) (H1 := G) (G := fun H => SqL K H lp (RS.tup r)) (fun R hR => ?_) (walk_list (xs := RS.tup r)) (by simp only [List.length_cons, List.length_nil]; omega) (fun H s => .inl (.inl (s _ _ eL))) ?_ ?_
      · walk_at "rd"
        exact ⟨⟨_, L⟩, hR⟩
      · rintro R R' i t x F1 F2 hi g ⟨rfl, hx⟩ hR
        have hx' : x = sV t := by
          rw [show RS.tup r = [r.breaks, r.hard, r.soft, r.bend, r.note].map sV from rfl, List.getElem?_map, hi] at hx
          exact (Option.some.inj hx).symm
        subst hx'
        have tl : t.length ≤ 4 := by
          have := List.mem_of_getElem? hi
          simp only [List.mem_cons, List.not_mem_nil, or_false] at this
          rcases this with rfl | rfl | rfl | rfl | rfl <;> omega
        walk_at "rd"
        exact ⟨t, rfl, by omega, hR _ (Same.refl _)⟩
      intro D F hD sF eD
      refine ⟨D, rfl, _, .inl ⟨.inl (.inl eD), fun q hq => ?_⟩⟩
      have := near0 ok dr
      exact k ⟨r.breaks.reverse, r.hard.reverse, r.soft.reverse, r.bend.reverse, r.note.reverse⟩ q _ this.1 this.2 upd_same ((sG.same sF).same (same_new hq)) ((kG.trans (sF.kp st)).trans ((same_new hq).kp st))
    · exact ⟨_, L, _, atI_nat (j := 0) rfl, _, L, _, atI_nat (j := 2) rfl, _, L, _, atI_nat (j := 1) rfl, _, L, _, atI_nat (j := 3) rfl, _, L, _, atI_nat (j := 4) rfl, fin ⟨r.breaks, r.soft, r.hard, r.bend, r.note⟩ (near1 ok dr)⟩
    · exact ⟨_, L, _, atI_nat (j := 0) rfl, _, L, _, atI_nat (j := 1) rfl, _, L, _, atI_nat (j := 2) rfl, _, L, _, atI_nat (j := 4) rfl, fin ⟨r.breaks, r.hard, r.soft, [], r.note⟩ (near2 ok dr)⟩
    · refine ⟨_, L, _, atI_nat (j := 1) rfl, _, L, _, atI_nat (j := 2) rfl, S r.hard, rfl, S r.soft, rfl, ?_⟩
      rw [S_app]
      have sz : (S r.hard).length + (S r.soft).length ≤ sizeLine := by rw [S_len, S_len]; exact Nat.le_trans (show _ ≤ 4 by omega) (by decide)
      refine ⟨sz, by rw [S_len, List.length_append]; exact Nat.le_trans (show _ ≤ 4 by omega) (by decide), ?_⟩
      rw [S_len]
      refine ite2 (fun q => ?_) (fun _ => ?_)
      · refine ⟨_, L, _, atI_nat (j := 0) rfl, _, L, _, atI_nat (j := 1) rfl, _, L, _, atI_nat (j := 2) rfl, S r.hard, rfl, S r.soft, rfl, sz, _, L, _, atI_nat (j := 3) rfl, _, L, _, atI_nat (j := 4) rfl, ?_⟩
        rw [S_app]
        exact fin ⟨r.breaks, r.hard ++ r.soft, [], r.bend, r.note⟩ (near3 ok dr (by omega))
      · exact k r tp _ ok dr eT sG kG
    · exact ⟨_, L, _, atI_nat (j := 0) rfl, _, L, _, atI_nat (j := 1) rfl, _, L, _, atI_nat (j := 2) rfl, _, L, _, atI_nat (j := 3) rfl, fin ⟨r.breaks, r.hard, r.soft, r.bend, []⟩ (near4 ok dr)⟩
    · refine ⟨_, L, _, atI_nat (j := 0) rfl, S r.breaks, rfl, by rw [S_len]; exact Nat.le_trans l1 (by decide), true, ?_, ?_⟩
      · rw [show (1 : Int) = ((1 : Nat) : Int) from rfl, cutS_to]
        refine ⟨by rw [S_len, List.length_take]; exact Nat.le_trans (show _ ≤ 4 by omega) (by decide), ?_⟩
        rw [S_len, List.length_take]
        have := List.length_pos_iff.mpr ok.ne
        simp only [bne_iff_ne, ne_eq, eq_comm (a := true)]
        omega
      · rw [if_pos rfl, show (1 : Int) = ((1 : Nat) : Int) from rfl, cutS_to]
        exact ⟨_, L, _, atI_nat (j := 1) rfl, _, L, _, atI_nat (j := 2) rfl, _, L, _, atI_nat (j := 3) rfl, _, L, _, atI_nat (j := 4) rfl, fin ⟨r.breaks.take 1, r.hard, r.soft, r.bend, r.note⟩ (near5 ok dr)⟩
    · exact ⟨_, L, _, atI_nat (j := 0) rfl, _, L, _, atI_nat (j := 1) rfl, _, L, _, atI_nat (j := 2) rfl, _, L, _, atI_nat (j := 4) rfl, _, L, _, atI_nat (j := 3) rfl, fin ⟨r.breaks, r.hard, r.soft, r.note, r.bend⟩ (near6 ok dr)⟩
end
end Qw

set_option Elab.async false
set_option linter.all false
set_option maxRecDepth 100000
set_option maxHeartbeats 4000000
namespace Qw
open PySem L2
local macro_rules | `(tactic| walk_at "rd") => `(tactic| simp only [tOrT, tMakeBare, tDNewK, tDGet2, iEnumS, tDGet, tDIn, tDNotIn, sDPut, tDNewT, tLstRg, tRg2, iEnum, iRng3, tRevL, rSlS, rSlL, gSub, rSetL, wipe, List.map_cons, List.map_nil, rAll, rAny, rIsi, tM1, tM0, iZipLT, iZip, iRng2, tLenSetS, rListStr, rMulS, rRep, rCntB, tRevS, rNeD, rEqD, tSeq, tNext, tAsg, tRet, tRetN, tDrop, tIfS, sFld, sFldAug, tVar, tC, tOp, tUn, tTest, tB, tAnd, tOr, tNot, tAndV, tOrV, tNotV, tIf, tTup, tLst, tCons, tNil, tCB, tCall, tMeth, tMake, tFld, rI, rI0, rU, rEq, rNe, rCat, gName, gTup, gCons, gNil, tPar, tPar3, tBM, tBM0, rAppend, rExtend, rPopAt, rIxL, rIxT, rIxS, tSl, rSlS, rSlL, tPart, tNoPart, iStr, iTup, iList, iRng1, tAug, ipI, L2.rAdd, L2.rSub, L2.rAddS, tChain, rIsB, rNotB, scal_ss, scal_ii, scal_bb, scal_nn, scal_in, scal_ni, tYes,
  cx_K, cx_N, List.getElem?_cons_zero, List.getElem?_cons_succ, List.set_cons_zero, List.set_cons_succ, List.nil_append, List.cons_append, List.append_nil, List.length_cons, List.length_nil, Nat.zero_add,
  Option.some.injEq, V.ref.injEq, V.int.injEq, V.str.injEq, V.bl.injEq, HO.ins.injEq, HO.lst.injEq, HO.tup.injEq, List.cons.injEq, exists_eq_left, exists_eq_left', exists_eq_right, exists_eq_right', and_true, true_and, exists_and_left, exists_and_right, and_assoc, decide_eq_true_eq, Bool.not_eq_true', decide_eq_false_iff_not, reduceCtorEq, exists_const, forall_const, if_true, if_false, false_and, and_false, ite_true, ite_false, Bool.true_eq_false, Bool.false_eq_true, Nat.reduceLeDiff, Nat.reduceAdd, small_line, small_lt, upd_ne, ne_eq, not_false_eq_true, Nat.zero_le, Prod.mk.injEq, upd_same, upd_upd, S_tl, S_len, S_app, S_one, S_inj,
  lk_breaks, lk_hard, lk_soft, lk_bend, lk_note, lk_rules, lk_state, lk_bent, lk_word, lk_begun, lk_opened, lk_place, pt_state, pt_bent, pt_word, pt_wordS, pt_wordN, pt_begun, pt_opened, pt_place, pt_place1, len_mf, litv_empty, litv_note, litv_nl, mf_inj, rf_inj, lkn_begin, lkn_ended, lkn_plain, lkn_quoted, lkn_step, lkn_fault, lkn_key, lkn_told, lkn_quotes, lkn_special, pt_open1, not_true_eq_false, not_false_eq_true])
local macro_rules | `(tactic| walk_at "rdh") => `(tactic| simp only [tOrT, tMakeBare, tDNewK, tDGet2, iEnumS, tDGet, tDIn, tDNotIn, sDPut, tDNewT, tLstRg, tRg2, iEnum, iRng3, tRevL, rSlS, rSlL, gSub, rSetL, wipe, List.map_cons, List.map_nil, rAll, rAny, rIsi, tM1, tM0, iZipLT, iZip, iRng2, tLenSetS, rListStr, rMulS, rRep, rCntB, tRevS, rNeD, rEqD, tSeq, tNext, tAsg, tRet, tRetN, tDrop, tIfS, sFld, sFldAug, tVar, tC, tOp, tUn, tTest, tB, tAnd, tOr, tNot, tAndV, tOrV, tNotV, tIf, tTup, tLst, tCons, tNil, tCB, tCall, tMeth, tMake, tFld, rI, rI0, rU, rEq, rNe, rCat, gName, gTup, gCons, gNil, tPar, tPar3, tBM, tBM0, rAppend, rExtend, rPopAt, rIxL, rIxT, rIxS, tSl, rSlS, rSlL, tPart, tNoPart, iStr, iTup, iList, iRng1, tAug, ipI, L2.rAdd, L2.rSub, L2.rAddS, tChain, rIsB, rNotB, scal_ss, scal_ii, scal_bb, scal_nn, scal_in, scal_ni, tYes,
  cx_K, cx_N, List.getElem?_cons_zero, List.getElem?_cons_succ, List.set_cons_zero, List.set_cons_succ, List.nil_append, List.cons_append, List.append_nil, List.length_cons, List.length_nil, Nat.zero_add,
  Option.some.injEq, V.ref.injEq, V.int.injEq, V.str.injEq, V.bl.injEq, HO.ins.injEq, HO.lst.injEq, HO.tup.injEq, List.cons.injEq, exists_eq_left, exists_eq_left', exists_eq_right, exists_eq_right', and_true, true_and, exists_and_left, exists_and_right, and_assoc, decide_eq_true_eq, Bool.not_eq_true', decide_eq_false_iff_not, reduceCtorEq, exists_const, forall_const, if_true, if_false, false_and, and_false, ite_true, ite_false, Bool.true_eq_false, Bool.false_eq_true, Nat.reduceLeDiff, Nat.reduceAdd, small_line, small_lt, upd_ne, ne_eq, not_false_eq_true, Nat.zero_le, Prod.mk.injEq, upd_same, upd_upd, S_tl, S_len, S_app, S_one, S_inj,
  lk_breaks, lk_hard, lk_soft, lk_bend, lk_note, lk_rules, lk_state, lk_bent, lk_word, lk_begun, lk_opened, lk_place, pt_state, pt_bent, pt_word, pt_wordS, pt_wordN, pt_begun, pt_opened, pt_place, pt_place1, len_mf, litv_empty, litv_note, litv_nl, mf_inj, rf_inj, lkn_begin, lkn_ended, lkn_plain, lkn_quoted, lkn_step, lkn_fault, lkn_key, lkn_told, lkn_quotes, lkn_special, pt_open1, not_true_eq_false, not_false_eq_true, *])
local macro_rules | `(tactic| walk_at "pl") => `(tactic| (first | decide | (refine Nat.lt_of_le_of_lt (length_putF _ _ _) ?_; repeat (first | decide | refine pl2 ?_))))
local macro_rules | `(tactic| walk_at "al") => `(tactic| (intro p hp; generalize hH : upd _ p _ = H1; obtain ⟨S, e⟩ := gen_new hH hp; clear hH))
local macro_rules | `(tactic| walk_at "rc") => `(tactic| simp only [tDNewK, tDGet2, iEnumS, tDGet, tDIn, tDNotIn, sDPut, tDNewT, tLstRg, tRg2, iEnum, iRng3, tRevL, rSlS, rSlL, gSub, rSetL, wipe, List.map_cons, List.map_nil, rAll, rAny, rIsi, tM1, tM0, iZipLT, iZip, iRng2, tLenSetS, rListStr, rMulS, rRep, rCntB, tRevS, rNeD, rEqD, tNext, tAsg, tRet, tRetN, tDrop, tIfS, sFld, sFldAug, tVar, tC, tOp, tUn, tTest, tB, tAnd, tOr, tNot, tAndV, tOrV, tNotV, tIf, tTup, tLst, tCons, tNil, tCB, tCall, tMeth, tMake, tFld, rI, rI0, rU, rEq, rNe, rCat, gName, gTup, gCons, gNil, tPar, tPar3, tBM, tBM0, rAppend, rExtend, rPopAt, rIxL, rIxT, rIxS, tSl, rSlS, rSlL, tPart, tNoPart, iStr, iTup, iList, iRng1, tAug, ipI, L2.rAdd, L2.rSub, L2.rAddS, tChain, rIsB, rNotB, scal_ss, scal_ii, scal_bb, scal_nn, scal_in, scal_ni, tYes,
  cx_K, cx_N, List.getElem?_cons_zero, List.getElem?_cons_succ, List.set_cons_zero, List.set_cons_succ, List.nil_append, List.cons_append, List.append_nil, List.length_cons, List.length_nil, Nat.zero_add,
  Option.some.injEq, V.ref.injEq, V.int.injEq, V.str.injEq, V.bl.injEq, HO.ins.injEq, HO.lst.injEq, HO.tup.injEq, List.cons.injEq, exists_eq_left, exists_eq_left', exists_eq_right, exists_eq_right', and_true, true_and, exists_and_left, exists_and_right, and_assoc, decide_eq_true_eq, Bool.not_eq_true', decide_eq_false_iff_not, reduceCtorEq, exists_const, forall_const, if_true, if_false, false_and, and_false, ite_true, ite_false, Bool.true_eq_false, Bool.false_eq_true, Nat.reduceLeDiff, Nat.reduceAdd, small_line, small_lt, upd_ne, ne_eq, not_false_eq_true, Nat.zero_le, Prod.mk.injEq, upd_same, upd_upd, S_tl, S_len, S_app, S_one, S_inj,
  lk_breaks, lk_hard, lk_soft, lk_bend, lk_note, lk_rules, lk_state, lk_bent, lk_word, lk_begun, lk_opened, lk_place, pt_state, pt_bent, pt_word, pt_wordS, pt_wordN, pt_begun, pt_opened, pt_place, pt_place1, len_mf, litv_empty, litv_note, litv_nl, mf_inj, rf_inj, lkn_begin, lkn_ended, lkn_plain, lkn_quoted, lkn_step, lkn_fault, lkn_key, lkn_told, lkn_quotes, lkn_special, pt_open1, not_true_eq_false, not_false_eq_true])
/-! ### the law's look at two rules compared -/
theorem min_all {r r' : RS} {t u : Tx} (M : MinP r r' t) : (t.length = u.length ∧ alikeT r r' u = false) ↔ (alikeT r r' u = false ∧ ¬ ∃ s : Tx, s.length < u.length ∧ alikeT r r' s = false) := by
  refine ⟨fun ⟨e, p⟩ => ⟨p, fun ⟨s, h1, h2⟩ => ?_⟩, fun ⟨p, n⟩ => ⟨?_, p⟩⟩
  · have := M.m s (by omega)
    rw [h2] at this; cases this
  · have h1 : ¬ t.length < u.length := fun z => n ⟨t, z, M.p⟩
    have h2 : ¬ u.length < t.length := fun z => by have := M.m u z; rw [p] at this; cases this
    omega
/-- what shows tells, against what is due -/
theorem shown_due {r r' : RS} {u : Tx} {o : Option Tx} (h : FirstT r r' o) {b : Bool} (hb : b = true ↔ ∃ s : Tx, s.length < u.length ∧ alikeT r r' s = false) : shownC r r' u o = (!alikeT r r' u && !b) := by
  cases o with
  | none =>
    show false = _
    rw [same_alike h]
    rfl
  | some t =>
    have := min_all (u := u) h.1
    rw [← hb] at this
    show (decide (t.length = u.length) && !alikeT r r' u) = _
    rw [Bool.eq_iff_iff]
    simp only [Bool.and_eq_true, decide_eq_true_eq, Bool.not_eq_true', Bool.not_eq_true] at this ⊢
    exact this
theorem first_same_iff {r r' : RS} {o : Option Tx} (h : FirstT r r' o) : o.isNone = true ↔ SameR r r' := by
  cases o with
  | none => exact ⟨fun _ => h, fun _ => rfl⟩
  | some t => exact ⟨fun z => (by cases z), fun z => absurd z (not_same h.1.p)⟩
section
variable {P : Program} {w : World} {K : PySem.W.Frag} {mg : Str → Option Value} {base : Heap} {a : Ad}
/-! the class of what compared tells: B: the rules play alike -/
def cls5 (a : Ad) : Bool → Addr
  | true => a.c_Alike
  | false => a.c_Parted
def f5 (a : Ad) : Bool → Addr
  | true => a.f_Alike_shows
  | false => a.f_Parted_shows
def d5 (a : Ad) : Bool → FuncData
  | true => a.d_Alike_shows
  | false => a.d_Parted_shows
def sp5 (a : Ad) : Bool → Sp
  | true => sp_Alike_shows a
  | false => sp_Parted_shows a
theorem cls5_cl (T : Txt K mg a) (B : Bool) : Cls K (cls5 a B) := by
  cases B
  · exact T.c_Parted.cl
  · exact T.c_Alike.cl
theorem cls5_m (T : Txt K mg a) (B : Bool) : Meth K (cls5 a B) "shows" (f5 a B) := by
  cases B
  · exact T.m_Parted_shows
  · exact T.m_Alike_shows
theorem cls5_g (T : Txt K mg a) (B : Bool) : FnG P w K mg base 8 (f5 a B) (d5 a B) P_Parted_shows (sp5 a B) := by
  cases B
  · exact ok_Parted_shows T
  · exact ok_Alike_shows T
theorem cls5_b (T : Txt K mg a) (B : Bool) : Binds K (d5 a B) P_Parted_shows [] := by
  cases B
  · exact bi_Parted_shows T
  · exact bi_Alike_shows T
theorem ty_Alike (T : Txt K mg a) {H : Hp} {p dx : Addr} {fs : List (Str × V)} (h : H p = some (.ins a.c_Alike dx fs)) : TyX K H (.ref p) (.ref a.c_Alike) :=
  .base (.ins h T.c_Alike.cl T.i_Alike.ha T.i_Alike.hn T.i_Alike.ht T.i_Alike.hm)
theorem ty_Parted (T : Txt K mg a) {H : Hp} {p dx : Addr} {fs : List (Str × V)} (h : H p = some (.ins a.c_Parted dx fs)) : TyX K H (.ref p) (.ref a.c_Parted) :=
  .base (.ins h T.c_Parted.cl T.i_Parted.ha T.i_Parted.hn T.i_Parted.ht T.i_Parted.hm)
/-- what an answer shows of other rules -/
def due5 (r r3 : RS) : Option Tx → Option Tx → Bool
  | none, o3 => o3.isNone
  | some t, o3 => shownC r r3 t o3
theorem AnsC.cls5 {H : Hp} {q : Addr} {o : Option Tx} {B : Bool} (h : AnsC a H q o) (e : o.isNone = B) : ∃ dx fs, H q = some (.ins (cls5 a B) dx fs) ∧ List.lookup ("shows" : Str) fs = none := by
  cases o with
  | none =>
    obtain ⟨dx, h⟩ := h
    rw [← e]
    exact ⟨dx, [], h, rfl⟩
  | some t =>
    obtain ⟨dx, h⟩ := h
    rw [← e]
    exact ⟨dx, _, h, by kernel_rfl⟩
theorem sp5_at {G : Hp} {q p1 p2 d1 d2 : Addr} {r r3 : RS} {o : Option Tx} {B : Bool} {Qs : VK} {E : XK} (h : AnsC a G q o) (e : o.isNone = B) (h1 : G p1 = some (.ins a.c_Rules d1 (RS.f r))) (h2 : G p2 = some (.ins a.c_Rules d2 (RS.f r3))) (ok : r.Ok) (ok3 : r3.Ok)
    (ht : ∀ t, o = some t → t.length ≤ 3 ∧ t.all sgn = true) (k : ∀ o3 F, FirstT r r3 o3 → Same G F → Qs (.bl (due5 r r3 o o3)) F) : sp5 a B [.ref q, .ref p1, .ref p2] G Qs E := by
  cases o with
  | none =>
    obtain ⟨dx, h⟩ := h
    rw [← e]
    exact ⟨q, dx, p1, d1, r, p2, d2, r3, rfl, h, h1, h2, ok, ok3, k⟩
  | some t =>
    obtain ⟨dx, h⟩ := h
    obtain ⟨t1, t2⟩ := ht t rfl
    rw [← e]
    exact ⟨q, dx, t, p1, d1, r, p2, d2, r3, rfl, h, h1, h2, ok, ok3, by omega, t2, k⟩
theorem shown_two (b : Bool) : SeqAt.shaped (.list [.bool b, .bool (!b)]) = true := by cases b <;> decide
def sp_lright (K : PySem.W.Frag) : Sp := fun vs H Q _ => ∃ (tp tp' tl ol : Addr) (r r' : RS) (ts : List Tx) (os : List Addr), vs = [.ref tp, .ref tp', .ref tl, .ref ol] ∧ H tp = some (.tup (RS.tup r)) ∧ H tp' = some (.tup (RS.tup r')) ∧ r.Ok ∧ r'.Ok ∧ Dr r ∧ Dr r' ∧
  H tl = some (.lst (ts.map sV)) ∧ ts.length ≤ 10 ∧ (∀ t ∈ ts, t.length ≤ 900 ∧ t.all sgn = true) ∧ H ol = some (.lst (os.map V.ref)) ∧ (∀ q ∈ os, ∃ r3 : RS, H q = some (.tup r3.tup) ∧ r3.Ok ∧ Dr r3) ∧ ∀ H', Same H H' → Q (.bl true) H'
theorem ok__law_right (T : Txt K mg a) : FnG P w K mg base 9 a.f__law_right a.d__law_right P__law_right (sp_lright K) := by
  refine fnG_of T.F__law_right sc__law_right (fun vs H Q E h => ?_) (fun cdv A outer s H vs Q E hfr hr h => ?_)
  · obtain ⟨tp, tp', tl, ol, r, r', ts, os, rfl, _⟩ := h
    rfl
  · obtain ⟨tp, tp', tl, ol, r, r', ts, os, rfl, h1, h2, ok, ok', dr, dr', h3, hts, hT, h4, hos, k⟩ := h
    have G__law_same_rules := ok__law_same_rules (P := P) (w := w) (base := base) T
    have B__law_same_rules := bi__law_same_rules T
    have G__law_rules := ok__law_rules (P := P) (w := w) (base := base) T
    have B__law_rules := bi__law_rules T
    have G_compared := ok_compared (P := P) (w := w) (base := base) T
    have B_compared := bi_compared T
    have G_Parted_shows := ok_Parted_shows (P := P) (w := w) (base := base) T
    have B_Parted_shows := bi_Parted_shows T
    have G__law_alike := ok__law_alike (P := P) (w := w) (base := base) T
    have B__law_alike := bi__law_alike T
    have G__law_shorter := ok__law_shorter (P := P) (w := w) (base := base) T
    have B__law_shorter := bi__law_shorter T
    obtain ⟨B, hB⟩ : ∃ B : Bool, B = true ↔ SameR r r' := by
      by_cases z : SameR r r'
      · exact ⟨true, ⟨fun _ => z, fun _ => rfl⟩⟩
      · exact ⟨false, ⟨fun x => (by cases x), fun x => absurd x z⟩⟩
    have cC := cls5_cl T B
    have mC := cls5_m T B
    have gC := cls5_g (P := P) (w := w) (base := base) T B
    have bC := cls5_b T B
    refine ⟨_,
(pss_cons (ps_par3 (i := 4) (j := 5) (l := 6) (by rfl) sc__law_right.nd rfl rfl rfl (by decide) (by decide) (by decide) rfl rfl rfl (pa_cons (pe_call G__law_rules (hr.mono (by decide)) rfl T.f__law_rules.g T.f__law_rules.k B__law_rules .nil pass0 (pa_cons (pv 0) pa_nil)) (pa_cons (pe_call G__law_rules (hr.mono (by decide)) rfl T.f__law_rules.g T.f__law_rules.k B__law_rules .nil pass0 (pa_cons (pv 1) pa_nil)) (pa_cons (pe_call G__law_same_rules (hr.mono (by decide)) rfl T.f__law_same_rules.g T.f__law_same_rules.k B__law_same_rules .nil pass0 (pa_cons (pv 0) (pa_cons (pv 1) pa_nil))) pa_nil))) (by rfl))
    (pss_cons (ps_set (i := 7) sc__law_right.nd rfl (by first | exact Or.inl rfl | exact Or.inr rfl) (pe_callG G_compared hfr (hr.mono (by decide)) rfl T.f_compared.g T.f_compared.k B_compared (pa_cons (pv 4) (pa_cons (pv 5) pa_nil))))
    (pss_cons (ps_if (PW.pt (pw_or (pt_not (pt_val (pe_callB (call_isi) (by rfl) T.b_isinstance (by decide +kernel) (pa_cons (pv 7) (pa_cons (pe_glob (v := .ref a.c_Answer) rfl T.c_Answer.g rfl) pa_nil))))) (pw_or1 (pt_cmpR (op_neD hr.units) (pe_lst (pa_cons (pe_callB (call_isi) (by rfl) T.b_isinstance (by decide +kernel) (pa_cons (pv 7) (pa_cons (pe_glob (v := .ref a.c_Alike) rfl T.c_Alike.g rfl) pa_nil))) (pa_cons (pe_callB (call_isi) (by rfl) T.b_isinstance (by decide +kernel) (pa_cons (pv 7) (pa_cons (pe_glob (v := .ref a.c_Parted) rfl T.c_Parted.g rfl) pa_nil))) pa_nil))) (pe_lst (pa_cons (pv 6) (pa_cons (pe_not (pv 6)) pa_nil))) (nomark _))))) (pss_one (ps_ret pe_bl)) pss_nil)
    (pss_cons (ps_if (pt_cmpR op_notBl (pe_methG (pv 7) cC mC gC hfr (hr.mono (by decide)) bC (pa_cons (pv 4) (pa_cons (pv 5) pa_nil))) pe_bl (nomark _)) (pss_one (ps_ret pe_bl)) pss_nil)
    (pss_cons (ps_if (pt_val (pv 6)) (pss_one (ps_if (pt_not (pt_val (pe_callB (cr_all rfl) (by rfl) T.b_all (by decide +kernel) (pa_cons (pe_lc (own := [("_law_text_here", 10)]) (g := gName 10) (tt := tYes) rfl sc__law_right.nd (pi_list (pv 2)) (blkOk_by (own := [("_law_text_here", 10)]) (N := N__law_right) (sc := defScope st__law_right) (by decide +kernel)) (fun _ _ _ _ _ => (pg_name (i := 10) sc__law_right.nd rfl (by first | exact Or.inl rfl | exact Or.inr rfl))) (fun _ _ _ _ _ => pts_nil) (fun _ _ _ _ _ => (pe_call G__law_alike (hr.mono (by decide)) rfl T.f__law_alike.g T.f__law_alike.k B__law_alike .nil pass0 (pa_cons (pv 0) (pa_cons (pv 1) (pa_cons (pv 10) pa_nil)))))) pa_nil)))) (pss_one (ps_ret pe_bl)) pss_nil)) (pss_one (ps_if (PW.pt (pw_or (pt_val (pe_call G__law_alike (hr.mono (by decide)) rfl T.f__law_alike.g T.f__law_alike.k B__law_alike .nil pass0 (pa_cons (pv 0) (pa_cons (pv 1) (pa_cons (pe_fld (pv 7) rfl) pa_nil))))) (pw_or (pt_val (pe_call G__law_shorter (hr.mono (by decide)) rfl T.f__law_shorter.g T.f__law_shorter.k B__law_shorter .nil pass0 (pa_cons (pv 0) (pa_cons (pv 1) (pa_cons (pe_callB ((call_min2 rfl)) (by rfl) T.b_min (by decide +kernel) (pa_cons pe_int (pa_cons (pe_callB call_len_str (by rfl) T.b_len PySem.boot_len (pa_cons (pe_fld (pv 7) rfl) pa_nil)) pa_nil))) pa_nil))))) (pw_or1 (pt_cmpR op_gt (pe_callB call_len_str (by rfl) T.b_len PySem.boot_len (pa_cons (pe_fld (pv 7) rfl) pa_nil)) pe_int (nomark _)))))) (pss_one (ps_ret pe_bl)) pss_nil)))
    (pss_cons (ps_for PassesOwn.never rfl (pi_list (pv 3)) (pg_name (i := 8) sc__law_right.nd rfl (by first | exact Or.inl rfl | exact Or.inr rfl))
    (pss_cons (ps_set (i := 9) sc__law_right.nd rfl (by first | exact Or.inl rfl | exact Or.inr rfl) (pe_call G__law_same_rules (hr.mono (by decide)) rfl T.f__law_same_rules.g T.f__law_same_rules.k B__law_same_rules .nil pass0 (pa_cons (pv 0) (pa_cons (pv 8) pa_nil))))
    (pss_cons (ps_if (pt_not (pt_val (pv 6))) (pss_one (ps_set (i := 9) sc__law_right.nd rfl (by first | exact Or.inl rfl | exact Or.inr rfl) (pe_and (pe_not (pe_call G__law_alike (hr.mono (by decide)) rfl T.f__law_alike.g T.f__law_alike.k B__law_alike .nil pass0 (pa_cons (pv 0) (pa_cons (pv 8) (pa_cons (pe_fld (pv 7) rfl) pa_nil))))) (pe_one (pe_not (pe_call G__law_shorter (hr.mono (by decide)) rfl T.f__law_shorter.g T.f__law_shorter.k B__law_shorter .nil pass0 (pa_cons (pv 0) (pa_cons (pv 8) (pa_cons (pe_callB call_len_str (by rfl) T.b_len PySem.boot_len (pa_cons (pe_fld (pv 7) rfl) pa_nil)) pa_nil))))))))) pss_nil)
    (pss_one (ps_if (pt_cmpR op_ne (pe_callTy (call_str_data hfr hr.units) (by rfl) T.b_str (by decide +kernel) (pa_cons (pe_lst (pa_cons (pe_methG (pv 7) cC mC gC hfr (hr.mono (by decide)) bC (pa_cons (pv 4) (pa_cons (pe_call G__law_rules (hr.mono (by decide)) rfl T.f__law_rules.g T.f__law_rules.k B__law_rules .nil pass0 (pa_cons (pv 8) pa_nil)) pa_nil))) pa_nil)) pa_nil)) (pe_callTy (call_str_data hfr hr.units) (by rfl) T.b_str (by decide +kernel) (pa_cons (pe_lst (pa_cons (pv 9) pa_nil)) pa_nil)) (nomark _)) (pss_one (ps_ret pe_bl)) pss_nil)))))
    (pss_one (ps_ret pe_bl))))))))
      , ?_⟩
    rw [show start N__law_right [V.ref tp, V.ref tp', V.ref tl, V.ref ol] = [some (.ref tp), some (.ref tp'), some (.ref tl), some (.ref ol), none, none, none, none, none, none, none] from rfl]
    refine tseq_split (fun σ' G => ∃ p1 d1 p2 d2, σ' = [some (.ref tp), some (.ref tp'), some (.ref tl), some (.ref ol), some (.ref p1), some (.ref p2), some (.bl B), none, none, none, none] ∧ Same H G ∧ G p1 = some (.ins a.c_Rules d1 r.f) ∧ G p2 = some (.ins a.c_Rules d2 r'.f)) (fun N hN => ?_) ?_
    · walk_at "rd"
      refine ⟨tp, r, rfl, h1, ok, fun p1 d1 F1 n1 x1 s1 => ?_⟩
      refine ⟨tp', r', rfl, s1 _ _ h2, ok', fun p2 d2 F2 n2 x2 s2 => ?_⟩
      refine ⟨tp, tp', r, r', rfl, s2 _ _ (s1 _ _ h1), s2 _ _ (s1 _ _ h2), ok, ok', fun b F3 hb s3 => ?_⟩
      have eb : b = B := Bool.eq_iff_iff.mpr (hb.trans hB.symm)
      rw [eb]
      exact hN _ _ ⟨p1, d1, p2, d2, rfl, (s1.trans s2).trans s3, s3 _ _ (s2 _ _ x1), s3 _ _ x2⟩
    rintro σ1 G1 ⟨p1, d1, p2, d2, rfl, s1, x1, x2⟩
    refine tseq_split (fun σ' G => ∃ qf o, σ' = [some (.ref tp), some (.ref tp'), some (.ref tl), some (.ref ol), some (.ref p1), some (.ref p2), some (.bl B), some (.ref qf), none, none, none] ∧ Same G1 G ∧ FirstT r r' o ∧ o.isNone = B ∧ AnsC a G qf o) (fun N hN => ?_) ?_
    · walk_at "rd"
      refine ⟨p1, d1, r, p2, d2, r', rfl, x1, x2, ok, ok', fun qf o F ft nq sF an => ?_⟩
      exact hN _ _ ⟨qf, o, rfl, sF, ft, Bool.eq_iff_iff.mpr ((first_same_iff ft).trans hB.symm), an⟩
    rintro σ2 G2 ⟨qf, o, rfl, s2, hft, hoB, an2⟩
    have htx : ∀ t, o = some t → t.length ≤ 3 ∧ t.all sgn = true := fun t e => by
      rw [e] at hft
      exact ⟨hft.1.l, hft.2⟩
    have x1' := s2 _ _ x1
    have x2' := s2 _ _ x2
    have s02 := s1.trans s2
    refine tseq_split (fun σ' G => σ' = [some (.ref tp), some (.ref tp'), some (.ref tl), some (.ref ol), some (.ref p1), some (.ref p2), some (.bl B), some (.ref qf), none, none, none] ∧ Same G2 G) (fun N hN => ?_) ?_
    · obtain ⟨y1, y2⟩ : (∃ C, TyX K G2 (.ref qf) (.ref C) ∧ PySem.W.kitOne K (.ref C) (.ref a.c_Answer) = some true ∧ PySem.W.kitOne K (.ref C) (.ref a.c_Alike) = some B ∧ PySem.W.kitOne K (.ref C) (.ref a.c_Parted) = some (!B)) ∧ True := by
        refine ⟨?_, trivial⟩
        cases o with
        | none =>
          obtain ⟨dx, e⟩ := an2
          rw [← hoB]
          exact ⟨_, ty_Alike T e, T.k_AlAn, T.k_AlAl, T.k_AlPa⟩
        | some t =>
          obtain ⟨dx, e⟩ := an2
          rw [← hoB]
          exact ⟨_, ty_Parted T e, T.k_PaAn, T.k_PaAl, T.k_PaPa⟩
      obtain ⟨C, ty, ka, kl, kp⟩ := y1
      walk_at "rd"
      refine ⟨_, _, .own _, ty, _, ka, ite2 (fun z => by cases z) (fun _ => ⟨_, _, .own _, ty, _, kl, _, _, .own _, ty, _, kp, fun q1 hq1 q2 hq2 => ?_⟩)⟩
      have m1 := same_new (o := HO.lst [V.bl B, V.bl (!B)]) hq1
      have m2 := same_new (o := HO.lst [V.bl B, V.bl (!B)]) hq2
      refine ⟨.list [.bool B, .bool (!B)], .lst (.inl (.inl (m2 _ _ upd_same))) (.cons (.bl _) (.cons (.bl _) .nil)), .list [.bool B, .bool (!B)], .lst (.inl (.inl upd_same)) (.cons (.bl _) (.cons (.bl _) .nil)), shown_two B, shown_two B, ?_⟩
      rw [show PyData.eqv (.list [.bool B, .bool (!B)]) (.list [.bool B, .bool (!B)]) = true by cases B <;> decide]
      exact ite2 (fun z => by cases z) (fun _ => hN _ _ ⟨rfl, m1.trans m2⟩)
    rintro σ3 G3 ⟨rfl, s3⟩
    have an3 := an2.same s3
    refine tseq_split (fun σ' G => σ' = [some (.ref tp), some (.ref tp'), some (.ref tl), some (.ref ol), some (.ref p1), some (.ref p2), some (.bl B), some (.ref qf), none, none, none] ∧ Same G3 G) (fun N hN => ?_) ?_
    · walk_at "rd"
      obtain ⟨dx, fs, e1, e2⟩ := an3.cls5 hoB
      refine ⟨dx, fs, e1, e2, sp5_at an3 hoB (s3 _ _ x1') (s3 _ _ x2') ok ok' htx fun o3 F ft sF => ⟨_, rfl, ?_⟩⟩
      have : due5 r r' o o3 = true := by
        cases o with
        | none => exact (first_same_iff ft).mpr hft
        | some t =>
          show shownC r r' t o3 = true
          cases o3 with
          | none => exact absurd ft (not_same hft.1.p)
          | some u =>
            show (decide (u.length = t.length) && !alikeT r r' t) = true
            rw [hft.1.p, decide_eq_true (ft.1.len hft.1)]
            rfl
      rw [this]
      exact ite2 (fun z => absurd rfl z) (fun _ => hN _ _ ⟨rfl, sF⟩)
    rintro σ4 G4 ⟨rfl, s4⟩
    have an4 := an3.same s4
    have s04 := (s02.trans s3).trans s4
    refine tseq_split (fun σ' G => ∃ v, σ' = [some (.ref tp), some (.ref tp'), some (.ref tl), some (.ref ol), some (.ref p1), some (.ref p2), some (.bl B), some (.ref qf), none, none, v] ∧ Same G4 G) (fun N hN => ?_) ?_
    · walk_at "rc"
      have t1 := s04 _ _ h1
      have t2 := s04 _ _ h2
      have t3 := s04 _ _ h3
      refine ite2 (fun c => ?_) (fun c => ?_)
      · have hs := hB.mp c
        refine tlc_map ts (fun _ => .bl true) (J := Itl K tl) (H1 := G4) (G := fun H => SqL K H tl (ts.map sV)) (fun R hR => ?_) (List.length_map (as := ts) sV ▸ walk_list) (by omega) (fun H s => .inl (.inl (s _ _ t3))) ?_ ?_
        · walk_at "rd"
          exact ⟨⟨_, .inl (.inl t3)⟩, hR⟩
        · rintro R R' j t x F1 F2 hj g ⟨rfl, hx⟩ hR
          rw [List.getElem?_map, hj] at hx
          cases hx
          obtain ⟨o1, o2⟩ := hT t (List.mem_of_getElem? hj)
          walk_at "rd"
          refine ⟨tp, tp', r, r', t, rfl, g _ _ t1, g _ _ t2, ok, ok', by omega, o2, fun F3 m3 => ?_⟩
          rw [same_alike hs]
          exact hR _ m3
        intro D F hD sF eD
        refine ⟨D, rfl, ts.map fun _ => true, .inl (.inl (by rw [List.map_map]; exact eD)), ?_⟩
        rw [show (ts.map fun _ => true).all id = true from List.all_eq_true.mpr fun b hb => by
          obtain ⟨_, _, rfl⟩ := List.mem_map.mp hb
          rfl]
        exact ite2 (fun z => by cases z) (fun _ => hN _ _ ⟨_, rfl, sF⟩)
      · have cb : B = false := by simpa using c
        obtain ⟨t, rfl⟩ : ∃ t, o = some t := by
          cases o with
          | none => rw [cb] at hoB; cases hoB
          | some t => exact ⟨t, rfl⟩
        obtain ⟨dx, hq⟩ := an4
        have M := hft.1
        have tl := M.l
        have lk : List.lookup (Str.ofString "text") [(Str.ofString "text", V.str (S t))] = some (.str (S t)) := by kernel_rfl
        have sz : (S t).length ≤ sizeLine := by rw [S_len]; exact Nat.le_trans tl (by decide)
        refine ⟨_, _, _, hq, T.c_Parted.cl, T.n_Parted_text, _, lk, tp, tp', r, r', t, rfl, t1, t2, ok, ok', by omega, hft.2, fun F1 m1 => ⟨_, rfl, ?_⟩⟩
        rw [M.p]
        refine ite2 (fun z => by cases z) (fun _ => ?_)
        refine ⟨_, _, _, m1 _ _ hq, T.c_Parted.cl, T.n_Parted_text, _, lk, S t, rfl, sz, tp, tp', r, r', min 4 t.length, ?_, m1 _ _ t1, m1 _ _ t2, ok, ok', dr, dr', by omega, fun b F2 hb m2 => ⟨_, rfl, ?_⟩⟩
        · rw [S_len]
          have : (if (t.length : Int) < 4 then (t.length : Int) else 4) = ((min 4 t.length : Nat) : Int) := by split <;> omega
          rw [this]
        have bf : b = false := by
          cases b with
          | false => rfl
          | true =>
            obtain ⟨s, b1, b2⟩ := hb.mp rfl
            have := M.m s (by omega)
            rw [b2] at this; cases this
        rw [bf]
        refine ite2 (fun z => by cases z) (fun _ => ?_)
        refine ⟨_, _, _, m2 _ _ (m1 _ _ hq), T.c_Parted.cl, T.n_Parted_text, _, lk, S t, rfl, sz, ?_⟩
        rw [S_len]
        exact ite2 (fun z => absurd (show (4 : Int) < (t.length : Nat) from z) (by omega)) (fun _ => hN _ _ ⟨_, rfl, m1.trans m2⟩)
    rintro σ5 G5 ⟨v, rfl, s5⟩
    have an5 := an4.same s5
    have s05 := s04.trans s5
    have x15 := s5 _ _ (s4 _ _ (s3 _ _ x1'))
    refine tseq_split (fun _ G => Same H G) (fun N hN => ?_) ?_
    · have h4' := s05 _ _ h4
      refine tfor_it (J := Itl K ol) (H1 := G5) (n := (os.map V.ref).length) (G := fun H => SqL K H ol (os.map V.ref)) (fun R hR => ?_) walk_list (fun k σ G => ∃ v8 v9, σ = [some (.ref tp), some (.ref tp'), some (.ref tl), some (.ref ol), some (.ref p1), some (.ref p2), some (.bl B), some (.ref qf), v8, v9, v] ∧ Same G5 G) ⟨_, _, rfl, Same.refl _⟩ (fun k σ G _ h => by obtain ⟨_, _, _, h⟩ := h; exact .inl (.inl (h _ _ h4'))) ?_ ?_
      · walk_at "rd"
        exact ⟨⟨_, .inl (.inl h4')⟩, hR⟩
      · rintro k x σ G G' hk ⟨v8, v9, rfl, sG⟩ ⟨rfl, hx⟩
        rw [List.getElem?_map] at hx
        obtain ⟨t3, ht3, rfl⟩ := Option.map_eq_some_iff.mp hx
        obtain ⟨r3, e3, ok3, dr3⟩ := hos t3 (List.mem_of_getElem? ht3)
        have s0G := s05.trans sG
        refine tseq_split (fun σ' F => ∃ b, σ' = [some (.ref tp), some (.ref tp'), some (.ref tl), some (.ref ol), some (.ref p1), some (.ref p2), some (.bl B), some (.ref qf), some (.ref t3), some (.bl b), v] ∧ (b = true ↔ SameR r r3) ∧ Same G' F) (fun N2 hN2 => ?_) ?_
        · walk_at "rd"
          exact ⟨tp, t3, r, r3, rfl, s0G _ _ h1, s0G _ _ e3, ok, ok3, fun b F hb sF => hN2 _ _ ⟨b, rfl, hb, sF⟩⟩
        rintro σ6 G6 ⟨b, rfl, hb, s6⟩
        have s06 := s0G.trans s6
        have an6 := (an5.same sG).same s6
        refine tseq_split (fun σ' F => ∃ b, σ' = [some (.ref tp), some (.ref tp'), some (.ref tl), some (.ref ol), some (.ref p1), some (.ref p2), some (.bl B), some (.ref qf), some (.ref t3), some (.bl b), v] ∧ (∀ o3, FirstT r r3 o3 → due5 r r3 o o3 = b) ∧ Same G6 F) (fun N2 hN2 => ?_) ?_
        · walk_at "rd"
          have t1 := s06 _ _ h1
          have t3' := s06 _ _ e3
          refine ite2 (fun c => ?_) (fun c => ?_)
          · obtain ⟨t, rfl⟩ : ∃ t, o = some t := by
              cases o with
              | none => rw [c] at hoB; cases hoB
              | some t => exact ⟨t, rfl⟩
            obtain ⟨dx, hq⟩ := an6
            have M := hft.1
            have tl := M.l
            have lk : List.lookup (Str.ofString "text") [(Str.ofString "text", V.str (S t))] = some (.str (S t)) := by kernel_rfl
            have sz : (S t).length ≤ sizeLine := by rw [S_len]; exact Nat.le_trans tl (by decide)
            refine ⟨_, _, _, hq, T.c_Parted.cl, T.n_Parted_text, _, lk, tp, t3, r, r3, t, rfl, t1, t3', ok, ok3, by omega, hft.2, fun F1 m1 => ⟨_, rfl, ite2 (fun al => ?_) (fun al => ?_)⟩⟩
            · refine ⟨_, _, _, m1 _ _ hq, T.c_Parted.cl, T.n_Parted_text, _, lk, S t, rfl, sz, tp, t3, r, r3, t.length, ?_, m1 _ _ t1, m1 _ _ t3', ok, ok3, dr, dr3, by omega, fun b F2 hb m2 => ⟨b, rfl, hN2 _ _ ⟨!b, rfl, fun o3 ft => ?_, m1.trans m2⟩⟩⟩
              · rw [S_len]
              · show shownC r r3 t o3 = _
                rw [shown_due ft hb, al]
                rfl
            · refine hN2 _ _ ⟨false, rfl, fun o3 ft => ?_, m1⟩
              rw [Bool.not_eq_false] at al
              show shownC r r3 t o3 = false
              cases o3 with
              | none => rfl
              | some u =>
                show (decide (u.length = t.length) && !alikeT r r3 t) = false
                rw [al]
                simp
          · have cb : B = true := by simpa using c
            have on : o = none := by
              cases o with
              | none => rfl
              | some t => rw [cb] at hoB; cases hoB
            refine hN2 _ _ ⟨b, rfl, fun o3 ft => ?_, Same.refl _⟩
            rw [on]
            exact Bool.eq_iff_iff.mpr ((first_same_iff ft).trans hb.symm)
        rintro σ7 G7 ⟨b', rfl, hb', s7⟩
        have s07 := s06.trans s7
        have an7 := an6.same s7
        walk_at "rd"
        obtain ⟨dx, fs, e1, e2⟩ := an7.cls5 hoB
        have x17 := s7 _ _ (s6 _ _ (sG _ _ x15))
        refine ⟨dx, fs, e1, e2, t3, r3, rfl, s07 _ _ e3, ok3, fun p3 d3 F1 n3 x3 m1 => ?_⟩
        refine sp5_at (an7.same m1) hoB (m1 _ _ x17) x3 ok ok3 htx fun o3 F2 ft m2 q1 hq1 => ?_
        rw [hb' o3 ft]
        obtain ⟨u1, u2, u3, u4⟩ := shown_bool b'
        have m3 := same_new (o := HO.lst [V.bl b']) hq1
        refine ⟨.list [.bool b'], .lst (.inl (.inl upd_same)) (.cons (.bl _) .nil), u1, u2, u3, u4, fun q2 hq2 => ?_⟩
        have m4 := same_new (o := HO.lst [V.bl b']) hq2
        refine ⟨.list [.bool b'], .lst (.inl (.inl upd_same)) (.cons (.bl _) .nil), u1, u2, u3, u4, ite2 (fun z => absurd rfl z) (fun _ => ?_)⟩
        exact ((((sG.trans s6).trans s7).trans m1).trans m2).trans (m3.trans m4)
      · rintro σ G ⟨v8, v9, rfl, sG⟩
        exact hN _ _ (s05.trans sG)
    rintro σ8 G8 s8
    walk_at "rd"
    exact k _ s8
end
end Qw

set_option Elab.async false
set_option linter.all false
set_option maxRecDepth 100000
set_option maxHeartbeats 4000000
namespace Qw
open PySem L2
/-! ### the law -/
theorem call_isiKK {X : Cx} {K : PySem.W.Frag} (h : X.K = K) : CallR X (.builtin "isinstance") (rIsi K) := by
  subst h
  exact call_isi
section
variable {P : Program} {w : World} {K : PySem.W.Frag} {mg : Str → Option Value} {base : Heap} {a : Ad}
abbrev dfR : List V := [.str (" " : Str), .str ("'" : Str), .str ("\"" : Str), .str ("\\" : Str), .str ("#" : Str)]
theorem bi_Rules_init1 (T : Txt K mg a) : ∃ ds, Vals [.str ("'" : Str), .str ("\"" : Str), .str ("\\" : Str), .str ("#" : Str)] ds ∧ Binds K a.d_Rules_init P_Rules_init ds :=
  T.F_Rules_init.binds1 (ps := P_Rules_init) 2 1 (by decide) rfl fun T kV doc pm an cdv ct us its h1 h2 =>
    match us, h1, its, h2 with
    | [_, _], _, [_, _, _, _, _], _ => ⟨_, rfl, rfl⟩
def gK3 {α : Type} (us ds zs : List α) : List α := us ++ ds.take 4 ++ zs
theorem bi_K3 (T : Txt K mg a) : ∃ its : List Value, KBn K a.d_Rules_init P_Rules_init 1 ["note"] (fun us ws => gK3 us its ws) (fun vs zs => gK3 vs dfR zs) :=
  T.F_Rules_init.kbindsD (ps := P_Rules_init) 1 ["note"] gK3 (by simp) (fun r1 r2 r3 => Paired.app (Paired.app r1 (Paired.take' 4 r2)) r3)
    fun T kV doc pm an cdv ct us its ws h1 h2 h3 => match us, h1, its, h2, ws, h3 with
      | [_], _, [_, _, _, _, _], _, [_], _ => ⟨_, rfl, rfl⟩
def gK5 {α : Type} (us ds zs : List α) : List α := us ++ (ds.drop 1).take 3 ++ zs
theorem bi_K5 (T : Txt K mg a) : ∃ its : List Value, KBn K a.d_Rules_init P_Rules_init 2 ["note"] (fun us ws => gK5 us its ws) (fun vs zs => gK5 vs dfR zs) :=
  T.F_Rules_init.kbindsD (ps := P_Rules_init) 2 ["note"] gK5 (by simp) (fun r1 r2 r3 => Paired.app (Paired.app r1 (Paired.take' 3 (Paired.drop' 1 r2))) r3)
    fun T kV doc pm an cdv ct us its ws h1 h2 h3 => match us, h1, its, h2, ws, h3 with
      | [_, _], _, [_, _, _, _, _], _, [_], _ => ⟨_, rfl, rfl⟩
def gK6 {α : Type} (us ds zs : List α) : List α := us ++ ds.take 1 ++ zs.drop 1 ++ zs.take 1 ++ ds.drop 3
theorem bi_K6 (T : Txt K mg a) : ∃ its : List Value, KBn K a.d_Rules_init P_Rules_init 1 ["soft", "hard"] (fun us ws => gK6 us its ws) (fun vs zs => gK6 vs dfR zs) :=
  T.F_Rules_init.kbindsD (ps := P_Rules_init) 1 ["soft", "hard"] gK6 (by simp) (fun r1 r2 r3 => Paired.app (Paired.app (Paired.app (Paired.app r1 (Paired.take' 1 r2)) (Paired.drop' 1 r3)) (Paired.take' 1 r3)) (Paired.drop' 3 r2))
    fun T kV doc pm an cdv ct us its ws h1 h2 h3 => match us, h1, its, h2, ws, h3 with
      | [_], _, [_, _, _, _, _], _, [_, _], _ => ⟨_, rfl, rfl⟩
def gK7 {α : Type} (us ds zs : List α) : List α := us ++ ds.take 3 ++ zs ++ ds.drop 4
theorem bi_K7 (T : Txt K mg a) : ∃ its : List Value, KBn K a.d_Rules_init P_Rules_init 1 ["bend"] (fun us ws => gK7 us its ws) (fun vs zs => gK7 vs dfR zs) :=
  T.F_Rules_init.kbindsD (ps := P_Rules_init) 1 ["bend"] gK7 (by simp) (fun r1 r2 r3 => Paired.app (Paired.app (Paired.app r1 (Paired.take' 3 r2)) r3) (Paired.drop' 4 r2))
    fun T kV doc pm an cdv ct us its ws h1 h2 h3 => match us, h1, its, h2, ws, h3 with
      | [_], _, [_, _, _, _, _], _, [_], _ => ⟨_, rfl, rfl⟩
def gK8 {α : Type} (us ds zs : List α) : List α := us ++ ds.take 1 ++ zs.drop 1 ++ zs.take 1 ++ ds.drop 4
theorem bi_K8 (T : Txt K mg a) : ∃ its : List Value, KBn K a.d_Rules_init P_Rules_init 1 ["bend", "hard", "soft"] (fun us ws => gK8 us its ws) (fun vs zs => gK8 vs dfR zs) :=
  T.F_Rules_init.kbindsD (ps := P_Rules_init) 1 ["bend", "hard", "soft"] gK8 (by simp) (fun r1 r2 r3 => Paired.app (Paired.app (Paired.app (Paired.app r1 (Paired.take' 1 r2)) (Paired.drop' 1 r3)) (Paired.take' 1 r3)) (Paired.drop' 4 r2))
    fun T kV doc pm an cdv ct us its ws h1 h2 h3 => match us, h1, its, h2, ws, h3 with
      | [_], _, [_, _, _, _, _], _, [_, _, _], _ => ⟨_, rfl, rfl⟩
/-- what stays while the law draws -/
structure LI (K : PySem.W.Frag) (ns : List Int) (st tp tp' : Addr) (r r' : RS) (G : Hp) : Prop where
  t : Stt K ns G st
  e : G tp = some (.tup r.tup)
  e' : G tp' = some (.tup r'.tup)
theorem LI.same {ns : List Int} {st tp tp' : Addr} {r r' : RS} {G G' : Hp} (h : LI K ns st tp tp' r r' G) (s : Same G G') : LI K ns st tp tp' r r' G' := ⟨h.t.same s, s _ _ h.e, s _ _ h.e'⟩
theorem LI.kp {ns : List Int} {st tp tp' : Addr} {r r' : RS} {G G' : Hp} (h : LI K ns st tp tp' r r' G) (t : Stt K ns G' st) (k : Kp st G G') : LI K ns st tp tp' r r' G' := by
  obtain ⟨xs, e⟩ := h.t.has
  exact ⟨t, k _ _ h.e (fun z => by have := h.e; rw [z, e] at this; cases this), k _ _ h.e' (fun z => by have := h.e'; rw [z, e] at this; cases this)⟩
/-! the rules at the end -/
def rA : RS := ⟨[32, 10], [39], [34], [92], [35]⟩
def rN : RS := ⟨[32], [39], [34], [92], [10]⟩
def rL : RS := ⟨[10], [39], [34], [92], [35]⟩
def rL0 : RS := ⟨[10], [39], [34], [92], []⟩
def rSw : RS := ⟨[32], [34], [39], [92], [35]⟩
def rB : RS := ⟨[32], [39], [34], [], [35]⟩
def rBs : RS := ⟨[32], [], [39, 34], [], [35]⟩
theorem rA_ok : rA.Ok := ⟨by decide, by decide, by decide, by decide, by decide, by decide, by decide, by decide⟩
theorem rN_ok : rN.Ok := ⟨by decide, by decide, by decide, by decide, by decide, by decide, by decide, by decide⟩
theorem rL_ok : rL.Ok := ⟨by decide, by decide, by decide, by decide, by decide, by decide, by decide, by decide⟩
theorem rL0_ok : rL0.Ok := ⟨by decide, by decide, by decide, by decide, by decide, by decide, by decide, by decide⟩
theorem rSw_ok : rSw.Ok := ⟨by decide, by decide, by decide, by decide, by decide, by decide, by decide, by decide⟩
theorem rB_ok : rB.Ok := ⟨by decide, by decide, by decide, by decide, by decide, by decide, by decide, by decide⟩
theorem rBs_ok : rBs.Ok := ⟨by decide, by decide, by decide, by decide, by decide, by decide, by decide, by decide⟩
theorem alike_nil (r r' : RS) : alikeT r r' [] = true := by simp [alikeT, Ky.run, Ky.zero, Ky.fault]
theorem first_one {r r' : RS} {o : Option Tx} {c : Nat} (h : FirstT r r' o) (p : alikeT r r' [c] = false) : ∃ t, o = some t ∧ t.length = 1 := by
  have m : MinP r r' [c] := ⟨p, by simp, fun s hs => by
    have : s = [] := by
      cases s with
      | nil => rfl
      | cons x s => simp at hs
    rw [this]
    exact alike_nil r r'⟩
  cases o with
  | none => exact absurd h (not_same p)
  | some t => exact ⟨t, rfl, h.1.len m⟩
theorem small_sw : (allT (fewT usual rSw) 0 ++ allT (fewT usual rSw) 1 ++ allT (fewT usual rSw) 2).all (fun s => alikeT usual rSw s) = true := by decide +kernel
theorem first_three {o : Option Tx} (h : FirstT usual rSw o) : ∃ t, o = some t ∧ t.length = 3 := by
  have p : alikeT usual rSw [39, 92, 39] = false := by decide
  have m : MinP usual rSw [39, 92, 39] := ⟨p, by decide, fun s hs => by
    have hs : s.length < 3 := hs
    cases e : alikeT usual rSw s with
    | true => rfl
    | false =>
      obtain ⟨u, u1, u2, u3⟩ := rep_rep usual_ok rSw_ok (rep_few usual_ok rSw_ok) (by omega) e
      have mem : u ∈ allT (fewT usual rSw) 0 ++ allT (fewT usual rSw) 1 ++ allT (fewT usual rSw) 2 := by
        have hm := (allT_mem u.length u).mpr ⟨u2, rfl⟩
        rw [List.mem_append, List.mem_append]
        have : u.length = 0 ∨ u.length = 1 ∨ u.length = 2 := by omega
        rcases this with z | z | z <;> rw [z] at hm
        · exact .inl (.inl hm)
        · exact .inl (.inr hm)
        · exact .inr hm
      have := List.all_eq_true.mp small_sw u mem
      rw [u3] at this; cases this⟩
  cases o with
  | none => exact absurd h (not_same p)
  | some t => exact ⟨t, rfl, h.1.len m⟩
theorem same_B : SameR rB rBs := (same_perm rB_ok rBs_ok).mpr ⟨⟨by decide, rfl, rfl⟩, by decide, .inl rfl⟩
theorem gK3_e (x z : V) : gK3 [x] dfR [z] = [x, .str (" " : Str), .str ("'" : Str), .str ("\"" : Str), .str ("\\" : Str), z] := rfl
theorem gK5_e (x y z : V) : gK5 [x, y] dfR [z] = [x, y, .str ("'" : Str), .str ("\"" : Str), .str ("\\" : Str), z] := rfl
theorem gK6_e (x s h : V) : gK6 [x] dfR [s, h] = [x, .str (" " : Str), h, s, .str ("\\" : Str), .str ("#" : Str)] := rfl
theorem gK7_e (x z : V) : gK7 [x] dfR [z] = [x, .str (" " : Str), .str ("'" : Str), .str ("\"" : Str), z, .str ("#" : Str)] := rfl
theorem gK8_e (x b h s : V) : gK8 [x] dfR [b, h, s] = [x, .str (" " : Str), h, s, b, .str ("#" : Str)] := rfl
local macro_rules | `(tactic| walk_at "rd") => `(tactic| simp only [tMakeK, gK3_e, gK5_e, gK6_e, gK7_e, gK8_e, tOrT, tMakeBare, tDNewK, tDGet2, iEnumS, tDGet, tDIn, tDNotIn, sDPut, tDNewT, tLstRg, tRg2, iEnum, iRng3, tRevL, rSlS, rSlL, gSub, rSetL, wipe, List.map_cons, List.map_nil, rAll, rAny, rIsi, tM1, tM0, iZipLT, iZip, iRng2, tLenSetS, rListStr, rMulS, rRep, rCntB, tRevS, rNeD, rEqD, tSeq, tNext, tAsg, tRet, tRetN, tDrop, tIfS, sFld, sFldAug, tVar, tC, tOp, tUn, tTest, tB, tAnd, tOr, tNot, tAndV, tOrV, tNotV, tIf, tTup, tLst, tCons, tNil, tCB, tCall, tMeth, tMake, tFld, rI, rI0, rU, rEq, rNe, rCat, gName, gTup, gCons, gNil, tPar, tPar3, tBM, tBM0, rAppend, rExtend, rPopAt, rIxL, rIxT, rIxS, tSl, rSlS, rSlL, tPart, tNoPart, iStr, iTup, iList, iRng1, tAug, ipI, L2.rAdd, L2.rSub, L2.rAddS, tChain, rIsB, rNotB, scal_ss, scal_ii, scal_bb, scal_nn, scal_in, scal_ni, tYes,
  cx_K, cx_N, List.getElem?_cons_zero, List.getElem?_cons_succ, List.set_cons_zero, List.set_cons_succ, List.nil_append, List.cons_append, List.append_nil, List.length_cons, List.length_nil, Nat.zero_add,
  Option.some.injEq, V.ref.injEq, V.int.injEq, V.str.injEq, V.bl.injEq, HO.ins.injEq, HO.lst.injEq, HO.tup.injEq, List.cons.injEq, exists_eq_left, exists_eq_left', exists_eq_right, exists_eq_right', and_true, true_and, exists_and_left, exists_and_right, and_assoc, decide_eq_true_eq, Bool.not_eq_true', decide_eq_false_iff_not, reduceCtorEq, exists_const, forall_const, if_true, if_false, false_and, and_false, ite_true, ite_false, Bool.true_eq_false, Bool.false_eq_true, Nat.reduceLeDiff, Nat.reduceAdd, small_line, small_lt, upd_ne, ne_eq, not_false_eq_true, Nat.zero_le, Prod.mk.injEq, upd_same, upd_upd, S_tl, S_len, S_app, S_one, S_inj,
  lk_breaks, lk_hard, lk_soft, lk_bend, lk_note, lk_rules, lk_state, lk_bent, lk_word, lk_begun, lk_opened, lk_place, pt_state, pt_bent, pt_word, pt_wordS, pt_wordN, pt_begun, pt_opened, pt_place, pt_place1, len_mf, litv_empty, litv_note, litv_nl, mf_inj, rf_inj, lkn_begin, lkn_ended, lkn_plain, lkn_quoted, lkn_step, lkn_fault, lkn_key, lkn_told, lkn_quotes, lkn_special, pt_open1, not_true_eq_false, not_false_eq_true])
local macro_rules | `(tactic| walk_at "rdh") => `(tactic| simp only [tMakeK, gK3_e, gK5_e, gK6_e, gK7_e, gK8_e, tOrT, tMakeBare, tDNewK, tDGet2, iEnumS, tDGet, tDIn, tDNotIn, sDPut, tDNewT, tLstRg, tRg2, iEnum, iRng3, tRevL, rSlS, rSlL, gSub, rSetL, wipe, List.map_cons, List.map_nil, rAll, rAny, rIsi, tM1, tM0, iZipLT, iZip, iRng2, tLenSetS, rListStr, rMulS, rRep, rCntB, tRevS, rNeD, rEqD, tSeq, tNext, tAsg, tRet, tRetN, tDrop, tIfS, sFld, sFldAug, tVar, tC, tOp, tUn, tTest, tB, tAnd, tOr, tNot, tAndV, tOrV, tNotV, tIf, tTup, tLst, tCons, tNil, tCB, tCall, tMeth, tMake, tFld, rI, rI0, rU, rEq, rNe, rCat, gName, gTup, gCons, gNil, tPar, tPar3, tBM, tBM0, rAppend, rExtend, rPopAt, rIxL, rIxT, rIxS, tSl, rSlS, rSlL, tPart, tNoPart, iStr, iTup, iList, iRng1, tAug, ipI, L2.rAdd, L2.rSub, L2.rAddS, tChain, rIsB, rNotB, scal_ss, scal_ii, scal_bb, scal_nn, scal_in, scal_ni, tYes,
  cx_K, cx_N, List.getElem?_cons_zero, List.getElem?_cons_succ, List.set_cons_zero, List.set_cons_succ, List.nil_append, List.cons_append, List.append_nil, List.length_cons, List.length_nil, Nat.zero_add,
  Option.some.injEq, V.ref.injEq, V.int.injEq, V.str.injEq, V.bl.injEq, HO.ins.injEq, HO.lst.injEq, HO.tup.injEq, List.cons.injEq, exists_eq_left, exists_eq_left', exists_eq_right, exists_eq_right', and_true, true_and, exists_and_left, exists_and_right, and_assoc, decide_eq_true_eq, Bool.not_eq_true', decide_eq_false_iff_not, reduceCtorEq, exists_const, forall_const, if_true, if_false, false_and, and_false, ite_true, ite_false, Bool.true_eq_false, Bool.false_eq_true, Nat.reduceLeDiff, Nat.reduceAdd, small_line, small_lt, upd_ne, ne_eq, not_false_eq_true, Nat.zero_le, Prod.mk.injEq, upd_same, upd_upd, S_tl, S_len, S_app, S_one, S_inj,
  lk_breaks, lk_hard, lk_soft, lk_bend, lk_note, lk_rules, lk_state, lk_bent, lk_word, lk_begun, lk_opened, lk_place, pt_state, pt_bent, pt_word, pt_wordS, pt_wordN, pt_begun, pt_opened, pt_place, pt_place1, len_mf, litv_empty, litv_note, litv_nl, mf_inj, rf_inj, lkn_begin, lkn_ended, lkn_plain, lkn_quoted, lkn_step, lkn_fault, lkn_key, lkn_told, lkn_quotes, lkn_special, pt_open1, not_true_eq_false, not_false_eq_true, *])
local macro_rules | `(tactic| walk_at "pl") => `(tactic| (first | decide | (refine Nat.lt_of_le_of_lt (length_putF _ _ _) ?_; repeat (first | decide | refine pl2 ?_))))
local macro_rules | `(tactic| walk_at "al") => `(tactic| (intro p hp; generalize hH : upd _ p _ = H1; obtain ⟨S, e⟩ := gen_new hH hp; clear hH))
local macro_rules | `(tactic| walk_at "rc") => `(tactic| simp only [tDNewK, tDGet2, iEnumS, tDGet, tDIn, tDNotIn, sDPut, tDNewT, tLstRg, tRg2, iEnum, iRng3, tRevL, rSlS, rSlL, gSub, rSetL, wipe, List.map_cons, List.map_nil, rAll, rAny, rIsi, tM1, tM0, iZipLT, iZip, iRng2, tLenSetS, rListStr, rMulS, rRep, rCntB, tRevS, rNeD, rEqD, tNext, tAsg, tRet, tRetN, tDrop, tIfS, sFld, sFldAug, tVar, tC, tOp, tUn, tTest, tB, tAnd, tOr, tNot, tAndV, tOrV, tNotV, tIf, tTup, tLst, tCons, tNil, tCB, tCall, tMeth, tMake, tFld, rI, rI0, rU, rEq, rNe, rCat, gName, gTup, gCons, gNil, tPar, tPar3, tBM, tBM0, rAppend, rExtend, rPopAt, rIxL, rIxT, rIxS, tSl, rSlS, rSlL, tPart, tNoPart, iStr, iTup, iList, iRng1, tAug, ipI, L2.rAdd, L2.rSub, L2.rAddS, tChain, rIsB, rNotB, scal_ss, scal_ii, scal_bb, scal_nn, scal_in, scal_ni, tYes,
  cx_K, cx_N, List.getElem?_cons_zero, List.getElem?_cons_succ, List.set_cons_zero, List.set_cons_succ, List.nil_append, List.cons_append, List.append_nil, List.length_cons, List.length_nil, Nat.zero_add,
  Option.some.injEq, V.ref.injEq, V.int.injEq, V.str.injEq, V.bl.injEq, HO.ins.injEq, HO.lst.injEq, HO.tup.injEq, List.cons.injEq, exists_eq_left, exists_eq_left', exists_eq_right, exists_eq_right', and_true, true_and, exists_and_left, exists_and_right, and_assoc, decide_eq_true_eq, Bool.not_eq_true', decide_eq_false_iff_not, reduceCtorEq, exists_const, forall_const, if_true, if_false, false_and, and_false, ite_true, ite_false, Bool.true_eq_false, Bool.false_eq_true, Nat.reduceLeDiff, Nat.reduceAdd, small_line, small_lt, upd_ne, ne_eq, not_false_eq_true, Nat.zero_le, Prod.mk.injEq, upd_same, upd_upd, S_tl, S_len, S_app, S_one, S_inj,
  lk_breaks, lk_hard, lk_soft, lk_bend, lk_note, lk_rules, lk_state, lk_bent, lk_word, lk_begun, lk_opened, lk_place, pt_state, pt_bent, pt_word, pt_wordS, pt_wordN, pt_begun, pt_opened, pt_place, pt_place1, len_mf, litv_empty, litv_note, litv_nl, mf_inj, rf_inj, lkn_begin, lkn_ended, lkn_plain, lkn_quoted, lkn_step, lkn_fault, lkn_key, lkn_told, lkn_quotes, lkn_special, pt_open1, not_true_eq_false, not_false_eq_true])
theorem z0 : Str.ofString " " = S [32] := by decide +kernel
theorem z1 : Str.ofString "'" = S [39] := by decide +kernel
theorem z2 : Str.ofString "\"" = S [34] := by decide +kernel
theorem z3 : Str.ofString "\\" = S [92] := by decide +kernel
theorem z4 : Str.ofString "#" = S [35] := by decide +kernel
theorem z5 : Str.ofString " \n" = S [32, 10] := by decide +kernel
theorem z6 : Str.ofString "'\"" = S [39, 34] := by decide +kernel
def sp_law (K : PySem.W.Frag) : Sp := fun vs H Q _ => ∃ (ns : List Int) (p : Addr), vs = [.ref p] ∧ Only H ∧ SqL K H p (ns.map V.int) ∧ ns.length ≤ 63 ∧ ∀ H', Q (.bl true) H'
theorem ok_law (T : Txt K mg a) : FnG P w K mg base 10 a.f_law a.d_law P_law (sp_law K) := by
  refine fnG_of T.F_law sc_law (fun vs H Q E h => ?_) (fun cdv A outer s H vs Q E hfr hr h => ?_)
  · obtain ⟨ns, p, rfl, _⟩ := h
    rfl
  · obtain ⟨ns, p, rfl, hO, hp, hl, q⟩ := h
    have G__law_told := ok__law_told (P := P) (w := w) (base := base) T
    have B__law_told := bi__law_told T
    have G__law_next := ok__law_next (P := P) (w := w) (base := base) T
    have B__law_next := bi__law_next T
    have G__law_near := ok__law_near (P := P) (w := w) (base := base) T
    have B__law_near := bi__law_near T
    have G__law_text := ok__law_text (P := P) (w := w) (base := base) T
    have B__law_text := bi__law_text T
    have G__law_right := ok__law_right (P := P) (w := w) (base := base) T
    have B__law_right := bi__law_right T
    have G_compared := ok_compared (P := P) (w := w) (base := base) T
    have B_compared := bi_compared T
    have G_Rules_init := ok_Rules_init (P := P) (w := w) (base := base) T
    have B_Rules_init := bi_Rules_init T
    obtain ⟨Ds_Rules_init0, D_Rules_init0, B_Rules_init0⟩ := bi_Rules_init0 T
    obtain ⟨Ds1, D1, B1⟩ := bi_Rules_init1 T
    obtain ⟨is3, BK3⟩ := bi_K3 T
    obtain ⟨is5, BK5⟩ := bi_K5 T
    obtain ⟨is6, BK6⟩ := bi_K6 T
    obtain ⟨is7, BK7⟩ := bi_K7 T
    obtain ⟨is8, BK8⟩ := bi_K8 T
    refine ⟨_,
(pss_cons (ps_set (i := 1) sc_law.nd rfl (by first | exact Or.inl rfl | exact Or.inr rfl) (pe_lst (pa_cons (pv 0) (pa_cons pe_int (pa_cons pe_int pa_nil)))))
    (pss_cons (ps_par (i := 2) (j := 3) (by rfl) sc_law.nd rfl rfl (by decide) rfl rfl (pa_cons (pe_call G__law_told (hr.mono (by decide)) rfl T.f__law_told.g T.f__law_told.k B__law_told .nil pass0 (pa_cons (pv 1) pa_nil)) (pa_cons (pe_call G__law_told (hr.mono (by decide)) rfl T.f__law_told.g T.f__law_told.k B__law_told .nil pass0 (pa_cons (pv 1) pa_nil)) pa_nil)) (by rfl))
    (pss_cons (ps_if (pt_cmpR op_eq (pe_call G__law_next (hr.mono (by decide)) rfl T.f__law_next.g T.f__law_next.k B__law_next .nil pass0 (pa_cons (pv 1) (pa_cons pe_int pa_nil))) pe_int (nomark _)) (pss_one (ps_set (i := 2) sc_law.nd rfl (by first | exact Or.inl rfl | exact Or.inr rfl) (pe_op op_catA (pe_op op_catA (pe_slice sl_tupA (pv 2) po_none (po_some pe_int)) (pe_tup (pa_cons pe_str pa_nil))) (pe_slice sl_tupA (pv 2) (po_some pe_int) po_none)))) pss_nil)
    (pss_cons (ps_set (i := 4) sc_law.nd rfl (by first | exact Or.inl rfl | exact Or.inr rfl) (pe_call G__law_near (hr.mono (by decide)) rfl T.f__law_near.g T.f__law_near.k B__law_near .nil pass0 (pa_cons (pv 1) (pa_cons (pv 2) pa_nil))))
    (pss_cons (ps_set (i := 5) sc_law.nd rfl (by first | exact Or.inl rfl | exact Or.inr rfl) (pe_lst (pa_cons (pe_call G__law_text (hr.mono (by decide)) rfl T.f__law_text.g T.f__law_text.k B__law_text .nil pass0 (pa_cons (pv 1) (pa_cons (pv 2) (pa_cons pe_int pa_nil)))) (pa_cons (pe_call G__law_text (hr.mono (by decide)) rfl T.f__law_text.g T.f__law_text.k B__law_text .nil pass0 (pa_cons (pv 1) (pa_cons (pv 2) (pa_cons pe_int pa_nil)))) (pa_cons (pe_call G__law_text (hr.mono (by decide)) rfl T.f__law_text.g T.f__law_text.k B__law_text .nil pass0 (pa_cons (pv 1) (pa_cons (pv 2) (pa_cons pe_int pa_nil)))) pa_nil)))))
    (pss_cons (ps_if (PW.pt (pw_or (pt_not (pt_val (pe_callG G__law_right hfr (hr.mono (by decide)) rfl T.f__law_right.g T.f__law_right.k B__law_right (pa_cons (pv 2) (pa_cons (pv 4) (pa_cons (pv 5) (pa_cons (pe_lst (pa_cons (pv 3) pa_nil)) pa_nil))))))) (pw_or1 (pt_not (pt_val (pe_callG G__law_right hfr (hr.mono (by decide)) rfl T.f__law_right.g T.f__law_right.k B__law_right (pa_cons (pv 4) (pa_cons (pv 2) (pa_cons (pv 5) (pa_cons (pe_lst pa_nil) pa_nil)))))))))) (pss_one (ps_ret pe_bl)) pss_nil)
    (pss_cons (ps_if (PW.pt (pw_or (pt_not (pt_val (pe_callG G__law_right hfr (hr.mono (by decide)) rfl T.f__law_right.g T.f__law_right.k B__law_right (pa_cons (pv 2) (pa_cons (pv 3) (pa_cons (pv 5) (pa_cons (pe_lst (pa_cons (pv 2) pa_nil)) pa_nil))))))) (pw_or1 (pt_not (pt_val (pe_callG G__law_right hfr (hr.mono (by decide)) rfl T.f__law_right.g T.f__law_right.k B__law_right (pa_cons (pv 2) (pa_cons (pv 2) (pa_cons (pv 5) (pa_cons (pe_lst (pa_cons (pv 4) pa_nil)) pa_nil)))))))))) (pss_one (ps_ret pe_bl)) pss_nil)
    (pss_cons (ps_set (i := 6) sc_law.nd rfl (by first | exact Or.inl rfl | exact Or.inr rfl) (pe_lst (pa_cons (pe_callG G_compared hfr (hr.mono (by decide)) rfl T.f_compared.g T.f_compared.k B_compared (pa_cons (pe_make T.c_Rules.mc G_Rules_init (hr.mono (by decide)) rfl T.c_Rules.g B1 D1 pass0 (pa_cons pe_str pa_nil)) (pa_cons (pe_make0 T.c_Rules.mc G_Rules_init (hr.mono (by decide)) rfl T.c_Rules.g B_Rules_init0 D_Rules_init0 pass0) pa_nil))) (pa_cons (pe_callG G_compared hfr (hr.mono (by decide)) rfl T.f_compared.g T.f_compared.k B_compared (pa_cons (pe_make0 T.c_Rules.mc G_Rules_init (hr.mono (by decide)) rfl T.c_Rules.g B_Rules_init0 D_Rules_init0 pass0) (pa_cons (pe_makeK0 T.c_Rules.mc G_Rules_init (hr.mono (by decide)) rfl T.c_Rules.g BK3 pass0 (pk_cons pe_str pk_nil)) pa_nil))) pa_nil))))
    (pss_cons (ps_set (i := 6) sc_law.nd rfl (by first | exact Or.inl rfl | exact Or.inr rfl) (pe_op op_cat (pv 6) (pe_lst (pa_cons (pe_callG G_compared hfr (hr.mono (by decide)) rfl T.f_compared.g T.f_compared.k B_compared (pa_cons (pe_make T.c_Rules.mc G_Rules_init (hr.mono (by decide)) rfl T.c_Rules.g B1 D1 pass0 (pa_cons pe_str pa_nil)) (pa_cons (pe_makeK T.c_Rules.mc G_Rules_init (hr.mono (by decide)) rfl T.c_Rules.g BK5 pass0 (pa_cons pe_str pa_nil) (pk_cons pe_str pk_nil)) pa_nil))) pa_nil))))
    (pss_cons (ps_if (pt_cmpR (op_neD hr.units) (pe_lc (own := [("_law_found", 9)]) (g := gName 9) (tt := tYes) rfl sc_law.nd (pi_list (pv 6)) (blkOk_by (own := [("_law_found", 9)]) (N := N_law) (sc := defScope st_law) (by decide +kernel)) (fun _ _ _ _ _ => (pg_name (i := 9) sc_law.nd rfl (by first | exact Or.inl rfl | exact Or.inr rfl))) (fun _ _ _ _ _ => pts_nil) (fun _ _ _ _ _ => (pe_ifExp (pt_val (pe_callB (call_isiKK (K := K) rfl) (by rfl) T.b_isinstance (by decide +kernel) (pa_cons (pv 9) (pa_cons (pe_glob (v := .ref a.c_Parted) rfl T.c_Parted.g rfl) pa_nil)))) (pe_callB call_len_str (by rfl) T.b_len PySem.boot_len (pa_cons (pe_fldK (K := K) rfl (pv 9) rfl) pa_nil)) pe_int))) (pe_lst (pa_cons pe_int (pa_cons pe_int (pa_cons pe_int pa_nil)))) (nomark _)) (pss_one (ps_ret pe_bl)) pss_nil)
    (pss_cons (ps_set (i := 7) sc_law.nd rfl (by first | exact Or.inl rfl | exact Or.inr rfl) (pe_callG G_compared hfr (hr.mono (by decide)) rfl T.f_compared.g T.f_compared.k B_compared (pa_cons (pe_make0 T.c_Rules.mc G_Rules_init (hr.mono (by decide)) rfl T.c_Rules.g B_Rules_init0 D_Rules_init0 pass0) (pa_cons (pe_makeK0 T.c_Rules.mc G_Rules_init (hr.mono (by decide)) rfl T.c_Rules.g BK6 pass0 (pk_cons pe_str (pk_cons pe_str pk_nil))) pa_nil))))
    (pss_cons (ps_set (i := 8) sc_law.nd rfl (by first | exact Or.inl rfl | exact Or.inr rfl) (pe_callG G_compared hfr (hr.mono (by decide)) rfl T.f_compared.g T.f_compared.k B_compared (pa_cons (pe_makeK0 T.c_Rules.mc G_Rules_init (hr.mono (by decide)) rfl T.c_Rules.g BK7 pass0 (pk_cons pe_str pk_nil)) (pa_cons (pe_makeK0 T.c_Rules.mc G_Rules_init (hr.mono (by decide)) rfl T.c_Rules.g BK8 pass0 (pk_cons pe_str (pk_cons pe_str (pk_cons pe_str pk_nil)))) pa_nil))))
    (pss_one (ps_ret (pe_and (pe_callB (call_isi) (by rfl) T.b_isinstance (by decide +kernel) (pa_cons (pv 8) (pa_cons (pe_glob (v := .ref a.c_Alike) rfl T.c_Alike.g rfl) pa_nil))) (pe_and (pe_callB (call_isi) (by rfl) T.b_isinstance (by decide +kernel) (pa_cons (pv 7) (pa_cons (pe_glob (v := .ref a.c_Parted) rfl T.c_Parted.g rfl) pa_nil))) (pe_one (pe_cmpR op_eq (pe_callB call_len_str (by rfl) T.b_len PySem.boot_len (pa_cons (pe_fld (pv 7) rfl) pa_nil)) pe_int (nomark _)))))))))))))))))))
      , ?_⟩
    rw [show start N_law [V.ref p] = [some (.ref p), none, none, none, none, none, none, none, none, none] from rfl]
    have scr : Scr K ns H p := by
      rcases hp with (h | ⟨o, h⟩) | h
      · rcases hO p with z | ⟨o, xs, z⟩ <;> rw [z] at h <;> cases h
      · exact .inl ⟨o, h⟩
      · exact .inr (.inr h)
    refine tseq_split (fun σ' H' => ∃ st, σ' = [some (.ref p), some (.ref st), none, none, none, none, none, none, none, none] ∧ Stt K ns H' st) (fun N1 hN1 => ?_) ?_
    · walk_at "rd"
      walk_at "al"
      rename_i st hst0 H2 S2 e2
      exact hN1 _ _ ⟨st, rfl, p, 0, 0, e2, scr.same S2, by decide, by decide⟩
    rintro σ1 H1 ⟨st, rfl, t1⟩
    clear scr hp hO
    refine tseq_split (fun σ' H' => ∃ (r : RS) (tp : Addr) (r1 : RS) (tp1 : Addr), σ' = [some (.ref p), some (.ref st), some (.ref tp), some (.ref tp1), none, none, none, none, none, none] ∧ r.Ok ∧ Dr r ∧ r1.Ok ∧ Dr r1 ∧ LI K ns st tp tp1 r r1 H') (fun N1 hN1 => ?_) ?_
    · walk_at "rd"
      refine ⟨ns, st, rfl, t1, fun r tp H3 ok dr hp3 tr T3 k3 => ?_⟩
      refine ⟨ns, st, rfl, T3, fun r1 tp1 H4 ok1 dr1 hp4 tr1 T4 k4 => hN1 _ _ ⟨r, tp, r1, tp1, rfl, ok, dr, ok1, dr1, T4, ?_, tr1⟩⟩
      refine k4 _ _ tr fun z => ?_
      obtain ⟨xs, e⟩ := T3.has
      rw [z, e] at tr; cases tr
    rintro σ1 H2 ⟨r0, tp0, r1, tp1, rfl, ok0, dr0, ok1, dr1, I2⟩
    refine tseq_split (fun σ' H' => ∃ (r : RS) (tp : Addr), σ' = [some (.ref p), some (.ref st), some (.ref tp), some (.ref tp1), none, none, none, none, none, none] ∧ r.Ok ∧ Dr r ∧ LI K ns st tp tp1 r r1 H') (fun N1 hN1 => ?_) ?_
    · walk_at "rd"
      refine ⟨ns, st, 2, rfl, I2.t, by decide, fun z G z1 z2 t3 k3 => ?_⟩
      have I3 := I2.kp t3 k3
      have e3 := I3.e
      refine ⟨rfl, ite2 (fun _ => ?_) (fun _ => hN1 _ _ ⟨r0, tp0, rfl, ok0, dr0, I3⟩)⟩
      have seqs : ∀ (G : Hp) (b : Addr), G b = some (.tup r0.tup) → SqT K G b [.str (S r0.breaks), .str (S r0.hard), .str (S r0.soft), .str (S r0.bend), .str (S r0.note)] := fun G b e => .inl (.inl e)
      refine ⟨tp0, _, rfl, seqs G tp0 e3, fun z => absurd z.2 (by show ¬ HT.sIx 5 5 (some 3) = 5; decide), fun _ p1 hp1 => ?_⟩
      have m1 := same_new (o := HO.tup (cutV [V.str (S r0.breaks), .str (S r0.hard), .str (S r0.soft), .str (S r0.bend), .str (S r0.note)] none (some 3))) hp1
      have g1 : upd G p1 (HO.tup (cutV [V.str (S r0.breaks), .str (S r0.hard), .str (S r0.soft), .str (S r0.bend), .str (S r0.note)] none (some 3))) p1 = some (HO.tup [V.str (S r0.breaks), .str (S r0.hard), .str (S r0.soft)]) := upd_same
      generalize upd G p1 (HO.tup (cutV [V.str (S r0.breaks), .str (S r0.hard), .str (S r0.soft), .str (S r0.bend), .str (S r0.note)] none (some 3))) = F1 at *
      intro p2 hp2
      have m2 := same_new (o := HO.tup [V.str (S [])]) hp2
      have g2 : upd F1 p2 (HO.tup [V.str (S [])]) p2 = _ := upd_same
      generalize upd F1 p2 (HO.tup [V.str (S [])]) = F2 at *
      refine ⟨p1, p2, _, _, rfl, rfl, .inl (.inl (m2 _ _ g1)), .inl (.inl g2), Nat.le_trans (show (3 : Nat) + 1 ≤ 10 by decide) (by decide), fun z => (by cases z), fun _ z => (by cases z), fun _ _ p3 hp3 => ?_⟩
      have m3 := same_new (o := HO.tup ([V.str (S r0.breaks), .str (S r0.hard), .str (S r0.soft)] ++ [V.str (S [])])) hp3
      have g3 : upd F2 p3 (HO.tup ([V.str (S r0.breaks), .str (S r0.hard), .str (S r0.soft)] ++ [V.str (S [])])) p3 = some (HO.tup [V.str (S r0.breaks), .str (S r0.hard), .str (S r0.soft), .str (S [])]) := upd_same
      generalize upd F2 p3 (HO.tup ([V.str (S r0.breaks), .str (S r0.hard), .str (S r0.soft)] ++ [V.str (S [])])) = F3 at *
      have e4 := m3 _ _ (m2 _ _ (m1 _ _ e3))
      refine ⟨tp0, _, rfl, seqs F3 tp0 e4, fun z => absurd z.1 (by show ¬ HT.sIx 5 0 (some 4) = 0; decide), fun _ p4 hp4 => ?_⟩
      have m4 := same_new (o := HO.tup (cutV [V.str (S r0.breaks), .str (S r0.hard), .str (S r0.soft), .str (S r0.bend), .str (S r0.note)] (some 4) none)) hp4
      have g4 : upd F3 p4 (HO.tup (cutV [V.str (S r0.breaks), .str (S r0.hard), .str (S r0.soft), .str (S r0.bend), .str (S r0.note)] (some 4) none)) p4 = some (HO.tup [V.str (S r0.note)]) := upd_same
      generalize upd F3 p4 (HO.tup (cutV [V.str (S r0.breaks), .str (S r0.hard), .str (S r0.soft), .str (S r0.bend), .str (S r0.note)] (some 4) none)) = F4 at *
      refine ⟨p3, p4, _, _, rfl, rfl, .inl (.inl (m4 _ _ g3)), .inl (.inl g4), Nat.le_trans (show (4 : Nat) + 1 ≤ 10 by decide) (by decide), fun z => (by cases z), fun _ z => (by cases z), fun _ _ p5 hp5 => ?_⟩
      have nr := near2 ok0 dr0
      have m5 := ((((m1.trans m2).trans m3).trans m4).trans (same_new (o := HO.tup ([V.str (S r0.breaks), .str (S r0.hard), .str (S r0.soft), .str (S [])] ++ [V.str (S r0.note)])) hp5))
      exact hN1 _ _ ⟨⟨r0.breaks, r0.hard, r0.soft, [], r0.note⟩, p5, rfl, nr.1, nr.2, t3.same m5, upd_same, m5 _ _ I3.e'⟩
    rintro σ1 H3 ⟨r, tp, rfl, ok, dr, I3⟩
    refine tseq_split (fun σ' H' => ∃ (rn : RS) (tn : Addr), σ' = [some (.ref p), some (.ref st), some (.ref tp), some (.ref tp1), some (.ref tn), none, none, none, none, none] ∧ rn.Ok ∧ Dr rn ∧ LI K ns st tp tp1 r r1 H' ∧ H' tn = some (.tup rn.tup)) (fun N1 hN1 => ?_) ?_
    · walk_at "rd"
      exact ⟨ns, st, tp, r, rfl, I3.t, I3.e, ok, dr, fun rn tn F okn drn e T4 k4 => hN1 _ _ ⟨rn, tn, rfl, okn, drn, I3.kp T4 k4, e⟩⟩
    rintro σ1 H4 ⟨rn, tn, rfl, okn, drn, I4, en4⟩
    have ntn : tn ≠ st := fun z => by
      obtain ⟨xs, e⟩ := I4.t.has
      rw [z, e] at en4; cases en4
    refine tseq_split (fun σ' H' => ∃ (tl : Addr) (ts : List Tx), σ' = [some (.ref p), some (.ref st), some (.ref tp), some (.ref tp1), some (.ref tn), some (.ref tl), none, none, none, none] ∧ LI K ns st tp tp1 r r1 H' ∧ H' tn = some (.tup rn.tup) ∧ H' tl = some (.lst (ts.map sV)) ∧ ts.length ≤ 10 ∧ ∀ t ∈ ts, t.length ≤ 900 ∧ t.all sgn = true) (fun N1 hN1 => ?_) ?_
    · walk_at "rd"
      refine ⟨ns, st, tp, r, 800, rfl, I4.t, I4.e, ok, by decide, fun u1 F1 z1 w1 T1 k1 => ?_⟩
      have J1 := I4.kp T1 k1
      refine ⟨ns, st, tp, r, 60, rfl, J1.t, J1.e, ok, by decide, fun u2 F2 z2 w2 T2 k2 => ?_⟩
      have J2 := J1.kp T2 k2
      refine ⟨ns, st, tp, r, 5, rfl, J2.t, J2.e, ok, by decide, fun u3 F3 z3 w3 T3 k3 tl htl => ?_⟩
      have J3 := J2.kp T3 k3
      have m4 := same_new (o := HO.lst [V.str (S u1), V.str (S u2), V.str (S u3)]) htl
      refine hN1 _ _ ⟨tl, [u1, u2, u3], rfl, J3.same m4, m4 _ _ (k3 _ _ (k2 _ _ (k1 _ _ en4 ntn) ntn) ntn), upd_same, by simp, fun t ht => ?_⟩
      simp only [List.mem_cons, List.not_mem_nil, or_false] at ht
      rcases ht with rfl | rfl | rfl
      · exact ⟨by omega, w1⟩
      · exact ⟨by omega, w2⟩
      · exact ⟨by omega, w3⟩
    rintro σ1 H5 ⟨tl, ts, rfl, I5, en5, el5, lts, hT⟩
    have ep := I5.e
    have ep1 := I5.e'
    clear I5 en4 I4 I3 I2 t1
    have right : ∀ (G : Hp) (x y q : Addr) (rx ry : RS) (os : List Addr) (Qs : VK), Same H5 G → H5 x = some (.tup rx.tup) → H5 y = some (.tup ry.tup) → rx.Ok → Dr rx → ry.Ok → Dr ry → G q = some (.lst (os.map V.ref)) → (∀ z ∈ os, ∃ r3 : RS, H5 z = some (.tup r3.tup) ∧ r3.Ok ∧ Dr r3) → (∀ F, Same G F → Qs (.bl true) F) → sp_lright K [.ref x, .ref y, .ref tl, .ref q] G Qs E0 := fun G x y q rx ry os Qs s hx hy okx drx oky dry hq ho hQ =>
      ⟨x, y, tl, q, rx, ry, ts, os, rfl, s _ _ hx, s _ _ hy, okx, oky, drx, dry, s _ _ el5, lts, hT, hq, fun z hz => (ho z hz).imp fun _ w => ⟨s _ _ w.1, w.2⟩, hQ⟩
    refine tseq_split (fun σ' G => σ' = [some (.ref p), some (.ref st), some (.ref tp), some (.ref tp1), some (.ref tn), some (.ref tl), none, none, none, none] ∧ Same H5 G) (fun N1 hN1 => ?_) ?_
    · walk_at "rd"
      intro p1 hp1
      have m1 := same_new (o := HO.lst [V.ref tp1]) hp1
      refine right _ tp tn p1 r rn [tp1] _ m1 ep en5 ok dr okn drn upd_same (fun z hz => by rw [List.mem_singleton.mp hz]; exact ⟨r1, ep1, ok1, dr1⟩) fun F1 s1 => ⟨_, rfl, ite2 (fun z => by cases z) (fun _ p2 hp2 => ?_)⟩
      have m2 := same_new (o := HO.lst []) hp2
      refine right _ tn tp p2 rn r [] _ ((m1.trans s1).trans m2) en5 ep okn drn ok dr upd_same (fun z hz => nomatch hz) fun F2 s2 => ⟨_, rfl, ite2 (fun z => by cases z) (fun _ => hN1 _ _ ⟨rfl, ((m1.trans s1).trans m2).trans s2⟩)⟩
    rintro σ1 H6 ⟨rfl, s6⟩
    refine tseq_split (fun σ' G => σ' = [some (.ref p), some (.ref st), some (.ref tp), some (.ref tp1), some (.ref tn), some (.ref tl), none, none, none, none] ∧ Same H5 G) (fun N1 hN1 => ?_) ?_
    · walk_at "rd"
      intro p1 hp1
      have m1 := same_new (o := HO.lst [V.ref tp]) hp1
      refine right _ tp tp1 p1 r r1 [tp] _ (s6.trans m1) ep ep1 ok dr ok1 dr1 upd_same (fun z hz => by rw [List.mem_singleton.mp hz]; exact ⟨r, ep, ok, dr⟩) fun F1 s1 => ⟨_, rfl, ite2 (fun z => by cases z) (fun _ p2 hp2 => ?_)⟩
      have m2 := same_new (o := HO.lst [V.ref tn]) hp2
      refine right _ tp tp p2 r r [tn] _ (((s6.trans m1).trans s1).trans m2) ep ep ok dr ok dr upd_same (fun z hz => by rw [List.mem_singleton.mp hz]; exact ⟨rn, en5, okn, drn⟩) fun F2 s2 => ⟨_, rfl, ite2 (fun z => by cases z) (fun _ => hN1 _ _ ⟨rfl, (((s6.trans m1).trans s1).trans m2).trans s2⟩)⟩
    rintro σ1 H7 ⟨rfl, s7⟩
    clear right s6 s7 ep ep1 en5 el5 hT
    have mk : ∀ (G : Hp) (r : RS) (Cq : Hp → Prop) (x dx : Addr), r.Ok → G x = none → G dx = none → (∀ F d, Same G F → F x = some (.ins a.c_Rules d r.f) → Cq F) → sp_Rules_init a [.ref x, .str (S r.breaks), .str (S r.hard), .str (S r.soft), .str (S r.bend), .str (S r.note)] (upd (upd G dx (.own x)) x (.ins a.c_Rules dx [])) (fun v H2 => v = .non ∧ Cq H2) E0 :=
      fun G r Cq x dx ok hx hdx hQ => ⟨x, dx, r, rfl, ok, upd_same, fun H2 e k => ⟨rfl, hQ H2 dx (Same.made hx hdx k) e⟩⟩
    refine tseq_split (fun σ' G => ∃ (le q1 q2 : Addr) (o1 o2 : Option Tx), σ' = [some (.ref p), some (.ref st), some (.ref tp), some (.ref tp1), some (.ref tn), some (.ref tl), some (.ref le), none, none, none] ∧ G le = some (.lst [.ref q1, .ref q2]) ∧ FirstT rA usual o1 ∧ FirstT usual rN o2 ∧ AnsC a G q1 o1 ∧ AnsC a G q2 o2) (fun N1 hN1 => ?_) ?_
    · walk_at "rd"
      simp only [z0, z1, z2, z3, z4, z5]
      intro x1 dx1 hx1 hd1 ne1
      refine mk H7 rA _ x1 dx1 rA_ok hx1 hd1 fun F1 d1 m1 e1 => ?_
      intro x2 dx2 hx2 hd2 ne2
      refine mk F1 usual _ x2 dx2 usual_ok hx2 hd2 fun F2 d2 m2 e2 => ?_
      refine ⟨x1, d1, rA, x2, d2, usual, rfl, m2 _ _ e1, e2, rA_ok, usual_ok, fun q1 o1 F3 ft1 n3 m3 an1 => ?_⟩
      intro x3 dx3 hx3 hd3 ne3
      refine mk F3 usual _ x3 dx3 usual_ok hx3 hd3 fun F4 d4 m4 e4 => ?_
      intro x4 dx4 hx4 hd4 ne4
      refine mk F4 rN _ x4 dx4 rN_ok hx4 hd4 fun F5 d5 m5 e5 => ?_
      refine ⟨x3, d4, usual, x4, d5, rN, rfl, m5 _ _ e4, e5, usual_ok, rN_ok, fun q2 o2 F6 ft2 n6 m6 an2 le hle => ?_⟩
      have m7 := same_new (o := HO.lst [V.ref q1, V.ref q2]) hle
      exact hN1 _ _ ⟨le, q1, q2, o1, o2, rfl, upd_same, ft1, ft2, an1.same (((m4.trans m5).trans m6).trans m7), an2.same m7⟩
    rintro σ1 H8 ⟨le, q1, q2, o1, o2, rfl, ele, ft1, ft2, an1, an2⟩
    refine tseq_split (fun σ' G => ∃ (le q3 : Addr) (o3 : Option Tx), σ' = [some (.ref p), some (.ref st), some (.ref tp), some (.ref tp1), some (.ref tn), some (.ref tl), some (.ref le), none, none, none] ∧ Same H8 G ∧ G le = some (.lst [.ref q1, .ref q2, .ref q3]) ∧ FirstT rL rL0 o3 ∧ AnsC a G q3 o3) (fun N1 hN1 => ?_) ?_
    · walk_at "rd"
      simp only [z0, z1, z2, z3, z4, z5]
      intro x1 dx1 hx1 hd1 ne1
      refine mk H8 rL _ x1 dx1 rL_ok hx1 hd1 fun F1 d1 m1 e1 => ?_
      intro x2 dx2 hx2 hd2 ne2
      refine mk F1 rL0 _ x2 dx2 rL0_ok hx2 hd2 fun F2 d2 m2 e2 => ?_
      refine ⟨x1, d1, rL, x2, d2, rL0, rfl, m2 _ _ e1, e2, rL_ok, rL0_ok, fun q3 o3 F3 ft3 n3 m3 an3 p1 hp1 => ?_⟩
      have m4 := same_new (o := HO.lst [V.ref q3]) hp1
      refine ⟨_, m4 _ _ (m3 _ _ (m2 _ _ (m1 _ _ ele))), Nat.le_trans (show (2 : Nat) + 1 ≤ 10 by decide) (by decide), fun p2 hp2 => ?_⟩
      have m5 := same_new (o := HO.lst ([V.ref q1, V.ref q2] ++ [V.ref q3])) hp2
      exact hN1 _ _ ⟨p2, q3, o3, rfl, (((m1.trans m2).trans m3).trans m4).trans m5, upd_same, ft3, an3.same (m4.trans m5)⟩
    clear ele
    rintro σ1 H9 ⟨le, q3, o3, rfl, s9, ele, ft3, an3⟩
    replace an1 := an1.same s9
    replace an2 := an2.same s9
    refine tseq_split (fun σ' _ => σ' = [some (.ref p), some (.ref st), some (.ref tp), some (.ref tp1), some (.ref tn), some (.ref tl), some (.ref le), none, none, none]) (fun N1 hN1 => ?_) ?_
    · walk_at "rd"
      obtain ⟨t1, rfl, tl1⟩ := first_one (c := 10) ft1 (by decide)
      obtain ⟨t2, rfl, tl2⟩ := first_one (c := 10) ft2 (by decide)
      obtain ⟨t3, rfl, tl3⟩ := first_one (c := 35) ft3 (by decide)
      refine tlc_map [(q1, t1), (q2, t2), (q3, t3)] (fun _ => .int 1) (J := Itl K le) (H1 := H9) (G := fun H => SqL K H le [V.ref q1, V.ref q2, V.ref q3]) (fun R hR => ?_) (walk_list (xs := [V.ref q1, V.ref q2, V.ref q3])) (by simp) (fun H s => .inl (.inl (s _ _ ele))) ?_ ?_
      · walk_at "rd"
        exact ⟨⟨_, .inl (.inl ele)⟩, hR⟩
      · rintro R R' i ⟨qx, tx⟩ x F1 F2 hi g ⟨rfl, hx⟩ hR
        have hq : x = .ref qx ∧ tx.length = 1 ∧ AnsC a H9 qx (some tx) := by
          match i, hi, hx with
          | 0, hi, hx => cases hi; cases hx; exact ⟨rfl, tl1, an1⟩
          | 1, hi, hx => cases hi; cases hx; exact ⟨rfl, tl2, an2⟩
          | 2, hi, hx => cases hi; cases hx; exact ⟨rfl, tl3, an3⟩
        obtain ⟨rfl, hl1, dx, hq⟩ := hq
        have hq' := g _ _ hq
        walk_at "rd"
        have lk : List.lookup (Str.ofString "text") [(Str.ofString "text", V.str (S tx))] = some (.str (S tx)) := by kernel_rfl
        refine ⟨_, _, .own _, ty_Parted T hq', _, T.k_PaPa, ite2 (fun _ => ?_) (fun z => absurd rfl z)⟩
        refine ⟨_, _, _, hq', T.c_Parted.cl, T.n_Parted_text, _, lk, S tx, rfl, by rw [S_len, hl1]; decide, ?_⟩
        rw [S_len, hl1]
        exact hR _ (Same.refl _)
      intro D F hD sF eD
      intro p1 hp1
      have m1 := same_new (o := HO.lst [V.int 1, V.int 1, V.int 1]) hp1
      refine ⟨.list [.int 1, .int 1, .int 1], .lst (.inl (.inl (m1 _ _ eD))) (.cons (.int _) (.cons (.int _) (.cons (.int _) .nil))), .list [.int 1, .int 1, .int 1], .lst (.inl (.inl upd_same)) (.cons (.int _) (.cons (.int _) (.cons (.int _) .nil))), by decide, by decide, ?_⟩
      rw [show PyData.eqv (.list [.int 1, .int 1, .int 1]) (.list [.int 1, .int 1, .int 1]) = true by decide]
      exact ite2 (fun z => by cases z) (fun _ => hN1 _ _ rfl)
    rintro σ1 H10 rfl
    refine tseq_split (fun σ' G => ∃ (q4 : Addr) (o4 : Option Tx), σ' = [some (.ref p), some (.ref st), some (.ref tp), some (.ref tp1), some (.ref tn), some (.ref tl), some (.ref le), some (.ref q4), none, none] ∧ FirstT usual rSw o4 ∧ AnsC a G q4 o4) (fun N1 hN1 => ?_) ?_
    · walk_at "rd"
      simp only [z0, z1, z2, z3, z4, z5]
      intro x1 dx1 hx1 hd1 ne1
      refine mk H10 usual _ x1 dx1 usual_ok hx1 hd1 fun F1 d1 m1 e1 => ?_
      intro x2 dx2 hx2 hd2 ne2
      refine mk F1 rSw _ x2 dx2 rSw_ok hx2 hd2 fun F2 d2 m2 e2 => ?_
      exact ⟨x1, d1, usual, x2, d2, rSw, rfl, m2 _ _ e1, e2, usual_ok, rSw_ok, fun q4 o4 F3 ft4 n3 m3 an4 => hN1 _ _ ⟨q4, o4, rfl, ft4, an4⟩⟩
    rintro σ1 H11 ⟨q4, o4, rfl, ft4, an4⟩
    refine tseq_split (fun σ' G => ∃ (q5 : Addr) (o5 : Option Tx), σ' = [some (.ref p), some (.ref st), some (.ref tp), some (.ref tp1), some (.ref tn), some (.ref tl), some (.ref le), some (.ref q4), some (.ref q5), none] ∧ Same H11 G ∧ FirstT rB rBs o5 ∧ AnsC a G q5 o5) (fun N1 hN1 => ?_) ?_
    · walk_at "rd"
      simp only [z0, z1, z2, z3, z4, z5, z6]
      intro x1 dx1 hx1 hd1 ne1
      refine mk H11 rB _ x1 dx1 rB_ok hx1 hd1 fun F1 d1 m1 e1 => ?_
      intro x2 dx2 hx2 hd2 ne2
      refine mk F1 rBs _ x2 dx2 rBs_ok hx2 hd2 fun F2 d2 m2 e2 => ?_
      exact ⟨x1, d1, rB, x2, d2, rBs, rfl, m2 _ _ e1, e2, rB_ok, rBs_ok, fun q5 o5 F3 ft5 n3 m3 an5 => hN1 _ _ ⟨q5, o5, rfl, (m1.trans m2).trans m3, ft5, an5⟩⟩
    rintro σ1 H12 ⟨q5, o5, rfl, s12, ft5, an5⟩
    replace an4 := an4.same s12
    walk_at "rd"
    obtain ⟨t4, rfl, tl4⟩ := first_three ft4
    have o5n : o5 = none := by
      cases o5 with
      | none => rfl
      | some t => exact absurd same_B (not_same ft5.1.p)
    subst o5n
    obtain ⟨d5, e5⟩ := an5
    obtain ⟨d4, e4⟩ := an4
    have lk : List.lookup (Str.ofString "text") [(Str.ofString "text", V.str (S t4))] = some (.str (S t4)) := by kernel_rfl
    refine ⟨_, _, .own _, ty_Alike T e5, _, T.k_AlAl, ite2 (fun _ => ?_) (fun z => absurd rfl z)⟩
    refine ⟨_, _, .own _, ty_Parted T e4, _, T.k_PaPa, ite2 (fun _ => ?_) (fun z => absurd rfl z)⟩
    refine ⟨_, _, _, e4, T.c_Parted.cl, T.n_Parted_text, _, lk, S t4, rfl, by rw [S_len, tl4]; decide, ?_⟩
    rw [S_len, tl4]
    exact q _
end
end Qw

set_option Elab.async false
set_option linter.all false
set_option maxRecDepth 100000
set_option maxHeartbeats 4000000
namespace Qw
open PySem L2
theorem kit_own {K : PySem.W.Frag} {C D : Addr} {b : Bool} (ne : (C : Nat) ≠ D) (hd : PySem.W.hasDictIn K D = true) (ht : PySem.W.typeIn K (.ref D) = some (.type "type")) (h : PySem.W.mroIn K C (.ref D) = some b) : PySem.W.kitOne K (.ref C) (.ref D) = some b := by
  obtain ⟨cd, hc, _⟩ := PySem.W.any_some hd
  have e2 : ((PySem.W.clsIn K D).isSome && PySem.W.typeIn K (.ref D) == some (.type "type")) = true := by
    rw [hc, ht]
    rfl
  show (if (Value.ref C == Value.ref D) = true then some true else if ((PySem.W.clsIn K D).isSome && PySem.W.typeIn K (.ref D) == some (.type "type")) = true then PySem.W.mroIn K C (.ref D) else none) = some b
  rw [if_neg (fun z => ne (Value.ref.inj (beq_iff_eq.mp z))), if_pos e2]
  exact h
theorem all_mk {P : Program} {w : World} {K : PySem.W.Frag} {h : Heap} {mg : Str → Option Value} {fa : Addr} (X : K.In h) (G : h.Ns mainGlobals mg) (hfa : mg "law" = some (.ref fa))
    {C_Rules C_Machine C_Answer C_Alike C_Parted f_are_signs f_Rules_init T_Rules_init f_Rules_told f_Rules_quotes f_Machine_init f_Machine_key f_Machine_begin f_Machine_ended f_Machine_plain f_Machine_quoted f_Machine_step f_Machine_fault f_read_all f_part_of f_few_signs f_read_alike f_trail f_marks_of f_node_of f_first_parted f_Alike_shows f_Parted_init f_Parted_shows f_compared f__law_cell_at f__law_draw f__law_number f__law_next f__law_told f__law_text f__law_rules f__law_quoted f__law_word f__law_read f__law_same_rules f__law_alike f__law_signs f__law_shorter f__law_near f__law_right f_law a_MOST : Addr}
    {kV_are_signs dc_are_signs pm_are_signs cd_are_signs ct_are_signs oc_are_signs : Value}
    {od_are_signs an_are_signs : Option Addr}
    {sl_are_signs : Array (Option Value)}
    {kV_Rules_init dc_Rules_init pm_Rules_init cd_Rules_init ct_Rules_init oc_Rules_init : Value}
    {od_Rules_init an_Rules_init : Option Addr}
    {sl_Rules_init : Array (Option Value)}
    {odT_Rules_init : Option Addr}
    {slT_Rules_init : Array (Option Value)}
    {nT_Rules_init : Nat}
    {t0_Rules_init t1_Rules_init t2_Rules_init t3_Rules_init t4_Rules_init : Tok}
    {kV_Rules_told dc_Rules_told pm_Rules_told cd_Rules_told ct_Rules_told oc_Rules_told : Value}
    {od_Rules_told an_Rules_told : Option Addr}
    {sl_Rules_told : Array (Option Value)}
    {kV_Rules_quotes dc_Rules_quotes pm_Rules_quotes cd_Rules_quotes ct_Rules_quotes oc_Rules_quotes : Value}
    {od_Rules_quotes an_Rules_quotes : Option Addr}
    {sl_Rules_quotes : Array (Option Value)}
    {kV_Machine_init dc_Machine_init pm_Machine_init cd_Machine_init ct_Machine_init oc_Machine_init : Value}
    {od_Machine_init an_Machine_init : Option Addr}
    {sl_Machine_init : Array (Option Value)}
    {kV_Machine_key dc_Machine_key pm_Machine_key cd_Machine_key ct_Machine_key oc_Machine_key : Value}
    {od_Machine_key an_Machine_key : Option Addr}
    {sl_Machine_key : Array (Option Value)}
    {kV_Machine_begin dc_Machine_begin pm_Machine_begin cd_Machine_begin ct_Machine_begin oc_Machine_begin : Value}
    {od_Machine_begin an_Machine_begin : Option Addr}
    {sl_Machine_begin : Array (Option Value)}
    {kV_Machine_ended dc_Machine_ended pm_Machine_ended cd_Machine_ended ct_Machine_ended oc_Machine_ended : Value}
    {od_Machine_ended an_Machine_ended : Option Addr}
    {sl_Machine_ended : Array (Option Value)}
    {kV_Machine_plain dc_Machine_plain pm_Machine_plain cd_Machine_plain ct_Machine_plain oc_Machine_plain : Value}
    {od_Machine_plain an_Machine_plain : Option Addr}
    {sl_Machine_plain : Array (Option Value)}
    {kV_Machine_quoted dc_Machine_quoted pm_Machine_quoted cd_Machine_quoted ct_Machine_quoted oc_Machine_quoted : Value}
    {od_Machine_quoted an_Machine_quoted : Option Addr}
    {sl_Machine_quoted : Array (Option Value)}
    {kV_Machine_step dc_Machine_step pm_Machine_step cd_Machine_step ct_Machine_step oc_Machine_step : Value}
    {od_Machine_step an_Machine_step : Option Addr}
    {sl_Machine_step : Array (Option Value)}
    {kV_Machine_fault dc_Machine_fault pm_Machine_fault cd_Machine_fault ct_Machine_fault oc_Machine_fault : Value}
    {od_Machine_fault an_Machine_fault : Option Addr}
    {sl_Machine_fault : Array (Option Value)}
    {kV_read_all dc_read_all pm_read_all cd_read_all ct_read_all oc_read_all : Value}
    {od_read_all an_read_all : Option Addr}
    {sl_read_all : Array (Option Value)}
    {kV_part_of dc_part_of pm_part_of cd_part_of ct_part_of oc_part_of : Value}
    {od_part_of an_part_of : Option Addr}
    {sl_part_of : Array (Option Value)}
    {kV_few_signs dc_few_signs pm_few_signs cd_few_signs ct_few_signs oc_few_signs : Value}
    {od_few_signs an_few_signs : Option Addr}
    {sl_few_signs : Array (Option Value)}
    {kV_read_alike dc_read_alike pm_read_alike cd_read_alike ct_read_alike oc_read_alike : Value}
    {od_read_alike an_read_alike : Option Addr}
    {sl_read_alike : Array (Option Value)}
    {kV_trail dc_trail pm_trail cd_trail ct_trail oc_trail : Value}
    {od_trail an_trail : Option Addr}
    {sl_trail : Array (Option Value)}
    {kV_marks_of dc_marks_of pm_marks_of cd_marks_of ct_marks_of oc_marks_of : Value}
    {od_marks_of an_marks_of : Option Addr}
    {sl_marks_of : Array (Option Value)}
    {kV_node_of dc_node_of pm_node_of cd_node_of ct_node_of oc_node_of : Value}
    {od_node_of an_node_of : Option Addr}
    {sl_node_of : Array (Option Value)}
    {kV_first_parted dc_first_parted pm_first_parted cd_first_parted ct_first_parted oc_first_parted : Value}
    {od_first_parted an_first_parted : Option Addr}
    {sl_first_parted : Array (Option Value)}
    {kV_Alike_shows dc_Alike_shows pm_Alike_shows cd_Alike_shows ct_Alike_shows oc_Alike_shows : Value}
    {od_Alike_shows an_Alike_shows : Option Addr}
    {sl_Alike_shows : Array (Option Value)}
    {kV_Parted_init dc_Parted_init pm_Parted_init cd_Parted_init ct_Parted_init oc_Parted_init : Value}
    {od_Parted_init an_Parted_init : Option Addr}
    {sl_Parted_init : Array (Option Value)}
    {kV_Parted_shows dc_Parted_shows pm_Parted_shows cd_Parted_shows ct_Parted_shows oc_Parted_shows : Value}
    {od_Parted_shows an_Parted_shows : Option Addr}
    {sl_Parted_shows : Array (Option Value)}
    {kV_compared dc_compared pm_compared cd_compared ct_compared oc_compared : Value}
    {od_compared an_compared : Option Addr}
    {sl_compared : Array (Option Value)}
    {kV__law_cell_at dc__law_cell_at pm__law_cell_at cd__law_cell_at ct__law_cell_at oc__law_cell_at : Value}
    {od__law_cell_at an__law_cell_at : Option Addr}
    {sl__law_cell_at : Array (Option Value)}
    {kV__law_draw dc__law_draw pm__law_draw cd__law_draw ct__law_draw oc__law_draw : Value}
    {od__law_draw an__law_draw : Option Addr}
    {sl__law_draw : Array (Option Value)}
    {kV__law_number dc__law_number pm__law_number cd__law_number ct__law_number oc__law_number : Value}
    {od__law_number an__law_number : Option Addr}
    {sl__law_number : Array (Option Value)}
    {kV__law_next dc__law_next pm__law_next cd__law_next ct__law_next oc__law_next : Value}
    {od__law_next an__law_next : Option Addr}
    {sl__law_next : Array (Option Value)}
    {kV__law_told dc__law_told pm__law_told cd__law_told ct__law_told oc__law_told : Value}
    {od__law_told an__law_told : Option Addr}
    {sl__law_told : Array (Option Value)}
    {kV__law_text dc__law_text pm__law_text cd__law_text ct__law_text oc__law_text : Value}
    {od__law_text an__law_text : Option Addr}
    {sl__law_text : Array (Option Value)}
    {kV__law_rules dc__law_rules pm__law_rules cd__law_rules ct__law_rules oc__law_rules : Value}
    {od__law_rules an__law_rules : Option Addr}
    {sl__law_rules : Array (Option Value)}
    {kV__law_quoted dc__law_quoted pm__law_quoted cd__law_quoted ct__law_quoted oc__law_quoted : Value}
    {od__law_quoted an__law_quoted : Option Addr}
    {sl__law_quoted : Array (Option Value)}
    {kV__law_word dc__law_word pm__law_word cd__law_word ct__law_word oc__law_word : Value}
    {od__law_word an__law_word : Option Addr}
    {sl__law_word : Array (Option Value)}
    {kV__law_read dc__law_read pm__law_read cd__law_read ct__law_read oc__law_read : Value}
    {od__law_read an__law_read : Option Addr}
    {sl__law_read : Array (Option Value)}
    {kV__law_same_rules dc__law_same_rules pm__law_same_rules cd__law_same_rules ct__law_same_rules oc__law_same_rules : Value}
    {od__law_same_rules an__law_same_rules : Option Addr}
    {sl__law_same_rules : Array (Option Value)}
    {kV__law_alike dc__law_alike pm__law_alike cd__law_alike ct__law_alike oc__law_alike : Value}
    {od__law_alike an__law_alike : Option Addr}
    {sl__law_alike : Array (Option Value)}
    {kV__law_signs dc__law_signs pm__law_signs cd__law_signs ct__law_signs oc__law_signs : Value}
    {od__law_signs an__law_signs : Option Addr}
    {sl__law_signs : Array (Option Value)}
    {kV__law_shorter dc__law_shorter pm__law_shorter cd__law_shorter ct__law_shorter oc__law_shorter : Value}
    {od__law_shorter an__law_shorter : Option Addr}
    {sl__law_shorter : Array (Option Value)}
    {kV__law_near dc__law_near pm__law_near cd__law_near ct__law_near oc__law_near : Value}
    {od__law_near an__law_near : Option Addr}
    {sl__law_near : Array (Option Value)}
    {kV__law_right dc__law_right pm__law_right cd__law_right ct__law_right oc__law_right : Value}
    {od__law_right an__law_right : Option Addr}
    {sl__law_right : Array (Option Value)}
    {kV_law dc_law pm_law cd_law ct_law oc_law : Value}
    {od_law an_law : Option Addr}
    {sl_law : Array (Option Value)}
    {t_LINE_END : Tok}
    {t0_MOST t1_MOST t2_MOST t3_MOST t4_MOST : Tok}
    {od_MOST : Option Addr}
    {sl_MOST : Array (Option Value)}
    {n_MOST : Nat}
    {t_PLAIN : Tok}
    {t_NOTED : Tok}
    {t_FAR : Tok}
    {t_LETTERS : Tok}
    (aC_Rules : PySem.W.nsIn K mainGlobals "Rules" = some (some (.ref C_Rules)))
    (aC_Machine : PySem.W.nsIn K mainGlobals "Machine" = some (some (.ref C_Machine)))
    (aC_Answer : PySem.W.nsIn K mainGlobals "Answer" = some (some (.ref C_Answer)))
    (aC_Alike : PySem.W.nsIn K mainGlobals "Alike" = some (some (.ref C_Alike)))
    (aC_Parted : PySem.W.nsIn K mainGlobals "Parted" = some (some (.ref C_Parted)))
    (a_are_signs : PySem.W.nsIn K mainGlobals "are_signs" = some (some (.ref f_are_signs)))
    (l_are_signs : K.lookup f_are_signs = some ⟨oc_are_signs, od_are_signs, .func (PySem.W.fnOf "are_signs" "are_signs" (defArgs st_are_signs) (defBody st_are_signs) (defScope st_are_signs) .none kV_are_signs dc_are_signs pm_are_signs an_are_signs cd_are_signs ct_are_signs), sl_are_signs⟩)
    (c_are_signs : PySem.W.codeIn K cd_are_signs "are_signs" = true)
    (k_are_signs : PySem.W.keepIn K (.ref f_are_signs) = true)
    (a_Rules_init : PySem.W.findIn K (.ref C_Rules) "__init__" = some (some (.ref f_Rules_init)))
    (i_Rules_init : PySem.W.isFn K (.ref f_Rules_init) = true)
    (l_Rules_init : K.lookup f_Rules_init = some ⟨oc_Rules_init, od_Rules_init, .func (PySem.W.fnOf "__init__" "Rules.__init__" (defArgs st_Rules_init) (defBody st_Rules_init) (defScope st_Rules_init) (.ref T_Rules_init) kV_Rules_init dc_Rules_init pm_Rules_init an_Rules_init cd_Rules_init ct_Rules_init), sl_Rules_init⟩)
    (d_Rules_init : K.lookup T_Rules_init = some ⟨.type "tuple", odT_Rules_init, .seq #[Value.str (" " : Str) t0_Rules_init, Value.str ("'" : Str) t1_Rules_init, Value.str ("\"" : Str) t2_Rules_init, Value.str ("\\" : Str) t3_Rules_init, Value.str ("#" : Str) t4_Rules_init] nT_Rules_init, slT_Rules_init⟩)
    (c_Rules_init : PySem.W.codeIn K cd_Rules_init "Rules.__init__" = true)
    (k_Rules_init : PySem.W.keepIn K (.ref f_Rules_init) = true)
    (a_Rules_told : PySem.W.findIn K (.ref C_Rules) "told" = some (some (.ref f_Rules_told)))
    (i_Rules_told : PySem.W.isFn K (.ref f_Rules_told) = true)
    (l_Rules_told : K.lookup f_Rules_told = some ⟨oc_Rules_told, od_Rules_told, .func (PySem.W.fnOf "told" "Rules.told" (defArgs st_Rules_told) (defBody st_Rules_told) (defScope st_Rules_told) .none kV_Rules_told dc_Rules_told pm_Rules_told an_Rules_told cd_Rules_told ct_Rules_told), sl_Rules_told⟩)
    (c_Rules_told : PySem.W.codeIn K cd_Rules_told "Rules.told" = true)
    (k_Rules_told : PySem.W.keepIn K (.ref f_Rules_told) = true)
    (a_Rules_quotes : PySem.W.findIn K (.ref C_Rules) "quotes" = some (some (.ref f_Rules_quotes)))
    (i_Rules_quotes : PySem.W.isFn K (.ref f_Rules_quotes) = true)
    (l_Rules_quotes : K.lookup f_Rules_quotes = some ⟨oc_Rules_quotes, od_Rules_quotes, .func (PySem.W.fnOf "quotes" "Rules.quotes" (defArgs st_Rules_quotes) (defBody st_Rules_quotes) (defScope st_Rules_quotes) .none kV_Rules_quotes dc_Rules_quotes pm_Rules_quotes an_Rules_quotes cd_Rules_quotes ct_Rules_quotes), sl_Rules_quotes⟩)
    (c_Rules_quotes : PySem.W.codeIn K cd_Rules_quotes "Rules.quotes" = true)
    (k_Rules_quotes : PySem.W.keepIn K (.ref f_Rules_quotes) = true)
    (a_Machine_init : PySem.W.findIn K (.ref C_Machine) "__init__" = some (some (.ref f_Machine_init)))
    (i_Machine_init : PySem.W.isFn K (.ref f_Machine_init) = true)
    (l_Machine_init : K.lookup f_Machine_init = some ⟨oc_Machine_init, od_Machine_init, .func (PySem.W.fnOf "__init__" "Machine.__init__" (defArgs st_Machine_init) (defBody st_Machine_init) (defScope st_Machine_init) .none kV_Machine_init dc_Machine_init pm_Machine_init an_Machine_init cd_Machine_init ct_Machine_init), sl_Machine_init⟩)
    (c_Machine_init : PySem.W.codeIn K cd_Machine_init "Machine.__init__" = true)
    (k_Machine_init : PySem.W.keepIn K (.ref f_Machine_init) = true)
    (a_Machine_key : PySem.W.findIn K (.ref C_Machine) "key" = some (some (.ref f_Machine_key)))
    (i_Machine_key : PySem.W.isFn K (.ref f_Machine_key) = true)
    (l_Machine_key : K.lookup f_Machine_key = some ⟨oc_Machine_key, od_Machine_key, .func (PySem.W.fnOf "key" "Machine.key" (defArgs st_Machine_key) (defBody st_Machine_key) (defScope st_Machine_key) .none kV_Machine_key dc_Machine_key pm_Machine_key an_Machine_key cd_Machine_key ct_Machine_key), sl_Machine_key⟩)
    (c_Machine_key : PySem.W.codeIn K cd_Machine_key "Machine.key" = true)
    (k_Machine_key : PySem.W.keepIn K (.ref f_Machine_key) = true)
    (a_Machine_begin : PySem.W.findIn K (.ref C_Machine) "begin" = some (some (.ref f_Machine_begin)))
    (i_Machine_begin : PySem.W.isFn K (.ref f_Machine_begin) = true)
    (l_Machine_begin : K.lookup f_Machine_begin = some ⟨oc_Machine_begin, od_Machine_begin, .func (PySem.W.fnOf "begin" "Machine.begin" (defArgs st_Machine_begin) (defBody st_Machine_begin) (defScope st_Machine_begin) .none kV_Machine_begin dc_Machine_begin pm_Machine_begin an_Machine_begin cd_Machine_begin ct_Machine_begin), sl_Machine_begin⟩)
    (c_Machine_begin : PySem.W.codeIn K cd_Machine_begin "Machine.begin" = true)
    (k_Machine_begin : PySem.W.keepIn K (.ref f_Machine_begin) = true)
    (a_Machine_ended : PySem.W.findIn K (.ref C_Machine) "ended" = some (some (.ref f_Machine_ended)))
    (i_Machine_ended : PySem.W.isFn K (.ref f_Machine_ended) = true)
    (l_Machine_ended : K.lookup f_Machine_ended = some ⟨oc_Machine_ended, od_Machine_ended, .func (PySem.W.fnOf "ended" "Machine.ended" (defArgs st_Machine_ended) (defBody st_Machine_ended) (defScope st_Machine_ended) .none kV_Machine_ended dc_Machine_ended pm_Machine_ended an_Machine_ended cd_Machine_ended ct_Machine_ended), sl_Machine_ended⟩)
    (c_Machine_ended : PySem.W.codeIn K cd_Machine_ended "Machine.ended" = true)
    (k_Machine_ended : PySem.W.keepIn K (.ref f_Machine_ended) = true)
    (a_Machine_plain : PySem.W.findIn K (.ref C_Machine) "plain" = some (some (.ref f_Machine_plain)))
    (i_Machine_plain : PySem.W.isFn K (.ref f_Machine_plain) = true)
    (l_Machine_plain : K.lookup f_Machine_plain = some ⟨oc_Machine_plain, od_Machine_plain, .func (PySem.W.fnOf "plain" "Machine.plain" (defArgs st_Machine_plain) (defBody st_Machine_plain) (defScope st_Machine_plain) .none kV_Machine_plain dc_Machine_plain pm_Machine_plain an_Machine_plain cd_Machine_plain ct_Machine_plain), sl_Machine_plain⟩)
    (c_Machine_plain : PySem.W.codeIn K cd_Machine_plain "Machine.plain" = true)
    (k_Machine_plain : PySem.W.keepIn K (.ref f_Machine_plain) = true)
    (a_Machine_quoted : PySem.W.findIn K (.ref C_Machine) "quoted" = some (some (.ref f_Machine_quoted)))
    (i_Machine_quoted : PySem.W.isFn K (.ref f_Machine_quoted) = true)
    (l_Machine_quoted : K.lookup f_Machine_quoted = some ⟨oc_Machine_quoted, od_Machine_quoted, .func (PySem.W.fnOf "quoted" "Machine.quoted" (defArgs st_Machine_quoted) (defBody st_Machine_quoted) (defScope st_Machine_quoted) .none kV_Machine_quoted dc_Machine_quoted pm_Machine_quoted an_Machine_quoted cd_Machine_quoted ct_Machine_quoted), sl_Machine_quoted⟩)
    (c_Machine_quoted : PySem.W.codeIn K cd_Machine_quoted "Machine.quoted" = true)
    (k_Machine_quoted : PySem.W.keepIn K (.ref f_Machine_quoted) = true)
    (a_Machine_step : PySem.W.findIn K (.ref C_Machine) "step" = some (some (.ref f_Machine_step)))
    (i_Machine_step : PySem.W.isFn K (.ref f_Machine_step) = true)
    (l_Machine_step : K.lookup f_Machine_step = some ⟨oc_Machine_step, od_Machine_step, .func (PySem.W.fnOf "step" "Machine.step" (defArgs st_Machine_step) (defBody st_Machine_step) (defScope st_Machine_step) .none kV_Machine_step dc_Machine_step pm_Machine_step an_Machine_step cd_Machine_step ct_Machine_step), sl_Machine_step⟩)
    (c_Machine_step : PySem.W.codeIn K cd_Machine_step "Machine.step" = true)
    (k_Machine_step : PySem.W.keepIn K (.ref f_Machine_step) = true)
    (a_Machine_fault : PySem.W.findIn K (.ref C_Machine) "fault" = some (some (.ref f_Machine_fault)))
    (i_Machine_fault : PySem.W.isFn K (.ref f_Machine_fault) = true)
    (l_Machine_fault : K.lookup f_Machine_fault = some ⟨oc_Machine_fault, od_Machine_fault, .func (PySem.W.fnOf "fault" "Machine.fault" (defArgs st_Machine_fault) (defBody st_Machine_fault) (defScope st_Machine_fault) .none kV_Machine_fault dc_Machine_fault pm_Machine_fault an_Machine_fault cd_Machine_fault ct_Machine_fault), sl_Machine_fault⟩)
    (c_Machine_fault : PySem.W.codeIn K cd_Machine_fault "Machine.fault" = true)
    (k_Machine_fault : PySem.W.keepIn K (.ref f_Machine_fault) = true)
    (a_read_all : PySem.W.nsIn K mainGlobals "read_all" = some (some (.ref f_read_all)))
    (l_read_all : K.lookup f_read_all = some ⟨oc_read_all, od_read_all, .func (PySem.W.fnOf "read_all" "read_all" (defArgs st_read_all) (defBody st_read_all) (defScope st_read_all) .none kV_read_all dc_read_all pm_read_all an_read_all cd_read_all ct_read_all), sl_read_all⟩)
    (c_read_all : PySem.W.codeIn K cd_read_all "read_all" = true)
    (k_read_all : PySem.W.keepIn K (.ref f_read_all) = true)
    (a_part_of : PySem.W.nsIn K mainGlobals "part_of" = some (some (.ref f_part_of)))
    (l_part_of : K.lookup f_part_of = some ⟨oc_part_of, od_part_of, .func (PySem.W.fnOf "part_of" "part_of" (defArgs st_part_of) (defBody st_part_of) (defScope st_part_of) .none kV_part_of dc_part_of pm_part_of an_part_of cd_part_of ct_part_of), sl_part_of⟩)
    (c_part_of : PySem.W.codeIn K cd_part_of "part_of" = true)
    (k_part_of : PySem.W.keepIn K (.ref f_part_of) = true)
    (a_few_signs : PySem.W.nsIn K mainGlobals "few_signs" = some (some (.ref f_few_signs)))
    (l_few_signs : K.lookup f_few_signs = some ⟨oc_few_signs, od_few_signs, .func (PySem.W.fnOf "few_signs" "few_signs" (defArgs st_few_signs) (defBody st_few_signs) (defScope st_few_signs) .none kV_few_signs dc_few_signs pm_few_signs an_few_signs cd_few_signs ct_few_signs), sl_few_signs⟩)
    (c_few_signs : PySem.W.codeIn K cd_few_signs "few_signs" = true)
    (k_few_signs : PySem.W.keepIn K (.ref f_few_signs) = true)
    (a_read_alike : PySem.W.nsIn K mainGlobals "read_alike" = some (some (.ref f_read_alike)))
    (l_read_alike : K.lookup f_read_alike = some ⟨oc_read_alike, od_read_alike, .func (PySem.W.fnOf "read_alike" "read_alike" (defArgs st_read_alike) (defBody st_read_alike) (defScope st_read_alike) .none kV_read_alike dc_read_alike pm_read_alike an_read_alike cd_read_alike ct_read_alike), sl_read_alike⟩)
    (c_read_alike : PySem.W.codeIn K cd_read_alike "read_alike" = true)
    (k_read_alike : PySem.W.keepIn K (.ref f_read_alike) = true)
    (a_trail : PySem.W.nsIn K mainGlobals "trail" = some (some (.ref f_trail)))
    (l_trail : K.lookup f_trail = some ⟨oc_trail, od_trail, .func (PySem.W.fnOf "trail" "trail" (defArgs st_trail) (defBody st_trail) (defScope st_trail) .none kV_trail dc_trail pm_trail an_trail cd_trail ct_trail), sl_trail⟩)
    (c_trail : PySem.W.codeIn K cd_trail "trail" = true)
    (k_trail : PySem.W.keepIn K (.ref f_trail) = true)
    (a_marks_of : PySem.W.nsIn K mainGlobals "marks_of" = some (some (.ref f_marks_of)))
    (l_marks_of : K.lookup f_marks_of = some ⟨oc_marks_of, od_marks_of, .func (PySem.W.fnOf "marks_of" "marks_of" (defArgs st_marks_of) (defBody st_marks_of) (defScope st_marks_of) .none kV_marks_of dc_marks_of pm_marks_of an_marks_of cd_marks_of ct_marks_of), sl_marks_of⟩)
    (c_marks_of : PySem.W.codeIn K cd_marks_of "marks_of" = true)
    (k_marks_of : PySem.W.keepIn K (.ref f_marks_of) = true)
    (a_node_of : PySem.W.nsIn K mainGlobals "node_of" = some (some (.ref f_node_of)))
    (l_node_of : K.lookup f_node_of = some ⟨oc_node_of, od_node_of, .func (PySem.W.fnOf "node_of" "node_of" (defArgs st_node_of) (defBody st_node_of) (defScope st_node_of) .none kV_node_of dc_node_of pm_node_of an_node_of cd_node_of ct_node_of), sl_node_of⟩)
    (c_node_of : PySem.W.codeIn K cd_node_of "node_of" = true)
    (k_node_of : PySem.W.keepIn K (.ref f_node_of) = true)
    (a_first_parted : PySem.W.nsIn K mainGlobals "first_parted" = some (some (.ref f_first_parted)))
    (l_first_parted : K.lookup f_first_parted = some ⟨oc_first_parted, od_first_parted, .func (PySem.W.fnOf "first_parted" "first_parted" (defArgs st_first_parted) (defBody st_first_parted) (defScope st_first_parted) .none kV_first_parted dc_first_parted pm_first_parted an_first_parted cd_first_parted ct_first_parted), sl_first_parted⟩)
    (c_first_parted : PySem.W.codeIn K cd_first_parted "first_parted" = true)
    (k_first_parted : PySem.W.keepIn K (.ref f_first_parted) = true)
    (a_Alike_shows : PySem.W.findIn K (.ref C_Alike) "shows" = some (some (.ref f_Alike_shows)))
    (i_Alike_shows : PySem.W.isFn K (.ref f_Alike_shows) = true)
    (l_Alike_shows : K.lookup f_Alike_shows = some ⟨oc_Alike_shows, od_Alike_shows, .func (PySem.W.fnOf "shows" "Alike.shows" (defArgs st_Alike_shows) (defBody st_Alike_shows) (defScope st_Alike_shows) .none kV_Alike_shows dc_Alike_shows pm_Alike_shows an_Alike_shows cd_Alike_shows ct_Alike_shows), sl_Alike_shows⟩)
    (c_Alike_shows : PySem.W.codeIn K cd_Alike_shows "Alike.shows" = true)
    (k_Alike_shows : PySem.W.keepIn K (.ref f_Alike_shows) = true)
    (a_Parted_init : PySem.W.findIn K (.ref C_Parted) "__init__" = some (some (.ref f_Parted_init)))
    (i_Parted_init : PySem.W.isFn K (.ref f_Parted_init) = true)
    (l_Parted_init : K.lookup f_Parted_init = some ⟨oc_Parted_init, od_Parted_init, .func (PySem.W.fnOf "__init__" "Parted.__init__" (defArgs st_Parted_init) (defBody st_Parted_init) (defScope st_Parted_init) .none kV_Parted_init dc_Parted_init pm_Parted_init an_Parted_init cd_Parted_init ct_Parted_init), sl_Parted_init⟩)
    (c_Parted_init : PySem.W.codeIn K cd_Parted_init "Parted.__init__" = true)
    (k_Parted_init : PySem.W.keepIn K (.ref f_Parted_init) = true)
    (a_Parted_shows : PySem.W.findIn K (.ref C_Parted) "shows" = some (some (.ref f_Parted_shows)))
    (i_Parted_shows : PySem.W.isFn K (.ref f_Parted_shows) = true)
    (l_Parted_shows : K.lookup f_Parted_shows = some ⟨oc_Parted_shows, od_Parted_shows, .func (PySem.W.fnOf "shows" "Parted.shows" (defArgs st_Parted_shows) (defBody st_Parted_shows) (defScope st_Parted_shows) .none kV_Parted_shows dc_Parted_shows pm_Parted_shows an_Parted_shows cd_Parted_shows ct_Parted_shows), sl_Parted_shows⟩)
    (c_Parted_shows : PySem.W.codeIn K cd_Parted_shows "Parted.shows" = true)
    (k_Parted_shows : PySem.W.keepIn K (.ref f_Parted_shows) = true)
    (a_compared : PySem.W.nsIn K mainGlobals "compared" = some (some (.ref f_compared)))
    (l_compared : K.lookup f_compared = some ⟨oc_compared, od_compared, .func (PySem.W.fnOf "compared" "compared" (defArgs st_compared) (defBody st_compared) (defScope st_compared) .none kV_compared dc_compared pm_compared an_compared cd_compared ct_compared), sl_compared⟩)
    (c_compared : PySem.W.codeIn K cd_compared "compared" = true)
    (k_compared : PySem.W.keepIn K (.ref f_compared) = true)
    (a__law_cell_at : PySem.W.nsIn K mainGlobals "_law_cell_at" = some (some (.ref f__law_cell_at)))
    (l__law_cell_at : K.lookup f__law_cell_at = some ⟨oc__law_cell_at, od__law_cell_at, .func (PySem.W.fnOf "_law_cell_at" "_law_cell_at" (defArgs st__law_cell_at) (defBody st__law_cell_at) (defScope st__law_cell_at) .none kV__law_cell_at dc__law_cell_at pm__law_cell_at an__law_cell_at cd__law_cell_at ct__law_cell_at), sl__law_cell_at⟩)
    (c__law_cell_at : PySem.W.codeIn K cd__law_cell_at "_law_cell_at" = true)
    (k__law_cell_at : PySem.W.keepIn K (.ref f__law_cell_at) = true)
    (a__law_draw : PySem.W.nsIn K mainGlobals "_law_draw" = some (some (.ref f__law_draw)))
    (l__law_draw : K.lookup f__law_draw = some ⟨oc__law_draw, od__law_draw, .func (PySem.W.fnOf "_law_draw" "_law_draw" (defArgs st__law_draw) (defBody st__law_draw) (defScope st__law_draw) .none kV__law_draw dc__law_draw pm__law_draw an__law_draw cd__law_draw ct__law_draw), sl__law_draw⟩)
    (c__law_draw : PySem.W.codeIn K cd__law_draw "_law_draw" = true)
    (k__law_draw : PySem.W.keepIn K (.ref f__law_draw) = true)
    (a__law_number : PySem.W.nsIn K mainGlobals "_law_number" = some (some (.ref f__law_number)))
    (l__law_number : K.lookup f__law_number = some ⟨oc__law_number, od__law_number, .func (PySem.W.fnOf "_law_number" "_law_number" (defArgs st__law_number) (defBody st__law_number) (defScope st__law_number) .none kV__law_number dc__law_number pm__law_number an__law_number cd__law_number ct__law_number), sl__law_number⟩)
    (c__law_number : PySem.W.codeIn K cd__law_number "_law_number" = true)
    (k__law_number : PySem.W.keepIn K (.ref f__law_number) = true)
    (a__law_next : PySem.W.nsIn K mainGlobals "_law_next" = some (some (.ref f__law_next)))
    (l__law_next : K.lookup f__law_next = some ⟨oc__law_next, od__law_next, .func (PySem.W.fnOf "_law_next" "_law_next" (defArgs st__law_next) (defBody st__law_next) (defScope st__law_next) .none kV__law_next dc__law_next pm__law_next an__law_next cd__law_next ct__law_next), sl__law_next⟩)
    (c__law_next : PySem.W.codeIn K cd__law_next "_law_next" = true)
    (k__law_next : PySem.W.keepIn K (.ref f__law_next) = true)
    (a__law_told : PySem.W.nsIn K mainGlobals "_law_told" = some (some (.ref f__law_told)))
    (l__law_told : K.lookup f__law_told = some ⟨oc__law_told, od__law_told, .func (PySem.W.fnOf "_law_told" "_law_told" (defArgs st__law_told) (defBody st__law_told) (defScope st__law_told) .none kV__law_told dc__law_told pm__law_told an__law_told cd__law_told ct__law_told), sl__law_told⟩)
    (c__law_told : PySem.W.codeIn K cd__law_told "_law_told" = true)
    (k__law_told : PySem.W.keepIn K (.ref f__law_told) = true)
    (a__law_text : PySem.W.nsIn K mainGlobals "_law_text" = some (some (.ref f__law_text)))
    (l__law_text : K.lookup f__law_text = some ⟨oc__law_text, od__law_text, .func (PySem.W.fnOf "_law_text" "_law_text" (defArgs st__law_text) (defBody st__law_text) (defScope st__law_text) .none kV__law_text dc__law_text pm__law_text an__law_text cd__law_text ct__law_text), sl__law_text⟩)
    (c__law_text : PySem.W.codeIn K cd__law_text "_law_text" = true)
    (k__law_text : PySem.W.keepIn K (.ref f__law_text) = true)
    (a__law_rules : PySem.W.nsIn K mainGlobals "_law_rules" = some (some (.ref f__law_rules)))
    (l__law_rules : K.lookup f__law_rules = some ⟨oc__law_rules, od__law_rules, .func (PySem.W.fnOf "_law_rules" "_law_rules" (defArgs st__law_rules) (defBody st__law_rules) (defScope st__law_rules) .none kV__law_rules dc__law_rules pm__law_rules an__law_rules cd__law_rules ct__law_rules), sl__law_rules⟩)
    (c__law_rules : PySem.W.codeIn K cd__law_rules "_law_rules" = true)
    (k__law_rules : PySem.W.keepIn K (.ref f__law_rules) = true)
    (a__law_quoted : PySem.W.nsIn K mainGlobals "_law_quoted" = some (some (.ref f__law_quoted)))
    (l__law_quoted : K.lookup f__law_quoted = some ⟨oc__law_quoted, od__law_quoted, .func (PySem.W.fnOf "_law_quoted" "_law_quoted" (defArgs st__law_quoted) (defBody st__law_quoted) (defScope st__law_quoted) .none kV__law_quoted dc__law_quoted pm__law_quoted an__law_quoted cd__law_quoted ct__law_quoted), sl__law_quoted⟩)
    (c__law_quoted : PySem.W.codeIn K cd__law_quoted "_law_quoted" = true)
    (k__law_quoted : PySem.W.keepIn K (.ref f__law_quoted) = true)
    (a__law_word : PySem.W.nsIn K mainGlobals "_law_word" = some (some (.ref f__law_word)))
    (l__law_word : K.lookup f__law_word = some ⟨oc__law_word, od__law_word, .func (PySem.W.fnOf "_law_word" "_law_word" (defArgs st__law_word) (defBody st__law_word) (defScope st__law_word) .none kV__law_word dc__law_word pm__law_word an__law_word cd__law_word ct__law_word), sl__law_word⟩)
    (c__law_word : PySem.W.codeIn K cd__law_word "_law_word" = true)
    (k__law_word : PySem.W.keepIn K (.ref f__law_word) = true)
    (a__law_read : PySem.W.nsIn K mainGlobals "_law_read" = some (some (.ref f__law_read)))
    (l__law_read : K.lookup f__law_read = some ⟨oc__law_read, od__law_read, .func (PySem.W.fnOf "_law_read" "_law_read" (defArgs st__law_read) (defBody st__law_read) (defScope st__law_read) .none kV__law_read dc__law_read pm__law_read an__law_read cd__law_read ct__law_read), sl__law_read⟩)
    (c__law_read : PySem.W.codeIn K cd__law_read "_law_read" = true)
    (k__law_read : PySem.W.keepIn K (.ref f__law_read) = true)
    (a__law_same_rules : PySem.W.nsIn K mainGlobals "_law_same_rules" = some (some (.ref f__law_same_rules)))
    (l__law_same_rules : K.lookup f__law_same_rules = some ⟨oc__law_same_rules, od__law_same_rules, .func (PySem.W.fnOf "_law_same_rules" "_law_same_rules" (defArgs st__law_same_rules) (defBody st__law_same_rules) (defScope st__law_same_rules) .none kV__law_same_rules dc__law_same_rules pm__law_same_rules an__law_same_rules cd__law_same_rules ct__law_same_rules), sl__law_same_rules⟩)
    (c__law_same_rules : PySem.W.codeIn K cd__law_same_rules "_law_same_rules" = true)
    (k__law_same_rules : PySem.W.keepIn K (.ref f__law_same_rules) = true)
    (a__law_alike : PySem.W.nsIn K mainGlobals "_law_alike" = some (some (.ref f__law_alike)))
    (l__law_alike : K.lookup f__law_alike = some ⟨oc__law_alike, od__law_alike, .func (PySem.W.fnOf "_law_alike" "_law_alike" (defArgs st__law_alike) (defBody st__law_alike) (defScope st__law_alike) .none kV__law_alike dc__law_alike pm__law_alike an__law_alike cd__law_alike ct__law_alike), sl__law_alike⟩)
    (c__law_alike : PySem.W.codeIn K cd__law_alike "_law_alike" = true)
    (k__law_alike : PySem.W.keepIn K (.ref f__law_alike) = true)
    (a__law_signs : PySem.W.nsIn K mainGlobals "_law_signs" = some (some (.ref f__law_signs)))
    (l__law_signs : K.lookup f__law_signs = some ⟨oc__law_signs, od__law_signs, .func (PySem.W.fnOf "_law_signs" "_law_signs" (defArgs st__law_signs) (defBody st__law_signs) (defScope st__law_signs) .none kV__law_signs dc__law_signs pm__law_signs an__law_signs cd__law_signs ct__law_signs), sl__law_signs⟩)
    (c__law_signs : PySem.W.codeIn K cd__law_signs "_law_signs" = true)
    (k__law_signs : PySem.W.keepIn K (.ref f__law_signs) = true)
    (a__law_shorter : PySem.W.nsIn K mainGlobals "_law_shorter" = some (some (.ref f__law_shorter)))
    (l__law_shorter : K.lookup f__law_shorter = some ⟨oc__law_shorter, od__law_shorter, .func (PySem.W.fnOf "_law_shorter" "_law_shorter" (defArgs st__law_shorter) (defBody st__law_shorter) (defScope st__law_shorter) .none kV__law_shorter dc__law_shorter pm__law_shorter an__law_shorter cd__law_shorter ct__law_shorter), sl__law_shorter⟩)
    (c__law_shorter : PySem.W.codeIn K cd__law_shorter "_law_shorter" = true)
    (k__law_shorter : PySem.W.keepIn K (.ref f__law_shorter) = true)
    (a__law_near : PySem.W.nsIn K mainGlobals "_law_near" = some (some (.ref f__law_near)))
    (l__law_near : K.lookup f__law_near = some ⟨oc__law_near, od__law_near, .func (PySem.W.fnOf "_law_near" "_law_near" (defArgs st__law_near) (defBody st__law_near) (defScope st__law_near) .none kV__law_near dc__law_near pm__law_near an__law_near cd__law_near ct__law_near), sl__law_near⟩)
    (c__law_near : PySem.W.codeIn K cd__law_near "_law_near" = true)
    (k__law_near : PySem.W.keepIn K (.ref f__law_near) = true)
    (a__law_right : PySem.W.nsIn K mainGlobals "_law_right" = some (some (.ref f__law_right)))
    (l__law_right : K.lookup f__law_right = some ⟨oc__law_right, od__law_right, .func (PySem.W.fnOf "_law_right" "_law_right" (defArgs st__law_right) (defBody st__law_right) (defScope st__law_right) .none kV__law_right dc__law_right pm__law_right an__law_right cd__law_right ct__law_right), sl__law_right⟩)
    (c__law_right : PySem.W.codeIn K cd__law_right "_law_right" = true)
    (k__law_right : PySem.W.keepIn K (.ref f__law_right) = true)
    (a_law : PySem.W.nsIn K mainGlobals "law" = some (some (.ref f_law)))
    (l_law : K.lookup f_law = some ⟨oc_law, od_law, .func (PySem.W.fnOf "law" "law" (defArgs st_law) (defBody st_law) (defScope st_law) .none kV_law dc_law pm_law an_law cd_law ct_law), sl_law⟩)
    (c_law : PySem.W.codeIn K cd_law "law" = true)
    (k_law : PySem.W.keepIn K (.ref f_law) = true)
    (pg_Rules : PySem.W.plainGet K C_Rules Str.empty = true)
    (hd_Rules : PySem.W.hasDictIn K C_Rules = true)
    (po_Rules : PySem.W.plainOver K C_Rules = true)
    (sa_Rules : PySem.W.findIn K (.ref C_Rules) "__setattr__" = some (some (.builtin "object.__setattr__")))
    (mk_Rules : PySem.W.makesIn K C_Rules = true)
    (kc_Rules : PySem.W.keepIn K (.ref C_Rules) = true)
    (n_Rules_breaks : PySem.W.findIn K (.ref C_Rules) "breaks" = some none)
    (n_Rules_hard : PySem.W.findIn K (.ref C_Rules) "hard" = some none)
    (n_Rules_soft : PySem.W.findIn K (.ref C_Rules) "soft" = some none)
    (n_Rules_bend : PySem.W.findIn K (.ref C_Rules) "bend" = some none)
    (n_Rules_note : PySem.W.findIn K (.ref C_Rules) "note" = some none)
    (pg_Machine : PySem.W.plainGet K C_Machine Str.empty = true)
    (hd_Machine : PySem.W.hasDictIn K C_Machine = true)
    (po_Machine : PySem.W.plainOver K C_Machine = true)
    (sa_Machine : PySem.W.findIn K (.ref C_Machine) "__setattr__" = some (some (.builtin "object.__setattr__")))
    (mk_Machine : PySem.W.makesIn K C_Machine = true)
    (kc_Machine : PySem.W.keepIn K (.ref C_Machine) = true)
    (n_Machine_rules : PySem.W.findIn K (.ref C_Machine) "rules" = some none)
    (n_Machine_state : PySem.W.findIn K (.ref C_Machine) "state" = some none)
    (n_Machine_bent : PySem.W.findIn K (.ref C_Machine) "bent" = some none)
    (n_Machine_word : PySem.W.findIn K (.ref C_Machine) "word" = some none)
    (n_Machine_begun : PySem.W.findIn K (.ref C_Machine) "begun" = some none)
    (n_Machine_opened : PySem.W.findIn K (.ref C_Machine) "opened" = some none)
    (n_Machine_place : PySem.W.findIn K (.ref C_Machine) "place" = some none)
    (pg_Alike : PySem.W.plainGet K C_Alike Str.empty = true)
    (hd_Alike : PySem.W.hasDictIn K C_Alike = true)
    (po_Alike : PySem.W.plainOver K C_Alike = true)
    (sa_Alike : PySem.W.findIn K (.ref C_Alike) "__setattr__" = some (some (.builtin "object.__setattr__")))
    (mk_Alike : PySem.W.makesIn K C_Alike = true)
    (kc_Alike : PySem.W.keepIn K (.ref C_Alike) = true)
    (in_Alike : PySem.W.findIn K (.ref C_Alike) "__init__" = some (some (.builtin "object.__init__")))
    (pg_Parted : PySem.W.plainGet K C_Parted Str.empty = true)
    (hd_Parted : PySem.W.hasDictIn K C_Parted = true)
    (po_Parted : PySem.W.plainOver K C_Parted = true)
    (sa_Parted : PySem.W.findIn K (.ref C_Parted) "__setattr__" = some (some (.builtin "object.__setattr__")))
    (mk_Parted : PySem.W.makesIn K C_Parted = true)
    (kc_Parted : PySem.W.keepIn K (.ref C_Parted) = true)
    (n_Parted_text : PySem.W.findIn K (.ref C_Parted) "text" = some none)
    (g_LINE_END : PySem.W.nsIn K mainGlobals "LINE_END" = some (some (Value.str ("\n" : Str) t_LINE_END)))
    (g_MOST : PySem.W.nsIn K mainGlobals "MOST" = some (some (.ref a_MOST)))
    (s_MOST : K.lookup a_MOST = some ⟨.type "tuple", od_MOST, .seq #[.int 4 t0_MOST, .int 2 t1_MOST, .int 2 t2_MOST, .int 1 t3_MOST, .int 1 t4_MOST] n_MOST, sl_MOST⟩)
    (g_PLAIN : PySem.W.nsIn K mainGlobals "PLAIN" = some (some (Value.str ("" : Str) t_PLAIN)))
    (g_NOTED : PySem.W.nsIn K mainGlobals "NOTED" = some (some (Value.str ("note" : Str) t_NOTED)))
    (g_FAR : PySem.W.nsIn K mainGlobals "FAR" = some (some (Value.int 8 t_FAR)))
    (g_LETTERS : PySem.W.nsIn K mainGlobals "LETTERS" = some (some (Value.str ("abcdefghijklmnopqrstuvwxyz0123456789" : Str) t_LETTERS)))
    (b_isinstance : PySem.W.nsIn K mainGlobals "isinstance" = some none)
    (b_all : PySem.W.nsIn K mainGlobals "all" = some none)
    (b_any : PySem.W.nsIn K mainGlobals "any" = some none)
    (b_zip : PySem.W.nsIn K mainGlobals "zip" = some none)
    (b_len : PySem.W.nsIn K mainGlobals "len" = some none)
    (b_set : PySem.W.nsIn K mainGlobals "set" = some none)
    (b_str : PySem.W.nsIn K mainGlobals "str" = some none)
    (b_list : PySem.W.nsIn K mainGlobals "list" = some none)
    (b_range : PySem.W.nsIn K mainGlobals "range" = some none)
    (b_int : PySem.W.nsIn K mainGlobals "int" = some none)
    (b_tuple : PySem.W.nsIn K mainGlobals "tuple" = some none)
    (b_max : PySem.W.nsIn K mainGlobals "max" = some none)
    (b_min : PySem.W.nsIn K mainGlobals "min" = some none)
    (b_enumerate : PySem.W.nsIn K mainGlobals "enumerate" = some none)
    (b_sorted : PySem.W.nsIn K mainGlobals "sorted" = some none)
    (i_Rulesha : PySem.W.findIn K (.ref C_Rules) "__class__" = some (some (.builtin "object.__class__")))
    (i_Ruleshm : PySem.W.mroIn K C_Rules (.type "object") = some true)
    (objGet : PySem.W.specialIn K (.builtin "object.__class__") "__get__" = some (some (.builtin "getset_descriptor.__get__")))
    (objTak : PySem.W.takesIn K (.builtin "object.__class__") = some true)
    (i_Alikeha : PySem.W.findIn K (.ref C_Alike) "__class__" = some (some (.builtin "object.__class__")))
    (i_Alikehm : PySem.W.mroIn K C_Alike (.type "object") = some true)
    (i_Partedha : PySem.W.findIn K (.ref C_Parted) "__class__" = some (some (.builtin "object.__class__")))
    (i_Partedhm : PySem.W.mroIn K C_Parted (.type "object") = some true)
    (m_k_AlAn : PySem.W.mroIn K C_Alike (.ref C_Answer) = some true)
    (ty_Answer : PySem.W.typeIn K (.ref C_Answer) = some (.type "type"))
    (hd_Answer : PySem.W.hasDictIn K C_Answer = true)
    (ne_k_AlAn : (C_Alike : Nat) ≠ C_Answer)
    (m_k_PaAn : PySem.W.mroIn K C_Parted (.ref C_Answer) = some true)
    (ne_k_PaAn : (C_Parted : Nat) ≠ C_Answer)
    (m_k_AlPa : PySem.W.mroIn K C_Alike (.ref C_Parted) = some false)
    (ty_Parted : PySem.W.typeIn K (.ref C_Parted) = some (.type "type"))
    (ne_k_AlPa : (C_Alike : Nat) ≠ C_Parted)
    (m_k_PaAl : PySem.W.mroIn K C_Parted (.ref C_Alike) = some false)
    (ty_Alike : PySem.W.typeIn K (.ref C_Alike) = some (.type "type"))
    (ne_k_PaAl : (C_Parted : Nat) ≠ C_Alike)
    : ∃ fd : FuncData, (∀ (s : Shared) (v : Value), BindsTo s fd ⟨[v], []⟩ [("_law_script", v)]) ∧ ∀ base : Heap, K.In base → base.Ns mainGlobals mg → FnG P w K mg base 10 fa fd ["_law_script"] (sp_law K) := by
  have e := hfa.symm.trans (PySem.W.mg_of X G a_law)
  cases e
  have T : Txt K mg { c_QuoteError := (0 : Nat), c_BadRules := (0 : Nat), c_Rules := C_Rules, c_Machine := C_Machine, c_Answer := C_Answer, c_Alike := C_Alike, c_Parted := C_Parted, f_are_signs := f_are_signs, d_are_signs := PySem.W.fnOf "are_signs" "are_signs" (defArgs st_are_signs) (defBody st_are_signs) (defScope st_are_signs) .none kV_are_signs dc_are_signs pm_are_signs an_are_signs cd_are_signs ct_are_signs, f_Rules_init := f_Rules_init, d_Rules_init := PySem.W.fnOf "__init__" "Rules.__init__" (defArgs st_Rules_init) (defBody st_Rules_init) (defScope st_Rules_init) (.ref T_Rules_init) kV_Rules_init dc_Rules_init pm_Rules_init an_Rules_init cd_Rules_init ct_Rules_init, f_Rules_told := f_Rules_told, d_Rules_told := PySem.W.fnOf "told" "Rules.told" (defArgs st_Rules_told) (defBody st_Rules_told) (defScope st_Rules_told) .none kV_Rules_told dc_Rules_told pm_Rules_told an_Rules_told cd_Rules_told ct_Rules_told, f_Rules_quotes := f_Rules_quotes, d_Rules_quotes := PySem.W.fnOf "quotes" "Rules.quotes" (defArgs st_Rules_quotes) (defBody st_Rules_quotes) (defScope st_Rules_quotes) .none kV_Rules_quotes dc_Rules_quotes pm_Rules_quotes an_Rules_quotes cd_Rules_quotes ct_Rules_quotes, f_Machine_init := f_Machine_init, d_Machine_init := PySem.W.fnOf "__init__" "Machine.__init__" (defArgs st_Machine_init) (defBody st_Machine_init) (defScope st_Machine_init) .none kV_Machine_init dc_Machine_init pm_Machine_init an_Machine_init cd_Machine_init ct_Machine_init, f_Machine_key := f_Machine_key, d_Machine_key := PySem.W.fnOf "key" "Machine.key" (defArgs st_Machine_key) (defBody st_Machine_key) (defScope st_Machine_key) .none kV_Machine_key dc_Machine_key pm_Machine_key an_Machine_key cd_Machine_key ct_Machine_key, f_Machine_begin := f_Machine_begin, d_Machine_begin := PySem.W.fnOf "begin" "Machine.begin" (defArgs st_Machine_begin) (defBody st_Machine_begin) (defScope st_Machine_begin) .none kV_Machine_begin dc_Machine_begin pm_Machine_begin an_Machine_begin cd_Machine_begin ct_Machine_begin, f_Machine_ended := f_Machine_ended, d_Machine_ended := PySem.W.fnOf "ended" "Machine.ended" (defArgs st_Machine_ended) (defBody st_Machine_ended) (defScope st_Machine_ended) .none kV_Machine_ended dc_Machine_ended pm_Machine_ended an_Machine_ended cd_Machine_ended ct_Machine_ended, f_Machine_plain := f_Machine_plain, d_Machine_plain := PySem.W.fnOf "plain" "Machine.plain" (defArgs st_Machine_plain) (defBody st_Machine_plain) (defScope st_Machine_plain) .none kV_Machine_plain dc_Machine_plain pm_Machine_plain an_Machine_plain cd_Machine_plain ct_Machine_plain, f_Machine_quoted := f_Machine_quoted, d_Machine_quoted := PySem.W.fnOf "quoted" "Machine.quoted" (defArgs st_Machine_quoted) (defBody st_Machine_quoted) (defScope st_Machine_quoted) .none kV_Machine_quoted dc_Machine_quoted pm_Machine_quoted an_Machine_quoted cd_Machine_quoted ct_Machine_quoted, f_Machine_step := f_Machine_step, d_Machine_step := PySem.W.fnOf "step" "Machine.step" (defArgs st_Machine_step) (defBody st_Machine_step) (defScope st_Machine_step) .none kV_Machine_step dc_Machine_step pm_Machine_step an_Machine_step cd_Machine_step ct_Machine_step, f_Machine_fault := f_Machine_fault, d_Machine_fault := PySem.W.fnOf "fault" "Machine.fault" (defArgs st_Machine_fault) (defBody st_Machine_fault) (defScope st_Machine_fault) .none kV_Machine_fault dc_Machine_fault pm_Machine_fault an_Machine_fault cd_Machine_fault ct_Machine_fault, f_read_all := f_read_all, d_read_all := PySem.W.fnOf "read_all" "read_all" (defArgs st_read_all) (defBody st_read_all) (defScope st_read_all) .none kV_read_all dc_read_all pm_read_all an_read_all cd_read_all ct_read_all, f_part_of := f_part_of, d_part_of := PySem.W.fnOf "part_of" "part_of" (defArgs st_part_of) (defBody st_part_of) (defScope st_part_of) .none kV_part_of dc_part_of pm_part_of an_part_of cd_part_of ct_part_of, f_few_signs := f_few_signs, d_few_signs := PySem.W.fnOf "few_signs" "few_signs" (defArgs st_few_signs) (defBody st_few_signs) (defScope st_few_signs) .none kV_few_signs dc_few_signs pm_few_signs an_few_signs cd_few_signs ct_few_signs, f_read_alike := f_read_alike, d_read_alike := PySem.W.fnOf "read_alike" "read_alike" (defArgs st_read_alike) (defBody st_read_alike) (defScope st_read_alike) .none kV_read_alike dc_read_alike pm_read_alike an_read_alike cd_read_alike ct_read_alike, f_trail := f_trail, d_trail := PySem.W.fnOf "trail" "trail" (defArgs st_trail) (defBody st_trail) (defScope st_trail) .none kV_trail dc_trail pm_trail an_trail cd_trail ct_trail, f_marks_of := f_marks_of, d_marks_of := PySem.W.fnOf "marks_of" "marks_of" (defArgs st_marks_of) (defBody st_marks_of) (defScope st_marks_of) .none kV_marks_of dc_marks_of pm_marks_of an_marks_of cd_marks_of ct_marks_of, f_node_of := f_node_of, d_node_of := PySem.W.fnOf "node_of" "node_of" (defArgs st_node_of) (defBody st_node_of) (defScope st_node_of) .none kV_node_of dc_node_of pm_node_of an_node_of cd_node_of ct_node_of, f_first_parted := f_first_parted, d_first_parted := PySem.W.fnOf "first_parted" "first_parted" (defArgs st_first_parted) (defBody st_first_parted) (defScope st_first_parted) .none kV_first_parted dc_first_parted pm_first_parted an_first_parted cd_first_parted ct_first_parted, f_Alike_shows := f_Alike_shows, d_Alike_shows := PySem.W.fnOf "shows" "Alike.shows" (defArgs st_Alike_shows) (defBody st_Alike_shows) (defScope st_Alike_shows) .none kV_Alike_shows dc_Alike_shows pm_Alike_shows an_Alike_shows cd_Alike_shows ct_Alike_shows, f_Parted_init := f_Parted_init, d_Parted_init := PySem.W.fnOf "__init__" "Parted.__init__" (defArgs st_Parted_init) (defBody st_Parted_init) (defScope st_Parted_init) .none kV_Parted_init dc_Parted_init pm_Parted_init an_Parted_init cd_Parted_init ct_Parted_init, f_Parted_shows := f_Parted_shows, d_Parted_shows := PySem.W.fnOf "shows" "Parted.shows" (defArgs st_Parted_shows) (defBody st_Parted_shows) (defScope st_Parted_shows) .none kV_Parted_shows dc_Parted_shows pm_Parted_shows an_Parted_shows cd_Parted_shows ct_Parted_shows, f_compared := f_compared, d_compared := PySem.W.fnOf "compared" "compared" (defArgs st_compared) (defBody st_compared) (defScope st_compared) .none kV_compared dc_compared pm_compared an_compared cd_compared ct_compared, f__law_cell_at := f__law_cell_at, d__law_cell_at := PySem.W.fnOf "_law_cell_at" "_law_cell_at" (defArgs st__law_cell_at) (defBody st__law_cell_at) (defScope st__law_cell_at) .none kV__law_cell_at dc__law_cell_at pm__law_cell_at an__law_cell_at cd__law_cell_at ct__law_cell_at, f__law_draw := f__law_draw, d__law_draw := PySem.W.fnOf "_law_draw" "_law_draw" (defArgs st__law_draw) (defBody st__law_draw) (defScope st__law_draw) .none kV__law_draw dc__law_draw pm__law_draw an__law_draw cd__law_draw ct__law_draw, f__law_number := f__law_number, d__law_number := PySem.W.fnOf "_law_number" "_law_number" (defArgs st__law_number) (defBody st__law_number) (defScope st__law_number) .none kV__law_number dc__law_number pm__law_number an__law_number cd__law_number ct__law_number, f__law_next := f__law_next, d__law_next := PySem.W.fnOf "_law_next" "_law_next" (defArgs st__law_next) (defBody st__law_next) (defScope st__law_next) .none kV__law_next dc__law_next pm__law_next an__law_next cd__law_next ct__law_next, f__law_told := f__law_told, d__law_told := PySem.W.fnOf "_law_told" "_law_told" (defArgs st__law_told) (defBody st__law_told) (defScope st__law_told) .none kV__law_told dc__law_told pm__law_told an__law_told cd__law_told ct__law_told, f__law_text := f__law_text, d__law_text := PySem.W.fnOf "_law_text" "_law_text" (defArgs st__law_text) (defBody st__law_text) (defScope st__law_text) .none kV__law_text dc__law_text pm__law_text an__law_text cd__law_text ct__law_text, f__law_rules := f__law_rules, d__law_rules := PySem.W.fnOf "_law_rules" "_law_rules" (defArgs st__law_rules) (defBody st__law_rules) (defScope st__law_rules) .none kV__law_rules dc__law_rules pm__law_rules an__law_rules cd__law_rules ct__law_rules, f__law_quoted := f__law_quoted, d__law_quoted := PySem.W.fnOf "_law_quoted" "_law_quoted" (defArgs st__law_quoted) (defBody st__law_quoted) (defScope st__law_quoted) .none kV__law_quoted dc__law_quoted pm__law_quoted an__law_quoted cd__law_quoted ct__law_quoted, f__law_word := f__law_word, d__law_word := PySem.W.fnOf "_law_word" "_law_word" (defArgs st__law_word) (defBody st__law_word) (defScope st__law_word) .none kV__law_word dc__law_word pm__law_word an__law_word cd__law_word ct__law_word, f__law_read := f__law_read, d__law_read := PySem.W.fnOf "_law_read" "_law_read" (defArgs st__law_read) (defBody st__law_read) (defScope st__law_read) .none kV__law_read dc__law_read pm__law_read an__law_read cd__law_read ct__law_read, f__law_same_rules := f__law_same_rules, d__law_same_rules := PySem.W.fnOf "_law_same_rules" "_law_same_rules" (defArgs st__law_same_rules) (defBody st__law_same_rules) (defScope st__law_same_rules) .none kV__law_same_rules dc__law_same_rules pm__law_same_rules an__law_same_rules cd__law_same_rules ct__law_same_rules, f__law_alike := f__law_alike, d__law_alike := PySem.W.fnOf "_law_alike" "_law_alike" (defArgs st__law_alike) (defBody st__law_alike) (defScope st__law_alike) .none kV__law_alike dc__law_alike pm__law_alike an__law_alike cd__law_alike ct__law_alike, f__law_signs := f__law_signs, d__law_signs := PySem.W.fnOf "_law_signs" "_law_signs" (defArgs st__law_signs) (defBody st__law_signs) (defScope st__law_signs) .none kV__law_signs dc__law_signs pm__law_signs an__law_signs cd__law_signs ct__law_signs, f__law_shorter := f__law_shorter, d__law_shorter := PySem.W.fnOf "_law_shorter" "_law_shorter" (defArgs st__law_shorter) (defBody st__law_shorter) (defScope st__law_shorter) .none kV__law_shorter dc__law_shorter pm__law_shorter an__law_shorter cd__law_shorter ct__law_shorter, f__law_near := f__law_near, d__law_near := PySem.W.fnOf "_law_near" "_law_near" (defArgs st__law_near) (defBody st__law_near) (defScope st__law_near) .none kV__law_near dc__law_near pm__law_near an__law_near cd__law_near ct__law_near, f__law_right := f__law_right, d__law_right := PySem.W.fnOf "_law_right" "_law_right" (defArgs st__law_right) (defBody st__law_right) (defScope st__law_right) .none kV__law_right dc__law_right pm__law_right an__law_right cd__law_right ct__law_right, f_law := fa, d_law := PySem.W.fnOf "law" "law" (defArgs st_law) (defBody st_law) (defScope st_law) .none kV_law dc_law pm_law an_law cd_law ct_law, t_LINE_END := t_LINE_END, a_MOST := a_MOST, t_PLAIN := t_PLAIN, t_NOTED := t_NOTED, t_FAR := t_FAR, t_LETTERS := t_LETTERS } := {
    F_are_signs := fun_mk (st := st_are_signs) l_are_signs c_are_signs k_are_signs,
    f_are_signs := ⟨PySem.W.mg_of X G a_are_signs, k_are_signs⟩,
    F_Rules_init := ⟨⟨_, _, _, _, _, _, _, _, _, _, rfl, l_Rules_init, c_Rules_init, .inr ⟨by decide, T_Rules_init, _, _, _, rfl, d_Rules_init, rfl, .cons ⟨_, rfl⟩ (.cons ⟨_, rfl⟩ (.cons ⟨_, rfl⟩ (.cons ⟨_, rfl⟩ (.cons ⟨_, rfl⟩ (.nil)))))⟩, .inl rfl⟩, k_Rules_init⟩,
    F_Rules_told := fun_mk (st := st_Rules_told) l_Rules_told c_Rules_told k_Rules_told,
    m_Rules_told := ⟨a_Rules_told, i_Rules_told, k_Rules_told⟩,
    F_Rules_quotes := fun_mk (st := st_Rules_quotes) l_Rules_quotes c_Rules_quotes k_Rules_quotes,
    m_Rules_quotes := ⟨a_Rules_quotes, i_Rules_quotes, k_Rules_quotes⟩,
    F_Machine_init := fun_mk (st := st_Machine_init) l_Machine_init c_Machine_init k_Machine_init,
    F_Machine_key := fun_mk (st := st_Machine_key) l_Machine_key c_Machine_key k_Machine_key,
    m_Machine_key := ⟨a_Machine_key, i_Machine_key, k_Machine_key⟩,
    F_Machine_begin := fun_mk (st := st_Machine_begin) l_Machine_begin c_Machine_begin k_Machine_begin,
    m_Machine_begin := ⟨a_Machine_begin, i_Machine_begin, k_Machine_begin⟩,
    F_Machine_ended := fun_mk (st := st_Machine_ended) l_Machine_ended c_Machine_ended k_Machine_ended,
    m_Machine_ended := ⟨a_Machine_ended, i_Machine_ended, k_Machine_ended⟩,
    F_Machine_plain := fun_mk (st := st_Machine_plain) l_Machine_plain c_Machine_plain k_Machine_plain,
    m_Machine_plain := ⟨a_Machine_plain, i_Machine_plain, k_Machine_plain⟩,
    F_Machine_quoted := fun_mk (st := st_Machine_quoted) l_Machine_quoted c_Machine_quoted k_Machine_quoted,
    m_Machine_quoted := ⟨a_Machine_quoted, i_Machine_quoted, k_Machine_quoted⟩,
    F_Machine_step := fun_mk (st := st_Machine_step) l_Machine_step c_Machine_step k_Machine_step,
    m_Machine_step := ⟨a_Machine_step, i_Machine_step, k_Machine_step⟩,
    F_Machine_fault := fun_mk (st := st_Machine_fault) l_Machine_fault c_Machine_fault k_Machine_fault,
    m_Machine_fault := ⟨a_Machine_fault, i_Machine_fault, k_Machine_fault⟩,
    F_read_all := fun_mk (st := st_read_all) l_read_all c_read_all k_read_all,
    f_read_all := ⟨PySem.W.mg_of X G a_read_all, k_read_all⟩,
    F_part_of := fun_mk (st := st_part_of) l_part_of c_part_of k_part_of,
    f_part_of := ⟨PySem.W.mg_of X G a_part_of, k_part_of⟩,
    F_few_signs := fun_mk (st := st_few_signs) l_few_signs c_few_signs k_few_signs,
    f_few_signs := ⟨PySem.W.mg_of X G a_few_signs, k_few_signs⟩,
    F_read_alike := fun_mk (st := st_read_alike) l_read_alike c_read_alike k_read_alike,
    f_read_alike := ⟨PySem.W.mg_of X G a_read_alike, k_read_alike⟩,
    F_trail := fun_mk (st := st_trail) l_trail c_trail k_trail,
    f_trail := ⟨PySem.W.mg_of X G a_trail, k_trail⟩,
    F_marks_of := fun_mk (st := st_marks_of) l_marks_of c_marks_of k_marks_of,
    f_marks_of := ⟨PySem.W.mg_of X G a_marks_of, k_marks_of⟩,
    F_node_of := fun_mk (st := st_node_of) l_node_of c_node_of k_node_of,
    f_node_of := ⟨PySem.W.mg_of X G a_node_of, k_node_of⟩,
    F_first_parted := fun_mk (st := st_first_parted) l_first_parted c_first_parted k_first_parted,
    f_first_parted := ⟨PySem.W.mg_of X G a_first_parted, k_first_parted⟩,
    F_Alike_shows := fun_mk (st := st_Alike_shows) l_Alike_shows c_Alike_shows k_Alike_shows,
    m_Alike_shows := ⟨a_Alike_shows, i_Alike_shows, k_Alike_shows⟩,
    F_Parted_init := fun_mk (st := st_Parted_init) l_Parted_init c_Parted_init k_Parted_init,
    F_Parted_shows := fun_mk (st := st_Parted_shows) l_Parted_shows c_Parted_shows k_Parted_shows,
    m_Parted_shows := ⟨a_Parted_shows, i_Parted_shows, k_Parted_shows⟩,
    F_compared := fun_mk (st := st_compared) l_compared c_compared k_compared,
    f_compared := ⟨PySem.W.mg_of X G a_compared, k_compared⟩,
    F__law_cell_at := fun_mk (st := st__law_cell_at) l__law_cell_at c__law_cell_at k__law_cell_at,
    f__law_cell_at := ⟨PySem.W.mg_of X G a__law_cell_at, k__law_cell_at⟩,
    F__law_draw := fun_mk (st := st__law_draw) l__law_draw c__law_draw k__law_draw,
    f__law_draw := ⟨PySem.W.mg_of X G a__law_draw, k__law_draw⟩,
    F__law_number := fun_mk (st := st__law_number) l__law_number c__law_number k__law_number,
    f__law_number := ⟨PySem.W.mg_of X G a__law_number, k__law_number⟩,
    F__law_next := fun_mk (st := st__law_next) l__law_next c__law_next k__law_next,
    f__law_next := ⟨PySem.W.mg_of X G a__law_next, k__law_next⟩,
    F__law_told := fun_mk (st := st__law_told) l__law_told c__law_told k__law_told,
    f__law_told := ⟨PySem.W.mg_of X G a__law_told, k__law_told⟩,
    F__law_text := fun_mk (st := st__law_text) l__law_text c__law_text k__law_text,
    f__law_text := ⟨PySem.W.mg_of X G a__law_text, k__law_text⟩,
    F__law_rules := fun_mk (st := st__law_rules) l__law_rules c__law_rules k__law_rules,
    f__law_rules := ⟨PySem.W.mg_of X G a__law_rules, k__law_rules⟩,
    F__law_quoted := fun_mk (st := st__law_quoted) l__law_quoted c__law_quoted k__law_quoted,
    f__law_quoted := ⟨PySem.W.mg_of X G a__law_quoted, k__law_quoted⟩,
    F__law_word := fun_mk (st := st__law_word) l__law_word c__law_word k__law_word,
    f__law_word := ⟨PySem.W.mg_of X G a__law_word, k__law_word⟩,
    F__law_read := fun_mk (st := st__law_read) l__law_read c__law_read k__law_read,
    f__law_read := ⟨PySem.W.mg_of X G a__law_read, k__law_read⟩,
    F__law_same_rules := fun_mk (st := st__law_same_rules) l__law_same_rules c__law_same_rules k__law_same_rules,
    f__law_same_rules := ⟨PySem.W.mg_of X G a__law_same_rules, k__law_same_rules⟩,
    F__law_alike := fun_mk (st := st__law_alike) l__law_alike c__law_alike k__law_alike,
    f__law_alike := ⟨PySem.W.mg_of X G a__law_alike, k__law_alike⟩,
    F__law_signs := fun_mk (st := st__law_signs) l__law_signs c__law_signs k__law_signs,
    f__law_signs := ⟨PySem.W.mg_of X G a__law_signs, k__law_signs⟩,
    F__law_shorter := fun_mk (st := st__law_shorter) l__law_shorter c__law_shorter k__law_shorter,
    f__law_shorter := ⟨PySem.W.mg_of X G a__law_shorter, k__law_shorter⟩,
    F__law_near := fun_mk (st := st__law_near) l__law_near c__law_near k__law_near,
    f__law_near := ⟨PySem.W.mg_of X G a__law_near, k__law_near⟩,
    F__law_right := fun_mk (st := st__law_right) l__law_right c__law_right k__law_right,
    f__law_right := ⟨PySem.W.mg_of X G a__law_right, k__law_right⟩,
    F_law := fun_mk (st := st_law) l_law c_law k_law,
    f_law := ⟨PySem.W.mg_of X G a_law, k_law⟩,
    c_Rules := ⟨PySem.W.mg_of X G aC_Rules, ⟨pg_Rules, hd_Rules, po_Rules, sa_Rules⟩, ⟨mk_Rules, a_Rules_init, i_Rules_init, kc_Rules⟩⟩,
    n_Rules_breaks := n_Rules_breaks,
    n_Rules_hard := n_Rules_hard,
    n_Rules_soft := n_Rules_soft,
    n_Rules_bend := n_Rules_bend,
    n_Rules_note := n_Rules_note,
    c_Machine := ⟨PySem.W.mg_of X G aC_Machine, ⟨pg_Machine, hd_Machine, po_Machine, sa_Machine⟩, ⟨mk_Machine, a_Machine_init, i_Machine_init, kc_Machine⟩⟩,
    n_Machine_rules := n_Machine_rules,
    n_Machine_state := n_Machine_state,
    n_Machine_bent := n_Machine_bent,
    n_Machine_word := n_Machine_word,
    n_Machine_begun := n_Machine_begun,
    n_Machine_opened := n_Machine_opened,
    n_Machine_place := n_Machine_place,
    c_Alike := ⟨PySem.W.mg_of X G aC_Alike, ⟨pg_Alike, hd_Alike, po_Alike, sa_Alike⟩, ⟨mk_Alike, in_Alike, kc_Alike⟩⟩,
    c_Parted := ⟨PySem.W.mg_of X G aC_Parted, ⟨pg_Parted, hd_Parted, po_Parted, sa_Parted⟩, ⟨mk_Parted, a_Parted_init, i_Parted_init, kc_Parted⟩⟩,
    n_Parted_text := n_Parted_text,
    g_LINE_END := PySem.W.mg_of X G g_LINE_END,
    g_MOST := PySem.W.mg_of X G g_MOST,
    s_MOST := fun H => .inr ⟨_, _, _, s_MOST, rfl, rfl, (show 5 ≤ sizeLine by decide), .cons ⟨_, rfl⟩ (.cons ⟨_, rfl⟩ (.cons ⟨_, rfl⟩ (.cons ⟨_, rfl⟩ (.cons ⟨_, rfl⟩ (.nil)))))⟩,
    g_PLAIN := PySem.W.mg_of X G g_PLAIN,
    g_NOTED := PySem.W.mg_of X G g_NOTED,
    g_FAR := PySem.W.mg_of X G g_FAR,
    g_LETTERS := PySem.W.mg_of X G g_LETTERS,
    b_isinstance := PySem.W.mg_none_of X G b_isinstance,
    b_all := PySem.W.mg_none_of X G b_all,
    b_any := PySem.W.mg_none_of X G b_any,
    b_zip := PySem.W.mg_none_of X G b_zip,
    b_len := PySem.W.mg_none_of X G b_len,
    b_set := PySem.W.mg_none_of X G b_set,
    b_str := PySem.W.mg_none_of X G b_str,
    b_list := PySem.W.mg_none_of X G b_list,
    b_range := PySem.W.mg_none_of X G b_range,
    b_int := PySem.W.mg_none_of X G b_int,
    b_tuple := PySem.W.mg_none_of X G b_tuple,
    b_max := PySem.W.mg_none_of X G b_max,
    b_min := PySem.W.mg_none_of X G b_min,
    b_enumerate := PySem.W.mg_none_of X G b_enumerate,
    b_sorted := PySem.W.mg_none_of X G b_sorted,
    i_Rules := ⟨i_Rulesha, objGet, objTak, i_Ruleshm⟩,
    k_RR := if_pos (beq_self_eq_true _),
    c_Answer := ⟨PySem.W.mg_of X G aC_Answer⟩,
    i_Alike := ⟨i_Alikeha, objGet, objTak, i_Alikehm⟩,
    i_Parted := ⟨i_Partedha, objGet, objTak, i_Partedhm⟩,
    k_AlAn := kit_own ne_k_AlAn hd_Answer ty_Answer m_k_AlAn,
    k_PaAn := kit_own ne_k_PaAn hd_Answer ty_Answer m_k_PaAn,
    k_AlAl := if_pos (beq_self_eq_true _),
    k_PaPa := if_pos (beq_self_eq_true _),
    k_AlPa := kit_own ne_k_AlPa hd_Parted ty_Parted m_k_AlPa,
    k_PaAl := kit_own ne_k_PaAl hd_Alike ty_Alike m_k_PaAl }
  exact ⟨_, fun s v => .of_eq rfl, fun base _ _ => ok_law T⟩
theorem walk {l : PySem.W.OpenLaw} {q : Program} {loose : List Str} {XP : (Str → Option Value) → Heap → Prop} {YP : World → Heap → Prop} {d : DefRec} {K : Params → PySem.W.Frag} (hn : l.most = some 63)
    (hdf : d.params.defaults = []) (hY : ∀ (w : World) (h : Heap), YP w h → (K w.params).In h)
    (F : ∀ (w : World) (mg : Str → Option Value) (fa : Addr) (h : Heap), (K w.params).In h → h.Ns mainGlobals mg → mg d.name = some (.ref fa) →
      ∃ fd : FuncData, (∀ (s : Shared) (v : Value), BindsTo s fd ⟨[v], []⟩ [("_law_script", v)]) ∧ ∀ base : Heap, (K w.params).In base → base.Ns mainGlobals mg → FnG l.prog w (K w.params) mg base 10 fa fd ["_law_script"] (sp_law (K w.params))) :
    PySem.W.WalkO q loose XP YP l.row.toRowW d [] (fun f vs => PySem.call f vs) :=
  walk_ofG (n := 63) (k := 10) (x := "_law_script") hn (by decide) hdf ⟨rfl, by decide, by decide⟩ fun w mg fa h Y G hm => by
    obtain ⟨fd, h1, h2⟩ := F w mg fa h (hY w h Y) G hm
    exact ⟨K w.params, fd, sp_law _, hY w h Y, h1, fun H a ns hl _ hO hS => ⟨ns, a, rfl, hO, hS, hl, fun _ => rfl⟩, h2⟩
end Qw

set_option Elab.async false
set_option linter.all false
set_option maxRecDepth 100000
open PySem PySem.W PyProof.Rows
set_option pp.maxSteps 300
set_option pp.deepTerms false
set_option maxHeartbeats 0 in
theorem PySem.Challenge.cw_quotewords_k05_whole_compared_holds : PySem.Challenge.rw_quotewords_k05_whole_compared.Holds := by
  w_on; o_law; k_head; (case hw => w_witness2)
  k_fill
  refine Qw.walk (l := PySem.Challenge.rw_quotewords_k05_whole_compared) rfl rfl (fun w h Y => PySem.W.kIn_of Y) ?F
  case F =>
    intro w mg fa h KX G hmg
    refine' Qw.all_mk (P := PySem.Challenge.rw_quotewords_k05_whole_compared.prog) KX G hmg ?aC_Rules ?aC_Machine ?aC_Answer ?aC_Alike ?aC_Parted ?a_are_signs ?l_are_signs ?c_are_signs ?k_are_signs ?a_Rules_init ?i_Rules_init ?l_Rules_init ?d_Rules_init ?c_Rules_init ?k_Rules_init ?a_Rules_told ?i_Rules_told ?l_Rules_told ?c_Rules_told ?k_Rules_told ?a_Rules_quotes ?i_Rules_quotes ?l_Rules_quotes ?c_Rules_quotes ?k_Rules_quotes ?a_Machine_init ?i_Machine_init ?l_Machine_init ?c_Machine_init ?k_Machine_init ?a_Machine_key ?i_Machine_key ?l_Machine_key ?c_Machine_key ?k_Machine_key ?a_Machine_begin ?i_Machine_begin ?l_Machine_begin ?c_Machine_begin ?k_Machine_begin ?a_Machine_ended ?i_Machine_ended ?l_Machine_ended ?c_Machine_ended ?k_Machine_ended ?a_Machine_plain ?i_Machine_plain ?l_Machine_plain ?c_Machine_plain ?k_Machine_plain ?a_Machine_quoted ?i_Machine_quoted ?l_Machine_quoted ?c_Machine_quoted ?k_Machine_quoted ?a_Machine_step ?i_Machine_step ?l_Machine_step ?c_Machine_step ?k_Machine_step ?a_Machine_fault ?i_Machine_fault ?l_Machine_fault ?c_Machine_fault ?k_Machine_fault ?a_read_all ?l_read_all ?c_read_all ?k_read_all ?a_part_of ?l_part_of ?c_part_of ?k_part_of ?a_few_signs ?l_few_signs ?c_few_signs ?k_few_signs ?a_read_alike ?l_read_alike ?c_read_alike ?k_read_alike ?a_trail ?l_trail ?c_trail ?k_trail ?a_marks_of ?l_marks_of ?c_marks_of ?k_marks_of ?a_node_of ?l_node_of ?c_node_of ?k_node_of ?a_first_parted ?l_first_parted ?c_first_parted ?k_first_parted ?a_Alike_shows ?i_Alike_shows ?l_Alike_shows ?c_Alike_shows ?k_Alike_shows ?a_Parted_init ?i_Parted_init ?l_Parted_init ?c_Parted_init ?k_Parted_init ?a_Parted_shows ?i_Parted_shows ?l_Parted_shows ?c_Parted_shows ?k_Parted_shows ?a_compared ?l_compared ?c_compared ?k_compared ?a__law_cell_at ?l__law_cell_at ?c__law_cell_at ?k__law_cell_at ?a__law_draw ?l__law_draw ?c__law_draw ?k__law_draw ?a__law_number ?l__law_number ?c__law_number ?k__law_number ?a__law_next ?l__law_next ?c__law_next ?k__law_next ?a__law_told ?l__law_told ?c__law_told ?k__law_told ?a__law_text ?l__law_text ?c__law_text ?k__law_text ?a__law_rules ?l__law_rules ?c__law_rules ?k__law_rules ?a__law_quoted ?l__law_quoted ?c__law_quoted ?k__law_quoted ?a__law_word ?l__law_word ?c__law_word ?k__law_word ?a__law_read ?l__law_read ?c__law_read ?k__law_read ?a__law_same_rules ?l__law_same_rules ?c__law_same_rules ?k__law_same_rules ?a__law_alike ?l__law_alike ?c__law_alike ?k__law_alike ?a__law_signs ?l__law_signs ?c__law_signs ?k__law_signs ?a__law_shorter ?l__law_shorter ?c__law_shorter ?k__law_shorter ?a__law_near ?l__law_near ?c__law_near ?k__law_near ?a__law_right ?l__law_right ?c__law_right ?k__law_right ?a_law ?l_law ?c_law ?k_law ?pg_Rules ?hd_Rules ?po_Rules ?sa_Rules ?mk_Rules ?kc_Rules ?n_Rules_breaks ?n_Rules_hard ?n_Rules_soft ?n_Rules_bend ?n_Rules_note ?pg_Machine ?hd_Machine ?po_Machine ?sa_Machine ?mk_Machine ?kc_Machine ?n_Machine_rules ?n_Machine_state ?n_Machine_bent ?n_Machine_word ?n_Machine_begun ?n_Machine_opened ?n_Machine_place ?pg_Alike ?hd_Alike ?po_Alike ?sa_Alike ?mk_Alike ?kc_Alike ?in_Alike ?pg_Parted ?hd_Parted ?po_Parted ?sa_Parted ?mk_Parted ?kc_Parted ?n_Parted_text ?g_LINE_END ?g_MOST ?s_MOST ?g_PLAIN ?g_NOTED ?g_FAR ?g_LETTERS ?b_isinstance ?b_all ?b_any ?b_zip ?b_len ?b_set ?b_str ?b_list ?b_range ?b_int ?b_tuple ?b_max ?b_min ?b_enumerate ?b_sorted ?i_Rulesha ?i_Ruleshm ?objGet ?objTak ?i_Alikeha ?i_Alikehm ?i_Partedha ?i_Partedhm ?m_k_AlAn ?ty_Answer ?hd_Answer ?ne_k_AlAn ?m_k_PaAn ?ne_k_PaAn ?m_k_AlPa ?ty_Parted ?ne_k_AlPa ?m_k_PaAl ?ty_Alike ?ne_k_PaAl
    (case aC_Rules => k_is)
    (case aC_Machine => k_is)
    (case aC_Answer => k_is)
    (case aC_Alike => k_is)
    (case aC_Parted => k_is)
    (case a_are_signs => k_is)
    (case l_are_signs => k_is)
    (case c_are_signs => k_is)
    (case k_are_signs => k_is)
    (case a_Rules_init => k_is)
    (case i_Rules_init => k_is)
    (case l_Rules_init => k_is)
    (case d_Rules_init => k_is)
    (case c_Rules_init => k_is)
    (case k_Rules_init => k_is)
    (case a_Rules_told => k_is)
    (case i_Rules_told => k_is)
    (case l_Rules_told => k_is)
    (case c_Rules_told => k_is)
    (case k_Rules_told => k_is)
    (case a_Rules_quotes => k_is)
    (case i_Rules_quotes => k_is)
    (case l_Rules_quotes => k_is)
    (case c_Rules_quotes => k_is)
    (case k_Rules_quotes => k_is)
    (case a_Machine_init => k_is)
    (case i_Machine_init => k_is)
    (case l_Machine_init => k_is)
    (case c_Machine_init => k_is)
    (case k_Machine_init => k_is)
    (case a_Machine_key => k_is)
    (case i_Machine_key => k_is)
    (case l_Machine_key => k_is)
    (case c_Machine_key => k_is)
    (case k_Machine_key => k_is)
    (case a_Machine_begin => k_is)
    (case i_Machine_begin => k_is)
    (case l_Machine_begin => k_is)
    (case c_Machine_begin => k_is)
    (case k_Machine_begin => k_is)
    (case a_Machine_ended => k_is)
    (case i_Machine_ended => k_is)
    (case l_Machine_ended => k_is)
    (case c_Machine_ended => k_is)
    (case k_Machine_ended => k_is)
    (case a_Machine_plain => k_is)
    (case i_Machine_plain => k_is)
    (case l_Machine_plain => k_is)
    (case c_Machine_plain => k_is)
    (case k_Machine_plain => k_is)
    (case a_Machine_quoted => k_is)
    (case i_Machine_quoted => k_is)
    (case l_Machine_quoted => k_is)
    (case c_Machine_quoted => k_is)
    (case k_Machine_quoted => k_is)
    (case a_Machine_step => k_is)
    (case i_Machine_step => k_is)
    (case l_Machine_step => k_is)
    (case c_Machine_step => k_is)
    (case k_Machine_step => k_is)
    (case a_Machine_fault => k_is)
    (case i_Machine_fault => k_is)
    (case l_Machine_fault => k_is)
    (case c_Machine_fault => k_is)
    (case k_Machine_fault => k_is)
    (case a_read_all => k_is)
    (case l_read_all => k_is)
    (case c_read_all => k_is)
    (case k_read_all => k_is)
    (case a_part_of => k_is)
    (case l_part_of => k_is)
    (case c_part_of => k_is)
    (case k_part_of => k_is)
    (case a_few_signs => k_is)
    (case l_few_signs => k_is)
    (case c_few_signs => k_is)
    (case k_few_signs => k_is)
    (case a_read_alike => k_is)
    (case l_read_alike => k_is)
    (case c_read_alike => k_is)
    (case k_read_alike => k_is)
    (case a_trail => k_is)
    (case l_trail => k_is)
    (case c_trail => k_is)
    (case k_trail => k_is)
    (case a_marks_of => k_is)
    (case l_marks_of => k_is)
    (case c_marks_of => k_is)
    (case k_marks_of => k_is)
    (case a_node_of => k_is)
    (case l_node_of => k_is)
    (case c_node_of => k_is)
    (case k_node_of => k_is)
    (case a_first_parted => k_is)
    (case l_first_parted => k_is)
    (case c_first_parted => k_is)
    (case k_first_parted => k_is)
    (case a_Alike_shows => k_is)
    (case i_Alike_shows => k_is)
    (case l_Alike_shows => k_is)
    (case c_Alike_shows => k_is)
    (case k_Alike_shows => k_is)
    (case a_Parted_init => k_is)
    (case i_Parted_init => k_is)
    (case l_Parted_init => k_is)
    (case c_Parted_init => k_is)
    (case k_Parted_init => k_is)
    (case a_Parted_shows => k_is)
    (case i_Parted_shows => k_is)
    (case l_Parted_shows => k_is)
    (case c_Parted_shows => k_is)
    (case k_Parted_shows => k_is)
    (case a_compared => k_is)
    (case l_compared => k_is)
    (case c_compared => k_is)
    (case k_compared => k_is)
    (case a__law_cell_at => k_is)
    (case l__law_cell_at => k_is)
    (case c__law_cell_at => k_is)
    (case k__law_cell_at => k_is)
    (case a__law_draw => k_is)
    (case l__law_draw => k_is)
    (case c__law_draw => k_is)
    (case k__law_draw => k_is)
    (case a__law_number => k_is)
    (case l__law_number => k_is)
    (case c__law_number => k_is)
    (case k__law_number => k_is)
    (case a__law_next => k_is)
    (case l__law_next => k_is)
    (case c__law_next => k_is)
    (case k__law_next => k_is)
    (case a__law_told => k_is)
    (case l__law_told => k_is)
    (case c__law_told => k_is)
    (case k__law_told => k_is)
    (case a__law_text => k_is)
    (case l__law_text => k_is)
    (case c__law_text => k_is)
    (case k__law_text => k_is)
    (case a__law_rules => k_is)
    (case l__law_rules => k_is)
    (case c__law_rules => k_is)
    (case k__law_rules => k_is)
    (case a__law_quoted => k_is)
    (case l__law_quoted => k_is)
    (case c__law_quoted => k_is)
    (case k__law_quoted => k_is)
    (case a__law_word => k_is)
    (case l__law_word => k_is)
    (case c__law_word => k_is)
    (case k__law_word => k_is)
    (case a__law_read => k_is)
    (case l__law_read => k_is)
    (case c__law_read => k_is)
    (case k__law_read => k_is)
    (case a__law_same_rules => k_is)
    (case l__law_same_rules => k_is)
    (case c__law_same_rules => k_is)
    (case k__law_same_rules => k_is)
    (case a__law_alike => k_is)
    (case l__law_alike => k_is)
    (case c__law_alike => k_is)
    (case k__law_alike => k_is)
    (case a__law_signs => k_is)
    (case l__law_signs => k_is)
    (case c__law_signs => k_is)
    (case k__law_signs => k_is)
    (case a__law_shorter => k_is)
    (case l__law_shorter => k_is)
    (case c__law_shorter => k_is)
    (case k__law_shorter => k_is)
    (case a__law_near => k_is)
    (case l__law_near => k_is)
    (case c__law_near => k_is)
    (case k__law_near => k_is)
    (case a__law_right => k_is)
    (case l__law_right => k_is)
    (case c__law_right => k_is)
    (case k__law_right => k_is)
    (case a_law => k_is)
    (case l_law => k_is)
    (case c_law => k_is)
    (case k_law => k_is)
    (case pg_Rules => k_is)
    (case hd_Rules => k_is)
    (case po_Rules => k_is)
    (case sa_Rules => k_is)
    (case mk_Rules => k_is)
    (case kc_Rules => k_is)
    (case n_Rules_breaks => k_is)
    (case n_Rules_hard => k_is)
    (case n_Rules_soft => k_is)
    (case n_Rules_bend => k_is)
    (case n_Rules_note => k_is)
    (case pg_Machine => k_is)
    (case hd_Machine => k_is)
    (case po_Machine => k_is)
    (case sa_Machine => k_is)
    (case mk_Machine => k_is)
    (case kc_Machine => k_is)
    (case n_Machine_rules => k_is)
    (case n_Machine_state => k_is)
    (case n_Machine_bent => k_is)
    (case n_Machine_word => k_is)
    (case n_Machine_begun => k_is)
    (case n_Machine_opened => k_is)
    (case n_Machine_place => k_is)
    (case pg_Alike => k_is)
    (case hd_Alike => k_is)
    (case po_Alike => k_is)
    (case sa_Alike => k_is)
    (case mk_Alike => k_is)
    (case kc_Alike => k_is)
    (case in_Alike => k_is)
    (case pg_Parted => k_is)
    (case hd_Parted => k_is)
    (case po_Parted => k_is)
    (case sa_Parted => k_is)
    (case mk_Parted => k_is)
    (case kc_Parted => k_is)
    (case n_Parted_text => k_is)
    (case g_LINE_END => k_is)
    (case g_MOST => k_is)
    (case s_MOST => k_is)
    (case g_PLAIN => k_is)
    (case g_NOTED => k_is)
    (case g_FAR => k_is)
    (case g_LETTERS => k_is)
    (case b_isinstance => k_is)
    (case b_all => k_is)
    (case b_any => k_is)
    (case b_zip => k_is)
    (case b_len => k_is)
    (case b_set => k_is)
    (case b_str => k_is)
    (case b_list => k_is)
    (case b_range => k_is)
    (case b_int => k_is)
    (case b_tuple => k_is)
    (case b_max => k_is)
    (case b_min => k_is)
    (case b_enumerate => k_is)
    (case b_sorted => k_is)
    (case i_Rulesha => k_is)
    (case i_Ruleshm => k_is)
    (case objGet => k_is)
    (case objTak => k_is)
    (case i_Alikeha => k_is)
    (case i_Alikehm => k_is)
    (case i_Partedha => k_is)
    (case i_Partedhm => k_is)
    (case m_k_AlAn => k_is)
    (case ty_Answer => k_is)
    (case hd_Answer => k_is)
    (case ne_k_AlAn => decide)
    (case m_k_PaAn => k_is)
    (case ne_k_PaAn => decide)
    (case m_k_AlPa => k_is)
    (case ty_Parted => k_is)
    (case ne_k_AlPa => decide)
    (case m_k_PaAl => k_is)
    (case ty_Alike => k_is)
    (case ne_k_PaAl => decide)

