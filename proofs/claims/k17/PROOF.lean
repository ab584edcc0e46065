import PyProof.Rows.All
import Wide.All
import OpenK.AllK
import Wide.FinOn
import HandS.ForMost
import HandS.IsInst
import HandS.Rev
import HandS.Wide
import HandS.SortInts
import HandS.TupAny
import HandS.Codes
import HandS.Style
import HandS.SetFor
import HandS.Strs
import HandS.Zip
import HandS.Conv
import HandS.OwnEq
import HandS.TupMul
import HandS.Text
import HandS.WideBits
import KE.BitLaws
import KE.KDictList
import KE.GoesEnum
import PySem.Challenge.RW_latekinds_k17_whole_no_scheme_with_two_s
set_option Elab.async false
set_option linter.all false
set_option maxRecDepth 100000
set_option maxHeartbeats 4000000
namespace Lk
open PySem L2
def top (i : Nat) : Stmt := PySem.Challenge.pw_latekinds_k17_whole_no_scheme_with_two_s.main.body.getD i (.Pass ⟨0, 0, 0, 0⟩)
abbrev s_is_integer : Stmt := top 6
abbrev s_is_within : Stmt := top 7
abbrev s_is_triple : Stmt := top 8
abbrev s_is_lot : Stmt := top 9
abbrev s_are_parents : Stmt := top 13
abbrev s_Book_fill : Stmt := inClass (top 14) 1
abbrev s_Book___init__ : Stmt := inClass (top 14) 0
abbrev s_many_of : Stmt := top 15
abbrev s_is_one : Stmt := top 16
abbrev s_all_kinds : Stmt := top 18
abbrev s_is_row : Stmt := top 19
abbrev s_is_dealing : Stmt := top 20
abbrev s_is_given : Stmt := top 22
abbrev s_has_form : Stmt := top 23
abbrev s_check_scheme : Stmt := top 24
abbrev s_told : Stmt := top 25
abbrev s_wrong_pair : Stmt := top 26
abbrev s_is_scheme : Stmt := top 27
abbrev s_first_wrong : Stmt := top 28
abbrev s_slots_of : Stmt := top 29
abbrev s_many_slots : Stmt := top 30
abbrev s_scheme_of : Stmt := top 31
abbrev s__law_tape : Stmt := top 33
abbrev s__law_pick : Stmt := top 34
abbrev s__law_great : Stmt := top 35
abbrev s__law_parents : Stmt := top 36
abbrev s__law_rows : Stmt := top 37
abbrev s__law_above : Stmt := top 38
abbrev s__law_lines : Stmt := top 39
abbrev s__law_numbers : Stmt := top 40
abbrev s__law_entry : Stmt := top 41
abbrev s__law_right : Stmt := top 42
abbrev s__law_says : Stmt := top 43
abbrev s__law_first : Stmt := top 44
abbrev s__law_same_pair : Stmt := top 45
abbrev s__law_pairs : Stmt := top 46
abbrev s__law_lot : Stmt := top 47
abbrev s__law_near : Stmt := top 48
abbrev s__law_forced : Stmt := top 49
abbrev s__law_few : Stmt := top 50
abbrev s__law_is_wrong : Stmt := top 51
abbrev s_law : Stmt := top 52
/-! ### what is kept -/
theorem Same.at {H H' : Hp} {a : Addr} {o : HO} (e : Same H H') (h : H a = some o) : H' a = some o := e a o h
theorem Same.new {H H' : Hp} {p : Addr} {o : HO} (e : Same H H') (h : H' p = none) : Same H (upd H' p o) := fun b u z => by
  have z2 := e b u z
  rw [upd_ne (ne_of_none z2 h)]
  exact z2
theorem Same.mut {H H' : Hp} {p : Addr} {o : HO} (e : Same H H') (h : H p = none) : Same H (upd H' p o) := fun b u z => by
  rw [upd_ne (ne_of_none z h)]
  exact e b u z
theorem upd_at {H : Hp} {p a : Addr} {o u : HO} (n : a ≠ p) (h : H a = some u) : upd H p o a = some u := by
  rw [upd_ne n]
  exact h
theorem upd_at' {H : Hp} {p a : Addr} {o u : HO} (h : H a = some u) (n : a ≠ p) : upd H p o a = some u := upd_at n h
/-- the readings of len, list(..), tuple(..) by name -/
def rLenQ (K : PySem.W.Frag) : List V → Hp → VK → Prop := fun xs H Q => ∃ p ys, xs = [.ref p] ∧ (SqL K H p ys ∨ SqT K H p ys) ∧ Q (.int ys.length) H
def rListQ (K : PySem.W.Frag) : List V → Hp → VK → Prop := fun xs H Q => ∃ p ys, xs = [.ref p] ∧ (SqL K H p ys ∨ SqT K H p ys) ∧ ∀ l, H l = none → Q (.ref l) (upd H l (.lst ys))
def rTupQ (K : PySem.W.Frag) : List V → Hp → VK → Prop := fun xs H Q => ∃ p ys, xs = [.ref p] ∧ ((SqL K H p ys ∧ ∀ l, H l = none → Q (.ref l) (upd H l (.tup ys))) ∨ (SqT K H p ys ∧ Q (.ref p) H))
/-- new in H -/
structure Nw (H : Hp) (p : Addr) : Prop where
  e : H p = none
theorem Nw.ne {H : Hp} {a p : Addr} {o : HO} (w : Nw H p) (h : H a = some o) : a ≠ p := ne_of_none h w.e
/-- a tape: its address, its list's, the list -/
structure Tp where
  t : Addr
  l : Addr
  ns : List Int
structure Tape (τ : Tp) (H : Hp) : Prop where
  list : H τ.l = some (.lst (τ.ns.map V.int))
  ne : τ.l ≠ τ.t
  here : ∃ i c s n : Int, H τ.t = some (.lst [.ref τ.l, .int i, .int c, .int s, .int n]) ∧ 0 ≤ i
/-- all but the tape is kept, the tape is a tape -/
structure Mv (τ : Tp) (H0 H : Hp) : Prop where
  was : Tape τ H0
  keep : ∀ a o, a ≠ τ.t → H0 a = some o → H a = some o
  now : Tape τ H
structure Mz (τ : Tp) (H0 H : Hp) : Prop where
  mv : Mv τ H0 H
section
variable {τ : Tp} {H0 H H1 H2 : Hp} {p a : Addr} {o : HO}
theorem Tape.mv (h : Tape τ H) : Mv τ H H := ⟨h, fun _ _ _ e => e, h⟩
theorem Tape.mz (h : Tape τ H) : Mz τ H H := ⟨h.mv⟩
theorem Mv.self (m : Mv τ H0 H) : Mv τ H H := m.now.mv
theorem Mv.trans (m : Mv τ H0 H1) (k : Mv τ H1 H2) : Mv τ H0 H2 := ⟨m.was, fun a o n e => k.keep a o n (m.keep a o n e), k.now⟩
theorem Mz.trans (m : Mz τ H0 H1) (k : Mv τ H1 H2) : Mz τ H0 H2 := ⟨m.mv.trans k⟩
theorem Tape.new (h : Tape τ H) (n : H p = none) : Tape τ (upd H p o) := by
  obtain ⟨h1, h2, i, c, s, k, h3, h4⟩ := h
  exact ⟨upd_at (ne_of_none h1 n) h1, h2, i, c, s, k, upd_at (ne_of_none h3 n) h3, h4⟩
theorem Mv.new (m : Mv τ H0 H) (n : H p = none) : Mv τ H0 (upd H p o) := ⟨m.was, fun a u e z => upd_at (ne_of_none (m.keep a u e z) n) (m.keep a u e z), m.now.new n⟩
theorem Mz.new (m : Mz τ H0 H) (n : H p = none) : Mz τ H0 (upd H p o) := ⟨m.mv.new n⟩
theorem Mv.neF (m : Mv τ H0 H) (n : H0 p = none) : p ≠ τ.t := fun e => by
  obtain ⟨_, _, _, _, h, _⟩ := m.was.here
  rw [e, h] at n
  cases n
theorem Mv.neN (m : Mv τ H0 H) (n : H p = none) : p ≠ τ.t := fun e => by
  obtain ⟨_, _, _, _, h, _⟩ := m.now.here
  rw [e, h] at n
  cases n
theorem Mv.mut (m : Mv τ H0 H) (n : H0 p = none) : Mv τ H0 (upd H p o) := by
  obtain ⟨i, c, s, k, h3, h4⟩ := m.now.here
  have n1 : τ.l ≠ p := ne_of_none m.was.list n
  exact ⟨m.was, fun a u e z => upd_at (ne_of_none z n) (m.keep a u e z), upd_at n1 m.now.list, m.now.ne, i, c, s, k, upd_at (m.neF n).symm h3, h4⟩
theorem Mz.mut (m : Mz τ H0 H) (n : H0 p = none) : Mz τ H0 (upd H p o) := ⟨m.mv.mut n⟩
theorem Mv.free (m : Mv τ H0 H) (n : H p = none) : H0 p = none := by
  cases e : H0 p with
  | none => rfl
  | some o =>
    by_cases z : p = τ.t
    · obtain ⟨_, _, _, _, h, _⟩ := m.now.here
      rw [z, h] at n
      cases n
    · rw [m.keep p o z e] at n
      cases n
theorem Mz.free (m : Mz τ H0 H) (n : H p = none) : H0 p = none := m.mv.free n
theorem Mv.at (m : Mv τ H0 H) (n : a ≠ τ.t) (h : H0 a = some o) : H a = some o := m.keep a o n h
theorem Mv.at' (m : Mv τ H0 H) (h : H0 a = some o) (n : a ≠ τ.t) : H a = some o := m.keep a o n h
theorem Mz.at (m : Mz τ H0 H) (n : a ≠ τ.t) (h : H0 a = some o) : H a = some o := m.mv.keep a o n h
theorem Mv.neT {xs : List V} (m : Mv τ H0 H) (h : H a = some (.tup xs)) : a ≠ τ.t := fun e => by
  obtain ⟨_, _, _, _, z, _⟩ := m.now.here
  rw [e, z] at h
  cases h
theorem Mv.neT0 {xs : List V} (m : Mv τ H0 H) (h : H0 a = some (.tup xs)) : a ≠ τ.t := m.was.mv.neT h
theorem Mv.atT {xs : List V} (m : Mv τ H0 H) (h : H0 a = some (.tup xs)) : H a = some (.tup xs) := m.keep a _ (m.neT0 h) h
theorem Tape.same (h : Tape τ H) (s : Same H H1) : Tape τ H1 := by
  obtain ⟨h1, h2, i, c, s', k, h3, h4⟩ := h
  exact ⟨s _ _ h1, h2, i, c, s', k, s _ _ h3, h4⟩
theorem Mv.same (m : Mv τ H0 H) (s : Same H H1) : Mv τ H0 H1 := by
  obtain ⟨h1, h2, i, c, s', k, h3, h4⟩ := m.now
  exact ⟨m.was, fun a o e z => s a o (m.keep a o e z), s _ _ h1, h2, i, c, s', k, s _ _ h3, h4⟩
theorem Mz.same (m : Mz τ H0 H) (s : Same H H1) : Mz τ H0 H1 := ⟨m.mv.same s⟩
end
theorem iteD {c A B : Prop} [Decidable c] (h1 : c → A) (h2 : ¬ c → B) : if decide c = true then A else B := by
  by_cases h : c
  · rw [decide_eq_true h]
    exact iteT (h1 h)
  · rw [decide_eq_false h]
    exact iteF (h2 h)
theorem iteDY {c A B : Prop} [Decidable c] (h : c) (h1 : A) : if decide c = true then A else B := by
  rw [decide_eq_true h]
  exact iteT h1
theorem iteDN {c A B : Prop} [Decidable c] (h : ¬ c) (h1 : B) : if decide c = true then A else B := by
  rw [decide_eq_false h]
  exact iteF h1
theorem iteET {b : Bool} {A B : Prop} (h : b = true) (k : A) : if b = true then A else B := by
  rw [h]
  exact iteT k
theorem iteEF {b : Bool} {A B : Prop} (h : b = false) (k : B) : if b = true then A else B := by
  rw [h]
  exact iteF k
theorem iteB {b : Bool} {A B : Prop} (h1 : b = true → A) (h2 : b = false → B) : if b = true then A else B := by
  cases b with
  | true => exact iteT (h1 rfl)
  | false => exact iteF (h2 rfl)
theorem fmod_in {x m : Int} (h : 0 < m) : 0 ≤ x.fmod m ∧ x.fmod m < m := by
  rw [Int.fmod_eq_emod_of_nonneg x (Int.le_of_lt h)]
  exact ⟨Int.emod_nonneg x (by omega), Int.emod_lt_of_pos x h⟩
theorem Mv.put {τ : Tp} {H0 H : Hp} (m : Mv τ H0 H) {xs : List V} {i c s n : Int} (e : xs = [.ref τ.l, .int i, .int c, .int s, .int n]) (h : 0 ≤ i) : Mv τ H0 (upd H τ.t (.lst xs)) := by
  subst e
  exact ⟨m.was, fun a o k z => upd_at k (m.keep a o k z), upd_at m.now.ne m.now.list, m.now.ne, i, c, s, n, upd_same, h⟩
theorem le_lineB {n : Nat} (h : Nat.ble n 100000 = true) : n ≤ sizeLine := Nat.le_trans (Nat.le_of_ble_eq_true h) (by decide)
theorem fmod64 {x m : Int} (h : 0 < m) (h2 : m ≤ 2 ^ 64) : -(2 ^ 64) < x.fmod m ∧ x.fmod m < 2 ^ 64 := by
  have q := fmod_in (x := x) h
  omega
theorem at_ints {ns : List Int} {i : Int} (h0 : 0 ≤ i) (h : i < ((ns.map V.int).length : Int)) : ∃ v : Int, atI (ns.map V.int) i = some (.int v) := by
  rw [List.length_map] at h
  have hj : i.toNat < ns.length := by omega
  refine ⟨ns[i.toNat], at_of (j := i.toNat) (by omega) ?_⟩
  rw [List.getElem?_map, List.getElem?_eq_getElem hj]
  rfl
theorem dec_int {a b : Int} : decide (V.int a = V.int b) = decide (a = b) := by
  by_cases h : a = b
  · rw [decide_eq_true h, h, decide_eq_true rfl]
  · rw [decide_eq_false h, decide_eq_false fun e => h (V.int.inj e)]
theorem dec_nat {a b : Nat} : decide (V.int (a : Int) = V.int (b : Int)) = decide (a = b) := by
  rw [dec_int]
  exact decide_eq_decide.mpr Int.ofNat_inj
theorem iteI {a b : Int} {A B : Prop} (h1 : a = b → A) (h2 : ¬ a = b → B) : if decide (V.int a = V.int b) = true then A else B := by
  rw [dec_int]
  exact iteD h1 h2
/-! ### kinds of things -/
def isIntB : V → Bool
  | .int _ => true
  | _ => false
def withinB (v : V) (lo hi : Int) : Bool := match v with
  | .int i => decide (lo ≤ i) && decide (i ≤ hi)
  | _ => false
structure IntK (K : PySem.W.Frag) (H : Hp) (v : V) : Prop where
  ex : ∃ (t : Value) (bi bb : Bool), TyX K H v t ∧ PySem.W.kitOne K t (.type "int") = some bi ∧ PySem.W.kitOne K t (.type "bool") = some bb ∧ (bi && !bb) = isIntB v
section
variable {K : PySem.W.Frag} {H : Hp}
theorem IntK.int (i : Int) : IntK K H (.int i) := ⟨_, true, false, .base (.int i), kit_ty (by decide +kernel), kit_ty (by decide +kernel), rfl⟩
theorem IntK.bl (b : Bool) : IntK K H (.bl b) := ⟨_, true, true, .base (.bl b), kit_ty (by decide +kernel), kit_ty (by decide +kernel), rfl⟩
theorem IntK.non : IntK K H .non := ⟨_, false, false, .base .non, kit_ty (by decide +kernel), kit_ty (by decide +kernel), rfl⟩
theorem IntK.str (s : Str) : IntK K H (.str s) := ⟨_, false, false, .base (.str s), kit_ty (by decide +kernel), kit_ty (by decide +kernel), rfl⟩
theorem IntK.tup {a : Addr} {xs : List V} (h : H a = some (.tup xs)) : IntK K H (.ref a) := ⟨_, false, false, .base (.tup h), kit_ty (by decide +kernel), kit_ty (by decide +kernel), rfl⟩
theorem IntK.lst {a : Addr} {xs : List V} (h : H a = some (.lst xs)) : IntK K H (.ref a) := ⟨_, false, false, .base (.lst h), kit_ty (by decide +kernel), kit_ty (by decide +kernel), rfl⟩
theorem IntK.dK {a : Addr} {xs : List (Key × V)} (h : H a = some (.dK xs)) : IntK K H (.ref a) := ⟨_, false, false, .base (.dK h), kit_ty (by decide +kernel), kit_ty (by decide +kernel), rfl⟩
theorem ty_tup {a : Addr} {xs : List V} (h : H a = some (.tup xs)) : TyX K H (.ref a) (.type "tuple") := .base (.tup h)
theorem ty_int (i : Int) : TyX K H (.int i) (.type "int") := .base (.int i)
theorem ty_bl (b : Bool) : TyX K H (.bl b) (.type "bool") := .base (.bl b)
theorem tup_tup : PySem.W.kitOne K (.type "tuple") (.type "tuple") = some true := kit_ty (by decide +kernel)
theorem int_tup : PySem.W.kitOne K (.type "int") (.type "tuple") = some false := kit_ty (by decide +kernel)
theorem int_int : PySem.W.kitOne K (.type "int") (.type "int") = some true := kit_ty (by decide +kernel)
theorem int_bool : PySem.W.kitOne K (.type "int") (.type "bool") = some false := kit_ty (by decide +kernel)
theorem bool_bool : PySem.W.kitOne K (.type "bool") (.type "bool") = some true := kit_ty (by decide +kernel)
end
/-- tuples stay -/
def TK (H H' : Hp) : Prop := ∀ a xs, H a = some (.tup xs) → H' a = some (.tup xs)
theorem Same.tk {H H' : Hp} (s : Same H H') : TK H H' := fun a _ h => s a _ h
theorem Mv.tk {τ : Tp} {H H' : Hp} (m : Mv τ H H') : TK H H' := fun a _ h => m.keep a _ (m.neT0 h) h
theorem TK.trans {H H1 H2 : Hp} (a : TK H H1) (b : TK H1 H2) : TK H H2 := fun x xs h => b x xs (a x xs h)
theorem TK.mut {H : Hp} {p : Addr} {o : HO} {ys : List V} (h : H p = some (.lst ys)) : TK H (upd H p o) := fun a xs e => upd_at (ne_of e h (by intro z; cases z)) e
theorem TK.new {H : Hp} {p : Addr} {o : HO} (h : H p = none) : TK H (upd H p o) := fun a xs e => upd_at (ne_of_none e h) e
/-! ### len(set(a tuple of whole numbers)); list(reversed(a list)) -/
section
open PySem.Spec PyProof.Rows
variable {X : Cx}
def tLenSetU (K : PySem.W.Frag) (ta : TE) : TE := fun σ H Q => ta σ H fun x H1 => ∃ (l : Addr) (ns : List Int), x = .ref l ∧ SqT K H1 l (ns.map V.int) ∧ ns.length ≤ 4000 ∧ ∀ ks : List Int, ks.Nodup → (∀ k, k ∈ ks ↔ k ∈ ns) → Q (.int (ks.length : Nat)) H1
theorem pe_lenSetU {a : Expr} {ta : TE} {p p2 q pos : Pos} (hg : Gl X "len") (hm : X.mg "len" = none) (hg2 : Gl X "set") (hm2 : X.mg "set" = none) (ha : PE X a ta) (calm : X.calm = true := by rfl)
    (na : starEach [a] X.env = (false, eval a X.env) :: starEach [] X.env := by rfl) : PE X (.Call (.Name "len" p) [.Call (.Name "set" p2) [a] [] q] [] pos) (tLenSetU X.K ta) := by
  constructor
  intro pins s σ H Q I h
  refine Call_ (ld_blt I hg hm boot_len (PyProof.Rows.callWith_builtin1 (PyProof.Rows.args_cons ?_ rfl) rfl rfl))
  refine Call_ (ld_blt I hg2 hm2 PyProof.Rows.boot_set (PyProof.Rows.callWith_type1 (PyProof.Rows.args_cons (thn (ha.run pins s σ H _ I h) fun v s1 ⟨x, H1, I1, r1, q1⟩ => PyProof.Rows.args_nil ?_) na) na rfl))
  obtain ⟨l, ns, ex, hq, hl, done⟩ := q1
  subst ex
  obtain rfl : v = Value.ref l := r1
  obtain ⟨its, rv, pt, hz⟩ := I1.tuple hq
  have hi : PyProof.Rows.IntsAre its.toArray.toList ns := by simpa using ints_of_vals rv
  refine call_set_tupI ns (I1.ok.hd calm) (show s1.heap.IsTuple l its.toArray from pt) hi (by unfold scanBound; omega) fun h' tk c R1 hcn kp => PyProof.Rows.args_nil ?_
  obtain ⟨o, es, ep, t, ho, hex, hdt, g, nd, mem, hb, hf, hn, hr, hl2⟩ := R1
  have I2 : Inv X pins σ H1 { s1 with heap := h', toks := tk } := I1.kept kp
  have le : (es.toList.map keyOf).length = es.size := by rw [List.length_map, Array.length_toList]
  refine call_len_set ho hex hdt hf (by omega) ⟨.int es.size, H1, I2.tok _, ⟨_, rfl⟩, ?_⟩
  rw [← le]
  exact done _ nd fun k => by rw [← mem k, decide_eq_true_eq]
end
/-! ### set(a list of whole numbers) -/
section
open PySem.Spec PyProof.Rows PySem.Calls
variable {P : Program} {w : World} {A : Around} {E : Value → Shared → Prop} {s : Shared}
set_option maxHeartbeats 4000000 in
theorem call_set_listR {l : Addr} {items : Array Value} (ns : List Int) {Q : Value → Shared → Prop} (hh : A.handled = none) (hl : s.heap.IsList l items) (hit : IntsAre items.toList ns) (hb : ns.length + 1 < scanBound)
    (h : ∀ (h' : Heap) (tk c : Nat), SetR w h' s.heap.objs.size (fun j => decide (j ∈ ns)) c → c ≤ ns.length → (∀ b o, s.heap.get? b = some o → h'.get? b = some o) → Q (.ref s.heap.objs.size) { s with heap := h', toks := tk }) :
    wpAny (model P w) A (call (.type "set") [.ref l]) Q E s := by
  have hisz : items.size = ns.length := by
    have q := IntsAre.length hit
    rw [Array.length_toList] at q
    exact q
  obtain ⟨c, tl, hmro⟩ := F.called_set.mro
  have hmade := F.called_set.made
  have hsub := F.called_set.sub
  refine wpAny_call (codeAny_of_tree ?_)
  show wpAny _ _ (callAny (.type "set") _) _ _ _
  refine wpAny_pure ⟨Code.quiet_builtin _ (by decide +kernel), codeAny_builtin F.entry_type_call ?_⟩
  rw [Around.under_plain (weight_type_call_type "set" [.ref l] []) rfl]
  have h1 := F.called_set.notType
  have h2 := F.called_set.canCreate
  have hct := F.typeCall_set_1 (.ref l)
  repeat (any_goals (first | assumption | wp_step))
  refine codeAny_mono (code_set_led1 (.ref l) (E := E) (Q₁ := fun obj s₁ => obj = .ref s.heap.objs.size ∧ s₁ = { s with heap := s.heap.push { cls := .type "set", dict := none, data := .set #[] 0 (.fresh 0 0 (!w.params.followText "set-order")) } }) ⟨rfl, rfl⟩) fun r s₁ hr => ?_
  cases r with
  | error e => exact hr
  | ok fl =>
    cases fl with
    | ret obj =>
      obtain ⟨rfl, rfl⟩ := hr
      have hS : (s.heap.push { cls := .type "set", dict := none, data := .set #[] 0 (.fresh 0 0 (!w.params.followText "set-order")) }).get? s.heap.objs.size = some { cls := .type "set", dict := none, data := .set #[] 0 (.fresh 0 0 (!w.params.followText "set-order")) } := Heap.get?_push_size _ rfl
      have hT : Shared.TypeIs { s with heap := s.heap.push { cls := .type "set", dict := none, data := .set #[] 0 (.fresh 0 0 (!w.params.followText "set-order")) } } (.ref s.heap.objs.size) "set" := ⟨_, hS, rfl⟩
      have hli := F.called_set.init.lookup
      have hbi := F.called_set.init.bind (.ref s.heap.objs.size)
      repeat (any_goals (first | assumption | wp_step))
      refine codeAny_mono (codeAny_call_builtin (R := wants (fun r s₂ => r = .none ∧ ∃ h' tk c, s₂ = { s with heap := h', toks := tk } ∧ SetR w h' s.heap.objs.size (fun j => decide (j ∈ ns)) c ∧ c ≤ ns.length ∧
          (∀ b o, s.heap.get? b = some o → h'.get? b = some o)) E) F.called_set.init.plain F.entry_set_init (check_set_init_1 hT ?_)) fun r₂ s₂ hr₂ => ?_
      · obtain ⟨ol, hol, hcl, nl, hdl⟩ := hl
        obtain ⟨ocls, odict, odata, oslots⟩ := ol
        simp only at hcl hdl
        subst hcl; subst hdl
        have hol' : (s.heap.push { cls := .type "set", dict := none, data := .set #[] 0 (.fresh 0 0 (!w.params.followText "set-order")) }).get? l = some { cls := .type "list", dict := odict, data := .seq items nl, slots := oslots } := Heap.get?_push_of_some _ hol
        have hsls := F.sub_list_set
        have hslf := F.sub_list_frozenset
        have hne : (Value.type "list" == Value.type "dict") = false := by decide
        have hl1 : (s.heap.push { cls := .type "set", dict := none, data := .set #[] 0 (.fresh 0 0 (!w.params.followText "set-order")) }).IsList l items := ⟨_, hol', rfl, nl, rfl⟩
        unfold Builtin.«set.__init__» noKeywords Builtin.Frozenset.updateFrom
        generalize hPI : pyIter = PI
        wp_walk
        subst hPI
        refine wpAny_pyIter_list hl1 ?_
        refine wpAny_bind (wpAny_runValue ?_)
        have hlS : l < s.heap.objs.size := Heap.lt_size hol
        have hh3 : A.in1.in1.in1.handled = none := by simp [hh]
        have hz1 : (s.heap.push { cls := .type "set", dict := none, data := .set #[] 0 (.fresh 0 0 (!w.params.followText "set-order")) }).objs.size = s.heap.objs.size + 1 := Heap.size_push ..
        have hneI : l ≠ (s.heap.push { cls := .type "set", dict := none, data := .set #[] 0 (.fresh 0 0 (!w.params.followText "set-order")) }).objs.size := by
          rw [Heap.size_push]; exact Nat.ne_of_lt (Nat.lt_succ_of_lt hlS)
        have hSf : s.heap.objs.size ∉ [(s.heap.push { cls := .type "set", dict := none, data := .set #[] 0 (.fresh 0 0 (!w.params.followText "set-order")) }).objs.size, l] := by
          rw [Heap.size_push]; simp only [List.mem_cons, List.mem_singleton, List.not_mem_nil, or_false, not_or]
          exact ⟨Nat.ne_of_lt (Nat.lt_succ_self _), Nat.ne_of_gt hlS⟩
        have hval : ∀ (i : Nat) (v : Value), items[i]? = some v → ∃ k t, ns[i]? = some k ∧ v = .int k t := fun i v hv => by
          have hi : i < ns.length := by rw [← hisz]; exact (Array.getElem?_eq_some_iff.mp hv).1
          obtain ⟨t, e⟩ := PyProof.Rows.IntsAre.int_at hit i v (by rw [Array.getElem?_toList]; exact hv)
          refine ⟨ns[i], t, List.getElem?_eq_getElem hi, ?_⟩
          rw [e, List.getD_eq_getElem?_getD, List.getElem?_eq_getElem hi] <;> rfl
        refine set_update_ints ((Walks.list hh3 _ l hneI items).toS) s.heap.objs.size
          hSf ns hisz hb hval (items.size - 0) 0 _ (by omega) (Nat.zero_le _)
          ⟨⟨_, Heap.get?_push_size _ rfl, rfl, rfl⟩, (hl1.push _)⟩ ?hS0 ?hR
        case hS0 =>
          have hget : ((s.heap.push { cls := .type "set", dict := none, data := .set #[] 0 (.fresh 0 0 (!w.params.followText "set-order")) }).push { cls := .type "list_iterator", data := .fields #[.ref l, .int 0 0] }).get? s.heap.objs.size
              = some { cls := .type "set", dict := none, data := .set #[] 0 (.fresh 0 0 (!w.params.followText "set-order")) } := Heap.get?_push_of_some _ hS
          exact ⟨0, Nat.le_refl 0, setR_new_at hget⟩
        case hR =>
          intro s' c' hm hc' hS'
          obtain ⟨h', g2, d', tk', os'⟩ := s'
          have eg : g2 = s.gens := hm.gens
          have ed : d' = s.drawn := hm.drawn
          have eo : os' = s.os := hm.os
          subst eg; subst ed; subst eo
          show wpAny _ _ _ _ _ _
          refine wpAny_pure ?_
          show wpAny _ _ (ret Value.none) _ _ _
          rw [hisz] at hc'
          refine wpAny_pure ⟨rfl, h', tk', c', rfl, hS', hc', fun b o e => ?_⟩
          have hb0 : b < s.heap.objs.size := Heap.lt_size e
          have hb1 : b ≠ s.heap.objs.size := Nat.ne_of_lt hb0
          have hb2 : b ≠ (s.heap.push { cls := .type "set", dict := none, data := .set #[] 0 (.fresh 0 0 (!w.params.followText "set-order")) }).objs.size := by
            rw [Heap.size_push]; exact Nat.ne_of_lt (Nat.lt_succ_of_lt hb0)
          exact hm.heap b o (by simp only [List.mem_cons, List.mem_singleton, List.not_mem_nil, or_false, not_or]; exact ⟨hb1, hb2⟩) (Heap.get?_push_of_some _ (Heap.get?_push_of_some _ e))
      · cases r₂ with
        | error e => exact hr₂
        | ok fl₂ =>
          cases fl₂ with
          | ret r =>
            obtain ⟨rfl, h', tk, c', rfl, hS', hc', hk'⟩ := hr₂
            repeat (any_goals (first | assumption | wp_step))
            exact h _ _ _ hS' hc' hk'
          | _ => exact hr₂.elim
    | _ => exact hr.elim
variable {X : Cx}
def rSetL (w : World) (K : PySem.W.Frag) : List V → Hp → VK → Prop := fun xs H Q => ∃ (a : Addr) (ns : List Int), xs = [.ref a] ∧ SqL K H a (ns.map V.int) ∧ ns.length ≤ 1000 ∧ ∀ (p : Addr) (c : Nat), c ≤ ns.length → (∃ ks : List Int, ks.Nodup ∧ ks.length = c ∧ ∀ k, k ∈ ks ↔ k ∈ ns) → H p = none → Q (.ref p) (upd H p (SetO w p (fun j => decide (j ∈ ns)) c))
theorem cr_setL (hc : X.calm = true) : CallR X (.type "set") (rSetL X.w X.K) := by
  intro pins s σ H xs us Q I r h
  obtain ⟨a, ns, rfl, hq, hl, q⟩ := h
  rw [Vals.ref1 r]
  obtain ⟨its, rv, pl, hz⟩ := I.list hq
  refine call_set_listR ns (I.ok.hd hc) pl.isList (by simpa using ints_of_vals rv) (by unfold scanBound; omega) fun h' tk c R hc' k => ?_
  have nw : H s.heap.objs.size = none := I.hok.fresh (Nat.le_refl _)
  have kk : ∃ ks : List Int, ks.Nodup ∧ ks.length = c ∧ ∀ k, k ∈ ks ↔ k ∈ ns := by
    obtain ⟨o, es, ep, t, ho, hex, hd, g, nd, mem, hb, hf, hn, hr, hl2⟩ := R
    exact ⟨es.toList.map keyOf, nd, by rw [List.length_map, Array.length_toList]; exact hn, fun k => by rw [← mem k, decide_eq_true_eq]⟩
  exact ⟨.ref _, _, I.laid (t' := tk) k (Nat.le_refl _) (setO_new R), rfl, q _ c hc' kk nw⟩
end
/-! ### enumerate(a tuple) -/
section
open PySem.Spec PyProof.Rows PySem.Calls
set_option maxHeartbeats 4000000 in
theorem meets_enum1 {v : Value} {o : Obj} {HH : Heap → Prop} (B : Begins v o HH) :
    Meets (Builtin.«enumerate.__new__» ⟨[.type "enumerate", v], []⟩) (fun _ R s => HH s.heap ∧
      R (.ok (.ret (.ref (s.heap.push o).objs.size))) { s with heap := (s.heap.push o).push { cls := .type "enumerate", data := .fields #[.none, .bool false, .ref s.heap.objs.size, rawInt 0, .none, .none] } }) :=
  .of_wp fun prog w A R s both => by
    obtain ⟨hp, g, d, tk, os⟩ := s
    obtain ⟨h1, h⟩ := both
    have hsub := sub_enumerate
    have it1 : ∀ {A' : Around} {E : Value → Shared → Prop} {Q : Value → Shared → Prop}, Q (.ref hp.objs.size) ⟨hp.push o, g, d, tk, os⟩ → wpAny (model prog w) A' (pyIter v) Q E ⟨hp, g, d, tk, os⟩ := fun q => B.iter prog w _ _ ⟨hp, g, d, tk, os⟩ _ h1 q
    wp_walk using it1
    refine wpAny_stack_any fun st => wpAny_pure ?_
    split
    · rename_i c _ _ _ _ _
      cases (c == Value.type "enumerate") <;> (wp_walk using it1; exact ⟨_, rfl, h⟩)
    · wp_walk using it1
      exact ⟨_, rfl, h⟩
section
variable {prog : Program} {w : World} {A : Around} {E : Value → Shared → Prop} {s : Shared}
theorem call_enum1 {v : Value} {o : Obj} {HH : Heap → Prop} {Q : Value → Shared → Prop} (B : Begins v o HH) (h1 : HH s.heap)
    (fin : ∀ h', IsEnum h' (s.heap.objs.size + 1) s.heap.objs.size 0 .none → h'.get? s.heap.objs.size = some o → h'.objs.size = s.heap.objs.size + 2 → (∀ b u, s.heap.get? b = some u → h'.get? b = some u) → Q (.ref (s.heap.objs.size + 1)) { s with heap := h' }) :
    wpAny (model prog w) A (call (.type "enumerate") [v]) Q E s := by
  refine callType_new F.called_enumerate (by decide) (F.typeCall_enumerate_1 _) (F.newCall_enumerate_1 _) (fun obj => F.args_object_init_2 obj _) F.entry_enumerate_new (meets_enum1 B) ⟨h1, ?_⟩
  have hz : (s.heap.push o).objs.size = s.heap.objs.size + 1 := Heap.size_push ..
  show _ ∧ _
  rw [hz]
  have he : ((s.heap.push o).push { cls := .type "enumerate", data := .fields #[.none, .bool false, .ref s.heap.objs.size, rawInt 0, .none, .none] }).get? (s.heap.objs.size + 1) = some { cls := .type "enumerate", data := .fields #[.none, .bool false, .ref s.heap.objs.size, rawInt 0, .none, .none] } := by
    rw [← hz]
    exact Heap.get?_push_size (s.heap.push o) rfl
  exact ⟨⟨_, he, rfl⟩, fin _ he (Heap.get?_push_of_some _ (Heap.get?_push_size _ B.free)) (by rw [Heap.size_push, hz]) fun b u x => Heap.get?_push_of_some _ (Heap.get?_push_of_some _ x)⟩
end
/-- a tuple's iterator behind its end -/
theorem draws_end {prog : Program} {w : World} {A : Around} (calm : A.handled = none) (it t : Addr) (items : Array Value) (i : Nat) (hi : items[i]? = none) :
    Draws prog w A it [it, t] i (fun _ _ => True) (fun j h => j = i ∧ h.IsTupleIter it t j ∧ h.IsTuple t items) where
  live := fun _ _ st => let ⟨o, ho, _⟩ := st.2.1; ⟨o, ho⟩
  frame := fun _ _ _ st hk => ⟨st.1, st.2.1.at fun o e => hk it (by simp) o e, st.2.2.at fun o e => hk t (by simp) o e⟩
  item := fun j s Q E hj st _ => absurd st.1 (Nat.ne_of_lt hj)
  done := fun s Q E st hE => wpAny_nextOf_tuple_end calm st.2.1 st.2.2 hi hE
/-- the tuple at a, each item in a new pair -/
def IteT (K : PySem.W.Frag) (a : Addr) : It :=
  ⟨fun i H => ∃ (xs : List V) (x : V), SqT K H a xs ∧ xs[i]? = some x, fun i H v H' => ∃ T x, v = .ref T ∧ H T = none ∧ H' = upd H T (.tup [.int (i : Nat), x]) ∧ ∀ xs, SqT K H a xs → xs[i]? = some x, fun i H => ∃ xs : List V, SqT K H a xs ∧ xs.length ≤ i⟩
theorem turn_enumT {P : Program} {w : World} {K : PySem.W.Frag} {elts : List Expr} {kk : Nat} {tpos : Pos} (a e it : Addr) :
    Turn P w K (.Tuple elts kk tpos) (IteT K a) [e, it] e (fun i h => (∃ old, IsEnum h e it ((i : Nat) : Int) old) ∧ h.IsTupleIter it a i ∧ e ≠ it ∧ e ≠ a ∧ it ≠ a) where
  mem := by simp
  obj := fun i h st b hb => by
    obtain ⟨⟨old, he⟩, ⟨o, ho, hc, hd⟩, _⟩ := st
    rcases List.mem_cons.mp hb with z | z
    · subst z
      exact ⟨_, he, fun v q => nomatch q⟩
    · have z2 := List.mem_singleton.mp z
      subst z2
      exact ⟨o, ho, fun v q => by rw [hd] at q; cases q⟩
  keep := fun i h h' st k => let ⟨⟨old, he⟩, hi, hne⟩ := st; ⟨⟨old, k e (by simp) _ he⟩, hi.at fun o q => k it (by simp) o q, hne⟩
  item := by
    intro X hP hw hK calm i pins s σ H E I hf st hg
    subst hP hw hK
    obtain ⟨⟨old, he⟩, hit, n1, n2, n3⟩ := st
    obtain ⟨xs, x, hq, hx⟩ := hg
    obtain ⟨its, rv, p, hz⟩ := I.tuple hq
    obtain ⟨u, hu, ru⟩ := rv.get hx
    have hel : e < s.heap.objs.size := Heap.lt_size he
    have hil : it < s.heap.objs.size := by obtain ⟨_, q, _⟩ := hit; exact Heap.lt_size q
    have ilt : i < its.toArray.size := by rw [List.size_toArray]; exact (List.getElem?_eq_some_iff.mp hu).1
    have D := Draws.tuple (prog := X.prog) (w := X.w) (A := X.A.in1) (by simpa using I.ok.hd calm) it a (Ne.symm n3) its.toArray
    refine wpAny_pyNext_enum_itemD D he ⟨hit, p⟩ ilt n1 (by simp [n1, n2]) fun y h' tk hy ho hst hT hsz hk => ?_
    have ey : y = u := by
      have q : its[i]? = some y := by simpa using hy
      rw [hu] at q
      exact (Option.some.inj q).symm
    subst ey
    refine ⟨_, rfl, wpAny_letOwnedTupleGo_enum (s := { s with heap := h', toks := tk + 1 }) ho fun h2 he2 sb => ?_⟩
    have nT : h2.get? s.heap.objs.size = some { cls := .type "tuple", data := .seq #[.int i tk, y] } := (sb.2 _ (Nat.ne_of_gt hel)).trans hT
    have mk : ObjOk X.prog X.w (upd H s.heap.objs.size (.tup [.int (i : Nat), x])) h2 s.heap.objs.size (.tup [.int (i : Nat), x]) :=
      ⟨by show 2 ≤ sizeLine; decide, [.int i tk, y], .cons ⟨_, rfl⟩ (.cons ru .nil), ⟨_, nT, rfl, _, rfl⟩⟩
    have I1 : Inv X pins σ (upd H s.heap.objs.size (.tup [.int (i : Nat), x])) { s with heap := h2, toks := tk + 1 } :=
      I.turnedNew (ch := [e, it]) (fun b ob hb q => (sb.2 b (fun z => hb (by simp [z]))).trans (hk b ob (fun z => hb (by simp [z])) (fun z => hb (by simp [z])) q)) hf (Nat.le_refl _) mk
    refine ⟨.ref s.heap.objs.size, _, I1, rfl, ⟨_, x, rfl, I.hok.fresh (Nat.le_refl _), rfl, fun ys hy2 => by rw [I.tuple_inj hy2 hq]; exact hx⟩, ⟨⟨y, ?_⟩, hst.1.at fun o q => (sb.2 it (Ne.symm n1)).trans q, n1, n2, n3⟩, fun b hb => ?_⟩
    · rw [show ((i + 1 : Nat) : Int) = (i : Int) + 1 by omega]
      exact he2
    · have lt : b < s.heap.objs.size := by
        rcases List.mem_cons.mp hb with z | z
        · rw [z]; exact hel
        · rw [List.mem_singleton.mp z]; exact hil
      rw [upd_ne (Nat.ne_of_lt lt)]
      exact (hf b hb).1
  done := by
    intro X hP hw hK calm i pins s σ H E I hf st hg
    subst hP hw hK
    obtain ⟨⟨old, he⟩, hit, n1, n2, n3⟩ := st
    obtain ⟨xs, hq, hx⟩ := hg
    obtain ⟨its, rv, p, hz⟩ := I.tuple hq
    obtain ⟨f0, f1, f2, f3, f4, f5⟩ := hf it (by simp)
    have hl := rv.length
    have over : its.toArray[i]? = none := by simp; omega
    exact wpAny_pyNext_enum_endD (draws_end (by simpa using I.ok.hd calm) it a its.toArray i over) he ⟨rfl, hit, p⟩ fun h' eb => ⟨rfl, I.turned (t' := s.toks) (fun b o hb q => eb b o hb q) f0 f1 f3 f4 f5⟩
  self := fun A i s Q E st h => let ⟨⟨_, he⟩, _⟩ := st; wpAny_pyIter_enum he h
def iEnumT (K : PySem.W.Frag) (ta : TA) : TI := fun σ H R => ta σ H fun vs H1 => ∃ a xs, vs = [.ref a] ∧ SqT K H1 a xs ∧ R (IteT K a) H1
theorem pi_enumT {X : Cx} {e : Expr} {ta : TA} {p pos tpos : Pos} {elts : List Expr} {kk : Nat} (hg : Gl X "enumerate") (hm : X.mg "enumerate" = none) (ha : PA X [e] ta) (hs : starEach [e] X.env = [(false, eval e X.env)] := by rfl) :
    PI X (.Tuple elts kk tpos) (.Call (.Name "enumerate" p) [e] [] pos) (iEnumT X.K ta) := by
  constructor
  intro pins s σ H R I h
  refine Call_ (ld_blt I hg hm boot_enumerate (PyProof.Rows.callWith_type1 (thn (ha.run pos pins s σ H _ I h) fun us s1 ⟨vs, H1, I1, r1, q1⟩ => ?_) hs rfl))
  obtain ⟨a, xs, ex, hq, q⟩ := q1
  subst ex
  cases r1 with
  | cons r rr =>
    cases rr
    cases r
    obtain ⟨its, rv, tp, hz⟩ := I1.tuple hq
    have al : a < s1.heap.objs.size := by obtain ⟨_, q, _⟩ := tp; exact Heap.lt_size q
    refine call_enum1 (begins_tuple a its.toArray) (show s1.heap.IsTuple a its.toArray from tp) fun h' he hit hsz hk => wpAny_pyIter_enum he ?_
    have I2 : Inv X pins σ H1 { s1 with heap := h' } := I1.kept (t' := s1.toks) hk
    refine ⟨s1.heap.objs.size + 1, [s1.heap.objs.size + 1, s1.heap.objs.size], _, _, H1, rfl, I2, turn_enumT a (s1.heap.objs.size + 1) s1.heap.objs.size, ⟨⟨.none, he⟩, ⟨_, hit, rfl, rfl⟩, Nat.succ_ne_self _, Nat.ne_of_gt (Nat.lt_succ_of_lt al), Nat.ne_of_gt al⟩, fun b hb => ?_, q⟩
    have le : s1.heap.objs.size ≤ b := by
      rcases List.mem_cons.mp hb with z | z
      · rw [z]; exact Nat.le_add_right _ _
      · rw [List.mem_singleton.mp z]; exact Nat.le_refl _
    exact I1.fpOk le (I1.hok.fresh le)
theorem for_enumT {K : PySem.W.Frag} {a : Addr} {xs : List V} {g : TG} {tb : TS} {D : Ends} {σ : L2.St} {H : Hp} (Pv : Nat → L2.St → Hp → Prop) (h0 : Pv 0 σ H) (hq : ∀ i σ H, Pv i σ H → SqT K H a xs)
    (hs : ∀ (i : Nat) (x : V) (t : Addr) (σ : L2.St) (H : Hp), xs[i]? = some x → Pv i σ H → H t = none → g (.ref t) σ (upd H t (.tup [.int (i : Nat), x])) fun σ2 H2 => tb { D with nx := Pv (i + 1), ct := Pv (i + 1), bk := D.nx } σ2 H2)
    (hd : ∀ σ H, Pv xs.length σ H → D.nx σ H) : ∃ W : Nat → Nat → L2.St → Hp → Prop, (∃ m, W 0 m σ H) ∧ ∀ i m σ H, W i m σ H →
      ((IteT K a).stop i H ∧ D.nx σ H) ∨ ((IteT K a).go i H ∧ ∃ N : L2.St → Hp → Prop, (∀ σ' H', N σ' H' → ∃ m', m' < m ∧ W (i + 1) m' σ' H') ∧ ∀ v H', (IteT K a).yld i H v H' → g v σ H' fun σ2 H2 => tb { D with nx := N, ct := N, bk := D.nx } σ2 H2) := by
  refine ⟨fun i m σ H => m = xs.length - i ∧ i ≤ xs.length ∧ Pv i σ H, ⟨_, rfl, Nat.zero_le _, h0⟩, ?_⟩
  rintro i m σ H ⟨rfl, hi, p⟩
  have q := hq i σ H p
  by_cases lt : i < xs.length
  · refine .inr ⟨⟨xs, _, q, List.getElem?_eq_getElem lt⟩, Pv (i + 1), fun σ' H' p2 => ⟨_, by omega, rfl, lt, p2⟩, fun v H' y => ?_⟩
    obtain ⟨t, x, rfl, nt, rfl, f⟩ := y
    exact hs i x t σ H (f xs q) p nt
  · have e : i = xs.length := by omega
    subst e
    exact .inl ⟨⟨xs, q, Nat.le_refl _⟩, hd σ H p⟩
end
/-! ### x |= e -/
theorem ip_or {X : Cx} : PIp X .BitOr (ipI fun i j => Builtin.bitOr i j) := by
  intro pins s σ H x y v u Q I r1 r2 h
  exact iop_or pins s σ H x y v u Q I r1 r2 h
/-! ### comprehensions -/
theorem filterMap_range_succ {α : Type} (f : Nat → Option α) (n : Nat) : (List.range (n + 1)).filterMap f = (List.range n).filterMap f ++ (f n).toList := by
  rw [List.range_succ, List.filterMap_append]
  cases e : f n with
  | none => simp [e]
  | some v => simp [e]
theorem filterMap_range_len {α : Type} (f : Nat → Option α) (n : Nat) : ((List.range n).filterMap f).length ≤ n := by
  have h := List.length_filterMap_le f (List.range n)
  rw [List.length_range] at h
  exact h
theorem lt_line {n : Nat} (h : n ≤ 100000) : n < sizeLine := Nat.lt_of_le_of_lt h (by decide)
theorem lc_rangeF {lo : Int} {n : Nat} {g : TG} {tt : TT} {te : TE} {vs : List Nat} {σ : St} {H1 : Hp} {D : Addr} {Qd : Hp → Prop} (f : Nat → Option V) (nD : H1 D = none) (hn : n ≤ 100000)
    (hs : ∀ (i : Nat) (H : Hp) (N : V → Hp → Prop) (M : Hp → Prop), i < n → Same H1 H → (∀ v H4, f i = some v → Same H H4 → N v H4) → (∀ H4, f i = none → Same H H4 → M H4) → g (.int (lo + (i : Int))) (wipe σ vs) H fun σ2 H2 => wipe σ2 vs = wipe σ vs ∧ tt σ2 H2 fun b H3 => if b = true then te σ2 H3 N else M H3)
    (hd : ∀ H, Same H1 H → H D = some (.lst ((List.range n).filterMap f)) → Qd H) : ∃ W : Nat → Nat → Hp → Prop, (∃ m, W 0 m (upd H1 D (.lst []))) ∧ ∀ i m H, W i m H →
      ((Itr lo n).stop i H ∧ Qd H) ∨ ((Itr lo n).go i H ∧ ∃ Nx : Hp → Prop, (∀ H', Nx H' → ∃ m', m' < m ∧ W (i + 1) m' H') ∧ ∀ x H', (Itr lo n).yld i H x H' → g x (wipe σ vs) H' fun σ2 H2 => wipe σ2 vs = wipe σ vs ∧ tt σ2 H2 fun b H3 =>
        if b = true then te σ2 H3 fun y H4 => ∃ acc, H4 D = some (.lst acc) ∧ acc.length < sizeLine ∧ Nx (upd H4 D (.lst (acc ++ [y]))) else Nx H3) := by
  refine lc_range (lo := lo) (n := n) (fun i H => Same H1 H ∧ H D = some (.lst ((List.range i).filterMap f))) ⟨Same.new (Same.refl H1) nD, upd_same⟩ (fun i H hi p => ?_) (fun H p => hd H p.1 p.2)
  have il : i < n := hi
  have hz := filterMap_range_len f i
  refine hs i H _ _ hi p.1 (fun v H4 e s => ⟨_, s _ _ p.2, lt_line (by omega), ?_, ?_⟩) (fun H4 e s => ⟨?_, ?_⟩)
  · exact Same.mut (Same.trans p.1 s) nD
  · rw [filterMap_range_succ, e]
    exact upd_same
  · exact Same.trans p.1 s
  · rw [filterMap_range_succ, e, s _ _ p.2]
    simp
theorem lc_rangeM {lo : Int} {n : Nat} {g : TG} {tt : TT} {te : TE} {vs : List Nat} {σ : St} {H1 : Hp} {D : Addr} {Qd : Hp → Prop} {τ : Tp} (R : Nat → V → Hp → Prop) (st : ∀ i v H H', R i v H → TK H H' → R i v H') (t : Tape τ H1) (nD : H1 D = none) (hn : n ≤ 100000)
    (hs : ∀ (i : Nat) (H : Hp) (N : V → Hp → Prop) (M : Hp → Prop), i < n → Mv τ H1 H → (∀ v H4, Mv τ H H4 → R i v H4 → N v H4) → g (.int (lo + (i : Int))) (wipe σ vs) H fun σ2 H2 => wipe σ2 vs = wipe σ vs ∧ tt σ2 H2 fun b H3 => if b = true then te σ2 H3 N else M H3)
    (hd : ∀ H acc, Mv τ H1 H → H D = some (.lst acc) → acc.length = n → (∀ (j : Nat) v, acc[j]? = some v → R j v H) → Qd H) : ∃ W : Nat → Nat → Hp → Prop, (∃ m, W 0 m (upd H1 D (.lst []))) ∧ ∀ i m H, W i m H →
      ((Itr lo n).stop i H ∧ Qd H) ∨ ((Itr lo n).go i H ∧ ∃ Nx : Hp → Prop, (∀ H', Nx H' → ∃ m', m' < m ∧ W (i + 1) m' H') ∧ ∀ x H', (Itr lo n).yld i H x H' → g x (wipe σ vs) H' fun σ2 H2 => wipe σ2 vs = wipe σ vs ∧ tt σ2 H2 fun b H3 =>
        if b = true then te σ2 H3 fun y H4 => ∃ acc, H4 D = some (.lst acc) ∧ acc.length < sizeLine ∧ Nx (upd H4 D (.lst (acc ++ [y]))) else Nx H3) := by
  refine lc_range (lo := lo) (n := n) (fun i H => Mv τ H1 H ∧ ∃ acc, H D = some (.lst acc) ∧ acc.length = i ∧ ∀ (j : Nat) v, acc[j]? = some v → R j v H) ⟨(t.mv).new nD, [], upd_same, rfl, fun j v e => by simp at e⟩ (fun i H hi p => ?_) (fun H p => ?_)
  · obtain ⟨m, acc, hD, hlen, hR⟩ := p
    have il : i < n := hi
    refine hs i H _ _ hi m (fun v H4 m4 r => ⟨acc, m4.keep _ _ (t.mv.neF nD) hD, lt_line (by omega), (m.trans m4).mut nD, acc ++ [v], upd_same, by rw [List.length_append, hlen]; rfl, fun j u e => ?_⟩)
    have k1 : TK H4 (upd H4 D (.lst (acc ++ [v]))) := TK.mut (m4.keep _ _ (t.mv.neF nD) hD)
    by_cases hj : j < acc.length
    · rw [List.getElem?_append_left hj] at e
      exact st _ _ _ _ (st _ _ _ _ (hR j u e) m4.tk) k1
    · rw [List.getElem?_append_right (by omega)] at e
      have hj2 : j = i := by
        have q := (List.getElem?_eq_some_iff.mp e).1
        rw [List.length_singleton] at q
        omega
      rw [hj2, hlen, Nat.sub_self] at e
      have e2 : v = u := Option.some.inj e
      rw [← e2, hj2]
      exact st _ _ _ _ r k1
  · obtain ⟨m, acc, hD, hlen, hR⟩ := p
    exact hd H acc m hD hlen hR
theorem lc_listF {K : PySem.W.Frag} {a : Addr} {xs : List V} {g : TG} {tt : TT} {te : TE} {vs : List Nat} {σ : St} {H1 : Hp} {D : Addr} {Qd : Hp → Prop} (f : Nat → Option V) (hx : H1 a = some (.lst xs)) (nD : H1 D = none) (hn : xs.length ≤ 100000)
    (hs : ∀ (i : Nat) (x : V) (H : Hp) (N : V → Hp → Prop) (M : Hp → Prop), xs[i]? = some x → Same H1 H → (∀ v H4, f i = some v → Same H H4 → N v H4) → (∀ H4, f i = none → Same H H4 → M H4) → g x (wipe σ vs) H fun σ2 H2 => wipe σ2 vs = wipe σ vs ∧ tt σ2 H2 fun b H3 => if b = true then te σ2 H3 N else M H3)
    (hd : ∀ H, Same H1 H → H D = some (.lst ((List.range xs.length).filterMap f)) → Qd H) : ∃ W : Nat → Nat → Hp → Prop, (∃ m, W 0 m (upd H1 D (.lst []))) ∧ ∀ i m H, W i m H →
      ((Itl K a).stop i H ∧ Qd H) ∨ ((Itl K a).go i H ∧ ∃ Nx : Hp → Prop, (∀ H', Nx H' → ∃ m', m' < m ∧ W (i + 1) m' H') ∧ ∀ x H', (Itl K a).yld i H x H' → g x (wipe σ vs) H' fun σ2 H2 => wipe σ2 vs = wipe σ vs ∧ tt σ2 H2 fun b H3 =>
        if b = true then te σ2 H3 fun y H4 => ∃ acc, H4 D = some (.lst acc) ∧ acc.length < sizeLine ∧ Nx (upd H4 D (.lst (acc ++ [y]))) else Nx H3) := by
  refine lc_list (K := K) (a := a) (xs := xs) (fun i H => Same H1 H ∧ H D = some (.lst ((List.range i).filterMap f))) ⟨Same.new (Same.refl H1) nD, upd_same⟩ (fun i H _ p => SqL.of (p.1 _ _ hx)) (fun i x H hi p => ?_) (fun H p => hd H p.1 p.2)
  have il : i < xs.length := (List.getElem?_eq_some_iff.mp hi).1
  have hz := filterMap_range_len f i
  refine hs i x H _ _ hi p.1 (fun v H4 e s => ⟨_, s _ _ p.2, lt_line (by omega), ?_, ?_⟩) (fun H4 e s => ⟨?_, ?_⟩)
  · exact Same.mut (Same.trans p.1 s) nD
  · rw [filterMap_range_succ, e]
    exact upd_same
  · exact Same.trans p.1 s
  · rw [filterMap_range_succ, e, s _ _ p.2]
    simp
theorem lc_listM {K : PySem.W.Frag} {a : Addr} {xs : List V} {g : TG} {tt : TT} {te : TE} {vs : List Nat} {σ : St} {H1 : Hp} {D : Addr} {Qd : Hp → Prop} {τ : Tp} (R : Nat → V → Hp → Prop) (st : ∀ i v H H', R i v H → TK H H' → R i v H') (hx : H1 a = some (.lst xs)) (ne_a : a ≠ τ.t) (t : Tape τ H1) (nD : H1 D = none) (hn : xs.length ≤ 100000)
    (hs : ∀ (i : Nat) (x : V) (H : Hp) (N : V → Hp → Prop) (M : Hp → Prop), xs[i]? = some x → Mv τ H1 H → (∀ v H4, Mv τ H H4 → R i v H4 → N v H4) → g x (wipe σ vs) H fun σ2 H2 => wipe σ2 vs = wipe σ vs ∧ tt σ2 H2 fun b H3 => if b = true then te σ2 H3 N else M H3)
    (hd : ∀ H acc, Mv τ H1 H → H D = some (.lst acc) → acc.length = xs.length → (∀ (j : Nat) v, acc[j]? = some v → R j v H) → Qd H) : ∃ W : Nat → Nat → Hp → Prop, (∃ m, W 0 m (upd H1 D (.lst []))) ∧ ∀ i m H, W i m H →
      ((Itl K a).stop i H ∧ Qd H) ∨ ((Itl K a).go i H ∧ ∃ Nx : Hp → Prop, (∀ H', Nx H' → ∃ m', m' < m ∧ W (i + 1) m' H') ∧ ∀ x H', (Itl K a).yld i H x H' → g x (wipe σ vs) H' fun σ2 H2 => wipe σ2 vs = wipe σ vs ∧ tt σ2 H2 fun b H3 =>
        if b = true then te σ2 H3 fun y H4 => ∃ acc, H4 D = some (.lst acc) ∧ acc.length < sizeLine ∧ Nx (upd H4 D (.lst (acc ++ [y]))) else Nx H3) := by
  refine lc_list (K := K) (a := a) (xs := xs) (fun i H => Mv τ H1 H ∧ ∃ acc, H D = some (.lst acc) ∧ acc.length = i ∧ ∀ (j : Nat) v, acc[j]? = some v → R j v H) ⟨(t.mv).new nD, [], upd_same, rfl, fun j v e => by simp at e⟩ (fun i H _ p => SqL.of (p.1.keep _ _ ne_a hx)) (fun i x H hi p => ?_) (fun H p => ?_)
  · obtain ⟨m, acc, hD, hlen, hR⟩ := p
    have il : i < xs.length := (List.getElem?_eq_some_iff.mp hi).1
    refine hs i x H _ _ hi m (fun v H4 m4 r => ⟨acc, m4.keep _ _ (t.mv.neF nD) hD, lt_line (by omega), (m.trans m4).mut nD, acc ++ [v], upd_same, by rw [List.length_append, hlen]; rfl, fun j u e => ?_⟩)
    have k1 : TK H4 (upd H4 D (.lst (acc ++ [v]))) := TK.mut (m4.keep _ _ (t.mv.neF nD) hD)
    by_cases hj : j < acc.length
    · rw [List.getElem?_append_left hj] at e
      exact st _ _ _ _ (st _ _ _ _ (hR j u e) m4.tk) k1
    · rw [List.getElem?_append_right (by omega)] at e
      have hj2 : j = i := by
        have q := (List.getElem?_eq_some_iff.mp e).1
        rw [List.length_singleton] at q
        omega
      rw [hj2, hlen, Nat.sub_self] at e
      have e2 : v = u := Option.some.inj e
      rw [← e2, hj2]
      exact st _ _ _ _ r k1
  · obtain ⟨m, acc, hD, hlen, hR⟩ := p
    exact hd H acc m hD hlen hR
theorem lc_tupF {K : PySem.W.Frag} {a : Addr} {xs : List V} {g : TG} {tt : TT} {te : TE} {vs : List Nat} {σ : St} {H1 : Hp} {D : Addr} {Qd : Hp → Prop} (f : Nat → Option V) (hx : H1 a = some (.tup xs)) (nD : H1 D = none) (hn : xs.length ≤ 100000)
    (hs : ∀ (i : Nat) (x : V) (H : Hp) (N : V → Hp → Prop) (M : Hp → Prop), xs[i]? = some x → Same H1 H → (∀ v H4, f i = some v → Same H H4 → N v H4) → (∀ H4, f i = none → Same H H4 → M H4) → g x (wipe σ vs) H fun σ2 H2 => wipe σ2 vs = wipe σ vs ∧ tt σ2 H2 fun b H3 => if b = true then te σ2 H3 N else M H3)
    (hd : ∀ H, Same H1 H → H D = some (.lst ((List.range xs.length).filterMap f)) → Qd H) : ∃ W : Nat → Nat → Hp → Prop, (∃ m, W 0 m (upd H1 D (.lst []))) ∧ ∀ i m H, W i m H →
      ((Itt K a).stop i H ∧ Qd H) ∨ ((Itt K a).go i H ∧ ∃ Nx : Hp → Prop, (∀ H', Nx H' → ∃ m', m' < m ∧ W (i + 1) m' H') ∧ ∀ x H', (Itt K a).yld i H x H' → g x (wipe σ vs) H' fun σ2 H2 => wipe σ2 vs = wipe σ vs ∧ tt σ2 H2 fun b H3 =>
        if b = true then te σ2 H3 fun y H4 => ∃ acc, H4 D = some (.lst acc) ∧ acc.length < sizeLine ∧ Nx (upd H4 D (.lst (acc ++ [y]))) else Nx H3) := by
  refine lc_tup (K := K) (a := a) (xs := xs) (fun i H => Same H1 H ∧ H D = some (.lst ((List.range i).filterMap f))) ⟨Same.new (Same.refl H1) nD, upd_same⟩ (fun i H _ p => SqT.of (p.1 _ _ hx)) (fun i x H hi p => ?_) (fun H p => hd H p.1 p.2)
  have il : i < xs.length := (List.getElem?_eq_some_iff.mp hi).1
  have hz := filterMap_range_len f i
  refine hs i x H _ _ hi p.1 (fun v H4 e s => ⟨_, s _ _ p.2, lt_line (by omega), ?_, ?_⟩) (fun H4 e s => ⟨?_, ?_⟩)
  · exact Same.mut (Same.trans p.1 s) nD
  · rw [filterMap_range_succ, e]
    exact upd_same
  · exact Same.trans p.1 s
  · rw [filterMap_range_succ, e, s _ _ p.2]
    simp
theorem lc_tupM {K : PySem.W.Frag} {a : Addr} {xs : List V} {g : TG} {tt : TT} {te : TE} {vs : List Nat} {σ : St} {H1 : Hp} {D : Addr} {Qd : Hp → Prop} {τ : Tp} (R : Nat → V → Hp → Prop) (st : ∀ i v H H', R i v H → TK H H' → R i v H') (hx : H1 a = some (.tup xs)) (ne_a : a ≠ τ.t) (t : Tape τ H1) (nD : H1 D = none) (hn : xs.length ≤ 100000)
    (hs : ∀ (i : Nat) (x : V) (H : Hp) (N : V → Hp → Prop) (M : Hp → Prop), xs[i]? = some x → Mv τ H1 H → (∀ v H4, Mv τ H H4 → R i v H4 → N v H4) → g x (wipe σ vs) H fun σ2 H2 => wipe σ2 vs = wipe σ vs ∧ tt σ2 H2 fun b H3 => if b = true then te σ2 H3 N else M H3)
    (hd : ∀ H acc, Mv τ H1 H → H D = some (.lst acc) → acc.length = xs.length → (∀ (j : Nat) v, acc[j]? = some v → R j v H) → Qd H) : ∃ W : Nat → Nat → Hp → Prop, (∃ m, W 0 m (upd H1 D (.lst []))) ∧ ∀ i m H, W i m H →
      ((Itt K a).stop i H ∧ Qd H) ∨ ((Itt K a).go i H ∧ ∃ Nx : Hp → Prop, (∀ H', Nx H' → ∃ m', m' < m ∧ W (i + 1) m' H') ∧ ∀ x H', (Itt K a).yld i H x H' → g x (wipe σ vs) H' fun σ2 H2 => wipe σ2 vs = wipe σ vs ∧ tt σ2 H2 fun b H3 =>
        if b = true then te σ2 H3 fun y H4 => ∃ acc, H4 D = some (.lst acc) ∧ acc.length < sizeLine ∧ Nx (upd H4 D (.lst (acc ++ [y]))) else Nx H3) := by
  refine lc_tup (K := K) (a := a) (xs := xs) (fun i H => Mv τ H1 H ∧ ∃ acc, H D = some (.lst acc) ∧ acc.length = i ∧ ∀ (j : Nat) v, acc[j]? = some v → R j v H) ⟨(t.mv).new nD, [], upd_same, rfl, fun j v e => by simp at e⟩ (fun i H _ p => SqT.of (p.1.keep _ _ ne_a hx)) (fun i x H hi p => ?_) (fun H p => ?_)
  · obtain ⟨m, acc, hD, hlen, hR⟩ := p
    have il : i < xs.length := (List.getElem?_eq_some_iff.mp hi).1
    refine hs i x H _ _ hi m (fun v H4 m4 r => ⟨acc, m4.keep _ _ (t.mv.neF nD) hD, lt_line (by omega), (m.trans m4).mut nD, acc ++ [v], upd_same, by rw [List.length_append, hlen]; rfl, fun j u e => ?_⟩)
    have k1 : TK H4 (upd H4 D (.lst (acc ++ [v]))) := TK.mut (m4.keep _ _ (t.mv.neF nD) hD)
    by_cases hj : j < acc.length
    · rw [List.getElem?_append_left hj] at e
      exact st _ _ _ _ (st _ _ _ _ (hR j u e) m4.tk) k1
    · rw [List.getElem?_append_right (by omega)] at e
      have hj2 : j = i := by
        have q := (List.getElem?_eq_some_iff.mp e).1
        rw [List.length_singleton] at q
        omega
      rw [hj2, hlen, Nat.sub_self] at e
      have e2 : v = u := Option.some.inj e
      rw [← e2, hj2]
      exact st _ _ _ _ r k1
  · obtain ⟨m, acc, hD, hlen, hR⟩ := p
    exact hd H acc m hD hlen hR
/-! ### comprehensions over zip -/
theorem lc_zipLF {K : PySem.W.Frag} {a b : Addr} {xs ys : List V} {g : TG} {tt : TT} {te : TE} {vs : List Nat} {σ : St} {H1 : Hp} {D : Addr} {Qd : Hp → Prop} (f : Nat → Option V) (hx : H1 a = some (.lst xs)) (hy : H1 b = some (.lst ys)) (hl : xs.length = ys.length) (nD : H1 D = none) (hn : xs.length ≤ 100000)
    (hs : ∀ (i : Nat) (x y : V) (Z : Addr) (H : Hp) (N : V → Hp → Prop) (M : Hp → Prop), xs[i]? = some x → ys[i]? = some y → Same H1 H → H Z = some (.tup [x, y]) → (∀ v H4, f i = some v → Same H H4 → N v H4) → (∀ H4, f i = none → Same H H4 → M H4) → g (.ref Z) (wipe σ vs) H fun σ2 H2 => wipe σ2 vs = wipe σ vs ∧ tt σ2 H2 fun b H3 => if b = true then te σ2 H3 N else M H3)
    (hd : ∀ H, Same H1 H → H D = some (.lst ((List.range xs.length).filterMap f)) → Qd H) : ∃ W : Nat → Nat → Hp → Prop, (∃ m, W 0 m (upd H1 D (.lst []))) ∧ ∀ i m H, W i m H →
      ((Itz K a b).stop i H ∧ Qd H) ∨ ((Itz K a b).go i H ∧ ∃ Nx : Hp → Prop, (∀ H', Nx H' → ∃ m', m' < m ∧ W (i + 1) m' H') ∧ ∀ x H', (Itz K a b).yld i H x H' → g x (wipe σ vs) H' fun σ2 H2 => wipe σ2 vs = wipe σ vs ∧ tt σ2 H2 fun b H3 =>
        if b = true then te σ2 H3 fun y H4 => ∃ acc, H4 D = some (.lst acc) ∧ acc.length < sizeLine ∧ Nx (upd H4 D (.lst (acc ++ [y]))) else Nx H3) := by
  refine ⟨fun i m H => m = xs.length - i ∧ i ≤ xs.length ∧ Same H1 H ∧ H D = some (.lst ((List.range i).filterMap f)), ⟨xs.length, rfl, Nat.zero_le _, Same.new (Same.refl H1) nD, upd_same⟩, ?_⟩
  rintro i m H ⟨rfl, hi, s, hD⟩
  have qx : SqL K H a xs := SqL.of (s _ _ hx)
  have qy : SqL K H b ys := SqL.of (s _ _ hy)
  have hz := filterMap_range_len f i
  by_cases hlt : i < xs.length
  · have ex : xs[i]? = some xs[i] := List.getElem?_eq_getElem hlt
    have hlt2 : i < ys.length := by omega
    have ey : ys[i]? = some ys[i] := List.getElem?_eq_getElem hlt2
    refine .inr ⟨⟨xs, ys, _, _, qx, qy, ex, ey⟩, fun H => i < xs.length ∧ Same H1 H ∧ H D = some (.lst ((List.range (i + 1)).filterMap f)), fun H' p' => ⟨xs.length - (i + 1), by omega, rfl, hlt, p'.2⟩, fun v H' y => ?_⟩
    obtain ⟨Z, x', y', rfl, hZ, rfl, f1, f2⟩ := y
    have s1 : Same H (upd H Z (.tup [x', y'])) := Same.new (Same.refl H) hZ
    refine hs i x' y' Z _ _ _ (f1 xs qx) (f2 ys qy) (s.trans s1) upd_same (fun v H4 e s4 => ⟨_, s4 _ _ (s1 _ _ hD), lt_line (by omega), hlt, ?_, ?_⟩) (fun H4 e s4 => ⟨hlt, ?_, ?_⟩)
    · exact Same.mut ((s.trans s1).trans s4) nD
    · rw [filterMap_range_succ, e]
      exact upd_same
    · exact (s.trans s1).trans s4
    · rw [filterMap_range_succ, e, s4 _ _ (s1 _ _ hD)]
      simp
  · have e : i = xs.length := by omega
    subst e
    exact .inl ⟨⟨xs, ys, qx, qy, Or.inl (Nat.le_refl _)⟩, hd H s hD⟩
theorem lc_zipTF {K : PySem.W.Frag} {a b : Addr} {xs ys : List V} {g : TG} {tt : TT} {te : TE} {vs : List Nat} {σ : St} {H1 : Hp} {D : Addr} {Qd : Hp → Prop} (f : Nat → Option V) (hx : H1 a = some (.tup xs)) (hy : H1 b = some (.tup ys)) (hl : xs.length = ys.length) (nD : H1 D = none) (hn : xs.length ≤ 100000)
    (hs : ∀ (i : Nat) (x y : V) (Z : Addr) (H : Hp) (N : V → Hp → Prop) (M : Hp → Prop), xs[i]? = some x → ys[i]? = some y → Same H1 H → H Z = some (.tup [x, y]) → (∀ v H4, f i = some v → Same H H4 → N v H4) → (∀ H4, f i = none → Same H H4 → M H4) → g (.ref Z) (wipe σ vs) H fun σ2 H2 => wipe σ2 vs = wipe σ vs ∧ tt σ2 H2 fun b H3 => if b = true then te σ2 H3 N else M H3)
    (hd : ∀ H, Same H1 H → H D = some (.lst ((List.range xs.length).filterMap f)) → Qd H) : ∃ W : Nat → Nat → Hp → Prop, (∃ m, W 0 m (upd H1 D (.lst []))) ∧ ∀ i m H, W i m H →
      ((RZ.ItzT K a b).stop i H ∧ Qd H) ∨ ((RZ.ItzT K a b).go i H ∧ ∃ Nx : Hp → Prop, (∀ H', Nx H' → ∃ m', m' < m ∧ W (i + 1) m' H') ∧ ∀ x H', (RZ.ItzT K a b).yld i H x H' → g x (wipe σ vs) H' fun σ2 H2 => wipe σ2 vs = wipe σ vs ∧ tt σ2 H2 fun b H3 =>
        if b = true then te σ2 H3 fun y H4 => ∃ acc, H4 D = some (.lst acc) ∧ acc.length < sizeLine ∧ Nx (upd H4 D (.lst (acc ++ [y]))) else Nx H3) := by
  refine ⟨fun i m H => m = xs.length - i ∧ i ≤ xs.length ∧ Same H1 H ∧ H D = some (.lst ((List.range i).filterMap f)), ⟨xs.length, rfl, Nat.zero_le _, Same.new (Same.refl H1) nD, upd_same⟩, ?_⟩
  rintro i m H ⟨rfl, hi, s, hD⟩
  have qx : SqT K H a xs := SqT.of (s _ _ hx)
  have qy : SqT K H b ys := SqT.of (s _ _ hy)
  have hz := filterMap_range_len f i
  by_cases hlt : i < xs.length
  · have ex : xs[i]? = some xs[i] := List.getElem?_eq_getElem hlt
    have hlt2 : i < ys.length := by omega
    have ey : ys[i]? = some ys[i] := List.getElem?_eq_getElem hlt2
    refine .inr ⟨⟨xs, ys, _, _, qx, qy, ex, ey⟩, fun H => i < xs.length ∧ Same H1 H ∧ H D = some (.lst ((List.range (i + 1)).filterMap f)), fun H' p' => ⟨xs.length - (i + 1), by omega, rfl, hlt, p'.2⟩, fun v H' y => ?_⟩
    obtain ⟨Z, x', y', rfl, hZ, rfl, f1, f2⟩ := y
    have s1 : Same H (upd H Z (.tup [x', y'])) := Same.new (Same.refl H) hZ
    refine hs i x' y' Z _ _ _ (f1 xs qx) (f2 ys qy) (s.trans s1) upd_same (fun v H4 e s4 => ⟨_, s4 _ _ (s1 _ _ hD), lt_line (by omega), hlt, ?_, ?_⟩) (fun H4 e s4 => ⟨hlt, ?_, ?_⟩)
    · exact Same.mut ((s.trans s1).trans s4) nD
    · rw [filterMap_range_succ, e]
      exact upd_same
    · exact (s.trans s1).trans s4
    · rw [filterMap_range_succ, e, s4 _ _ (s1 _ _ hD)]
      simp
  · have e : i = xs.length := by omega
    subst e
    exact .inl ⟨⟨xs, ys, qx, qy, Or.inl (Nat.le_refl _)⟩, hd H s hD⟩
/-! comprehensions whose items are new things -/
theorem lc_rangeR {lo : Int} {n : Nat} {g : TG} {tt : TT} {te : TE} {vs : List Nat} {σ : St} {H1 : Hp} {D : Addr} {Qd : Hp → Prop} (R : Nat → V → Hp → Prop) (st : ∀ i v H H', R i v H → TK H H' → R i v H') (nD : H1 D = none) (hn : n ≤ 100000)
    (hs : ∀ (i : Nat) (H : Hp) (N : V → Hp → Prop) (M : Hp → Prop), i < n → Same H1 H → (∀ v H4, Same H H4 → R i v H4 → N v H4) → g (.int (lo + (i : Int))) (wipe σ vs) H fun σ2 H2 => wipe σ2 vs = wipe σ vs ∧ tt σ2 H2 fun b H3 => if b = true then te σ2 H3 N else M H3)
    (hd : ∀ H acc, Same H1 H → H D = some (.lst acc) → acc.length = n → (∀ (j : Nat) v, acc[j]? = some v → R j v H) → Qd H) : ∃ W : Nat → Nat → Hp → Prop, (∃ m, W 0 m (upd H1 D (.lst []))) ∧ ∀ i m H, W i m H →
      ((Itr lo n).stop i H ∧ Qd H) ∨ ((Itr lo n).go i H ∧ ∃ Nx : Hp → Prop, (∀ H', Nx H' → ∃ m', m' < m ∧ W (i + 1) m' H') ∧ ∀ x H', (Itr lo n).yld i H x H' → g x (wipe σ vs) H' fun σ2 H2 => wipe σ2 vs = wipe σ vs ∧ tt σ2 H2 fun b H3 =>
        if b = true then te σ2 H3 fun y H4 => ∃ acc, H4 D = some (.lst acc) ∧ acc.length < sizeLine ∧ Nx (upd H4 D (.lst (acc ++ [y]))) else Nx H3) := by
  refine lc_range (lo := lo) (n := n) (fun i H => Same H1 H ∧ ∃ acc, H D = some (.lst acc) ∧ acc.length = i ∧ ∀ (j : Nat) v, acc[j]? = some v → R j v H) ⟨Same.new (Same.refl H1) nD, [], upd_same, rfl, fun j v e => by simp at e⟩ (fun i H hi p => ?_) (fun H p => ?_)
  · obtain ⟨m, acc, hD, hlen, hR⟩ := p
    have il : i < n := hi
    refine hs i H _ _ hi m (fun v H4 m4 r => ⟨acc, m4 _ _ hD, lt_line (by omega), Same.mut (Same.trans m m4) nD, acc ++ [v], upd_same, by rw [List.length_append, hlen]; rfl, fun j u e => ?_⟩)
    have k1 : TK H4 (upd H4 D (.lst (acc ++ [v]))) := TK.mut (m4 _ _ hD)
    by_cases hj : j < acc.length
    · rw [List.getElem?_append_left hj] at e
      exact st _ _ _ _ (st _ _ _ _ (hR j u e) (Same.tk m4)) k1
    · rw [List.getElem?_append_right (by omega)] at e
      have hj2 : j = i := by
        have q := (List.getElem?_eq_some_iff.mp e).1
        rw [List.length_singleton] at q
        omega
      rw [hj2, hlen, Nat.sub_self] at e
      have e2 : v = u := Option.some.inj e
      rw [← e2, hj2]
      exact st _ _ _ _ r k1
  · obtain ⟨m, acc, hD, hlen, hR⟩ := p
    exact hd H acc m hD hlen hR
theorem lc_listR {K : PySem.W.Frag} {a : Addr} {xs : List V} {g : TG} {tt : TT} {te : TE} {vs : List Nat} {σ : St} {H1 : Hp} {D : Addr} {Qd : Hp → Prop} (R : Nat → V → Hp → Prop) (st : ∀ i v H H', R i v H → TK H H' → R i v H') (hx : H1 a = some (.lst xs)) (nD : H1 D = none) (hn : xs.length ≤ 100000)
    (hs : ∀ (i : Nat) (x : V) (H : Hp) (N : V → Hp → Prop) (M : Hp → Prop), xs[i]? = some x → Same H1 H → (∀ v H4, Same H H4 → R i v H4 → N v H4) → g x (wipe σ vs) H fun σ2 H2 => wipe σ2 vs = wipe σ vs ∧ tt σ2 H2 fun b H3 => if b = true then te σ2 H3 N else M H3)
    (hd : ∀ H acc, Same H1 H → H D = some (.lst acc) → acc.length = xs.length → (∀ (j : Nat) v, acc[j]? = some v → R j v H) → Qd H) : ∃ W : Nat → Nat → Hp → Prop, (∃ m, W 0 m (upd H1 D (.lst []))) ∧ ∀ i m H, W i m H →
      ((Itl K a).stop i H ∧ Qd H) ∨ ((Itl K a).go i H ∧ ∃ Nx : Hp → Prop, (∀ H', Nx H' → ∃ m', m' < m ∧ W (i + 1) m' H') ∧ ∀ x H', (Itl K a).yld i H x H' → g x (wipe σ vs) H' fun σ2 H2 => wipe σ2 vs = wipe σ vs ∧ tt σ2 H2 fun b H3 =>
        if b = true then te σ2 H3 fun y H4 => ∃ acc, H4 D = some (.lst acc) ∧ acc.length < sizeLine ∧ Nx (upd H4 D (.lst (acc ++ [y]))) else Nx H3) := by
  refine lc_list (K := K) (a := a) (xs := xs) (fun i H => Same H1 H ∧ ∃ acc, H D = some (.lst acc) ∧ acc.length = i ∧ ∀ (j : Nat) v, acc[j]? = some v → R j v H) ⟨Same.new (Same.refl H1) nD, [], upd_same, rfl, fun j v e => by simp at e⟩ (fun i H _ p => SqL.of (p.1 _ _ hx)) (fun i x H hi p => ?_) (fun H p => ?_)
  · obtain ⟨m, acc, hD, hlen, hR⟩ := p
    have il : i < xs.length := (List.getElem?_eq_some_iff.mp hi).1
    refine hs i x H _ _ hi m (fun v H4 m4 r => ⟨acc, m4 _ _ hD, lt_line (by omega), Same.mut (Same.trans m m4) nD, acc ++ [v], upd_same, by rw [List.length_append, hlen]; rfl, fun j u e => ?_⟩)
    have k1 : TK H4 (upd H4 D (.lst (acc ++ [v]))) := TK.mut (m4 _ _ hD)
    by_cases hj : j < acc.length
    · rw [List.getElem?_append_left hj] at e
      exact st _ _ _ _ (st _ _ _ _ (hR j u e) (Same.tk m4)) k1
    · rw [List.getElem?_append_right (by omega)] at e
      have hj2 : j = i := by
        have q := (List.getElem?_eq_some_iff.mp e).1
        rw [List.length_singleton] at q
        omega
      rw [hj2, hlen, Nat.sub_self] at e
      have e2 : v = u := Option.some.inj e
      rw [← e2, hj2]
      exact st _ _ _ _ r k1
  · obtain ⟨m, acc, hD, hlen, hR⟩ := p
    exact hd H acc m hD hlen hR
theorem lc_tupR {K : PySem.W.Frag} {a : Addr} {xs : List V} {g : TG} {tt : TT} {te : TE} {vs : List Nat} {σ : St} {H1 : Hp} {D : Addr} {Qd : Hp → Prop} (R : Nat → V → Hp → Prop) (st : ∀ i v H H', R i v H → TK H H' → R i v H') (hx : H1 a = some (.tup xs)) (nD : H1 D = none) (hn : xs.length ≤ 100000)
    (hs : ∀ (i : Nat) (x : V) (H : Hp) (N : V → Hp → Prop) (M : Hp → Prop), xs[i]? = some x → Same H1 H → (∀ v H4, Same H H4 → R i v H4 → N v H4) → g x (wipe σ vs) H fun σ2 H2 => wipe σ2 vs = wipe σ vs ∧ tt σ2 H2 fun b H3 => if b = true then te σ2 H3 N else M H3)
    (hd : ∀ H acc, Same H1 H → H D = some (.lst acc) → acc.length = xs.length → (∀ (j : Nat) v, acc[j]? = some v → R j v H) → Qd H) : ∃ W : Nat → Nat → Hp → Prop, (∃ m, W 0 m (upd H1 D (.lst []))) ∧ ∀ i m H, W i m H →
      ((Itt K a).stop i H ∧ Qd H) ∨ ((Itt K a).go i H ∧ ∃ Nx : Hp → Prop, (∀ H', Nx H' → ∃ m', m' < m ∧ W (i + 1) m' H') ∧ ∀ x H', (Itt K a).yld i H x H' → g x (wipe σ vs) H' fun σ2 H2 => wipe σ2 vs = wipe σ vs ∧ tt σ2 H2 fun b H3 =>
        if b = true then te σ2 H3 fun y H4 => ∃ acc, H4 D = some (.lst acc) ∧ acc.length < sizeLine ∧ Nx (upd H4 D (.lst (acc ++ [y]))) else Nx H3) := by
  refine lc_tup (K := K) (a := a) (xs := xs) (fun i H => Same H1 H ∧ ∃ acc, H D = some (.lst acc) ∧ acc.length = i ∧ ∀ (j : Nat) v, acc[j]? = some v → R j v H) ⟨Same.new (Same.refl H1) nD, [], upd_same, rfl, fun j v e => by simp at e⟩ (fun i H _ p => SqT.of (p.1 _ _ hx)) (fun i x H hi p => ?_) (fun H p => ?_)
  · obtain ⟨m, acc, hD, hlen, hR⟩ := p
    have il : i < xs.length := (List.getElem?_eq_some_iff.mp hi).1
    refine hs i x H _ _ hi m (fun v H4 m4 r => ⟨acc, m4 _ _ hD, lt_line (by omega), Same.mut (Same.trans m m4) nD, acc ++ [v], upd_same, by rw [List.length_append, hlen]; rfl, fun j u e => ?_⟩)
    have k1 : TK H4 (upd H4 D (.lst (acc ++ [v]))) := TK.mut (m4 _ _ hD)
    by_cases hj : j < acc.length
    · rw [List.getElem?_append_left hj] at e
      exact st _ _ _ _ (st _ _ _ _ (hR j u e) (Same.tk m4)) k1
    · rw [List.getElem?_append_right (by omega)] at e
      have hj2 : j = i := by
        have q := (List.getElem?_eq_some_iff.mp e).1
        rw [List.length_singleton] at q
        omega
      rw [hj2, hlen, Nat.sub_self] at e
      have e2 : v = u := Option.some.inj e
      rw [← e2, hj2]
      exact st _ _ _ _ r k1
  · obtain ⟨m, acc, hD, hlen, hR⟩ := p
    exact hd H acc m hD hlen hR
/-! comprehensions within comprehensions -/
theorem blk_in {X : Cx} {s : Shared} {H : Hp} {sc0 sc1 scope : Scope} {cl : List (Str × Addr)} {C : Addr} {env : Env} {fp : List Addr} {N : List Str} {own : List (Str × Nat)} (hN : X.N = N) (hs : env.scope = sc1) (h : blkC N (relS sc0 sc1) scope own = true) :
    BlkOk (X.blk s H sc0 (compEnvC sc0 cl C env) fp).N (X.blk s H sc0 (compEnvC sc0 cl C env) fp).env.scope scope own := by
  subst hN hs
  exact blkOk_by h
theorem pi_tupK {X : Cx} {K : PySem.W.Frag} {tg l : Expr} {tl : TE} (hK : X.K = K) (h : PE X l tl) : PI X tg l (iTup K tl) := by
  subst hK
  exact pi_tup h
theorem pi_listK {X : Cx} {K : PySem.W.Frag} {tg l : Expr} {tl : TE} (hK : X.K = K) (h : PE X l tl) : PI X tg l (iList K tl) := by
  subst hK
  exact pi_list h
theorem pe_fldK {X : Cx} {K : PySem.W.Frag} {e : Expr} {f : Str} {pos : Pos} {ta : TE} (hK : X.K = K) (h : PE X e ta) (hb : attributeBase e f X.env (eval e X.env) = eval e X.env) : PE X (.Attribute e f pos) (tFld K ta f) := by
  subst hK
  exact pe_fld h hb
theorem pg_tupK {X : Cx} {K : PySem.W.Frag} {es : List Expr} {k : Nat} {pos : Pos} {t : TGs} (n : Nat) (hc : X.calm = true) (hK : X.K = K) (h : PGs X es t)
    (hn : (assignEach es X.env).length = n := by rfl) (hst : (assignEach es X.env).findIdx? (·.1) = none := by rfl) : PG X (.Tuple es k pos) (gTup K n t) := by
  subst hK
  exact pg_tup hc h hn hst
/-! ### words -/
theorem tYes_go {σ : L2.St} {H : Hp} {Q : Bool → Hp → Prop} (h : Q true H) : tYes σ H Q := h
local macro_rules | `(tactic| tm_at "fld") => `(tactic| fail "fld")
local macro_rules | `(tactic| tm_at "hp") => `(tactic| first
  | assumption
  | (with_reducible exact upd_same)
  | exact Same.at (by assumption) (by tm_at "hp")
  | exact Mv.atT (by assumption) (by tm_at "hp")
  | exact Mv.at' (by assumption) (by tm_at "hp") (by tm_at "ne")
  | ((rw [upd_ne ?n]) <;> first | (tm_at "hp") | (tm_at "ne") | fail "upd")
  | fail "hp")
local macro_rules | `(tactic| tm_at "ne") => `(tactic| first
  | assumption
  | exact Ne.symm (by assumption)
  | exact Nw.ne (by assumption) (by tm_at "hp")
  | exact Ne.symm (Nw.ne (by assumption) (by tm_at "hp"))
  | fail "ne")
local macro_rules | `(tactic| tm_at "sq") => `(tactic| first
  | assumption
  | exact SqL.of (by tm_at "hp")
  | exact Same.seq (by assumption) (by tm_at "sq")
  | fail "sq")
local macro_rules | `(tactic| tm_at "sqt") => `(tactic| first
  | assumption
  | exact SqT.of (by tm_at "hp")
  | fail "sqt")
local macro_rules | `(tactic| tm_at "len") => `(tactic| first
  | omega
  | ((simp only [List.length_map, List.length_append, List.length_singleton, List.length_cons, List.length_nil, List.length_replicate, List.length_range]); omega)
  | fail "len")
local macro_rules | `(tactic| tm_at "sd") => `(tactic| first
  | decide
  | omega
  | exact ⟨by decide, by decide⟩
  | exact ⟨by omega, by omega⟩
  | exact Or.inr ⟨by decide, by decide⟩
  | exact Or.inl ⟨by omega, by omega⟩
  | exact Or.inl ⟨by decide, by decide⟩
  | exact Or.inr ⟨by omega, by omega⟩
  | exact Or.inl (fmod64 (by decide) (by decide))
  | exact ⟨by decide, by decide, by decide⟩
  | fail "sd")
local macro_rules | `(tactic| tm_at "w") => `(tactic| repeat (first
  | (with_reducible refine iteDY (by omega) ?_)
  | (with_reducible refine iteDN (by omega) ?_)
  | (refine ⟨_, rfl, ?_⟩)
  | (refine ⟨_, _, rfl, rfl, ?_⟩)
  | (refine ⟨_, _, _, _, rfl, rfl, by tm_at "sq", by rfl, ?_⟩)
  | (refine ⟨_, _, _, _, rfl, rfl, by tm_at "hp", by rfl, ?_⟩)
  | (refine ⟨_, _, _, _, rfl, rfl, by tm_at "sqt", by rfl, ?_⟩)
  | (refine ⟨_, _, _, _, rfl, rfl, by tm_at "sqt", atI_nat (by assumption), ?_⟩)
  | (refine ⟨_, _, _, _, rfl, rfl, by tm_at "sq", atI_nat (by assumption), ?_⟩)
  | (refine ⟨_, _, rfl, by tm_at "sqt", rfl, _, _, rfl, _, _, rfl, rfl, ?_⟩)
  | (refine ⟨_, _, rfl, by tm_at "sqt", rfl, _, _, rfl, _, _, rfl, _, _, rfl, rfl, ?_⟩)
  | (refine ⟨_, _, _, _, _, rfl, ClsV.ty _, by assumption, by assumption, ?_⟩)
  | (refine And.intro (rfl : scal _ _ = true) ?_)
  | (with_reducible refine iteET (by rfl) ?_)
  | (with_reducible refine iteEF (by rfl) ?_)
  | (refine And.intro (IntK.int _) ?_)
  | (with_reducible refine tYes_go ?_)
  | (refine And.intro (by (with_reducible refine le_lineB ?_); rfl) ?_)
  | (refine ⟨_, _, rfl, Or.inl ⟨SqL.of (by tm_at "hp"), ?_⟩⟩)
  | (refine And.intro (Or.inl ⟨rfl, _, SqL.of (by tm_at "hp")⟩) ?_)
  | (refine ⟨_, _, _, rfl, rfl, by tm_at "hp", lt_line (by tm_at "len"), ?_⟩)
  | (refine And.intro rfl ?_)
  | (refine Or.inl ⟨_, rfl, ?_⟩)
  | (refine ⟨_, _, rfl, Or.inl (by tm_at "sq"), ?_⟩)
  | (refine ⟨_, _, rfl, Or.inr (by tm_at "sqt"), ?_⟩)
  | (refine And.intro (by tm_at "sd") ?_)
  | (tm_at "fld")
  | fail "w"))
/-! ### lists of whole numbers -/
/-- an item of a list is a whole number -/
def IsI (v : V) : Prop := ∃ i : Int, v = .int i
theorem ints_of {xs : List V} (h : ∀ v ∈ xs, IsI v) : ∃ ns : List Int, xs = ns.map V.int := by
  induction xs with
  | nil => exact ⟨[], rfl⟩
  | cons x r ih =>
    obtain ⟨ns, e⟩ := ih fun v hv => h v (List.mem_cons_of_mem _ hv)
    obtain ⟨i, ei⟩ := h x List.mem_cons_self
    exact ⟨i :: ns, by rw [ei, e]; rfl⟩
theorem ints_at {xs : List V} (h : ∀ (j : Nat) v, xs[j]? = some v → IsI v) : ∃ ns : List Int, xs = ns.map V.int := ints_of fun v hv => by
  obtain ⟨j, hj, e⟩ := List.mem_iff_getElem.mp hv
  exact h j v (by rw [List.getElem?_eq_getElem hj, e])
theorem mem_app {P : V → Prop} {xs : List V} {y : V} (h : ∀ v ∈ xs, P v) (hy : P y) : ∀ v ∈ xs ++ [y], P v := fun v hv => by
  rcases List.mem_append.mp hv with hv | hv
  · exact h v hv
  · rw [List.mem_singleton.mp hv]
    exact hy
theorem len_app {xs : List V} {y : V} {n : Nat} (h : xs.length = n) : (xs ++ [y]).length = n + 1 := by
  rw [List.length_append, h]
  rfl
/-- the item at a place of a list of whole numbers -/
theorem int_here {ns : List Int} {i : Nat} {x : V} (h : (ns.map V.int)[i]? = some x) : ∃ z, ns[i]? = some z ∧ x = .int z ∧ i < ns.length := by
  rw [List.getElem?_map] at h
  cases e : ns[i]? with
  | none => rw [e] at h; cases h
  | some z => rw [e] at h; exact ⟨z, rfl, (Option.some.inj h).symm, (List.getElem?_eq_some_iff.mp e).1⟩
theorem map_snoc (ks : List Int) (k : Int) : ks.map V.int ++ [V.int k] = (ks ++ [k]).map V.int := by rw [List.map_append]; rfl
theorem inV_int (k : Int) (ks : List Int) : inV (.int k) (ks.map V.int) = decide (k ∈ ks) := by
  unfold inV
  rw [List.any_map]
  by_cases h : k ∈ ks
  · rw [decide_eq_true h]
    exact List.any_eq_true.mpr ⟨k, h, beq_self_eq_true k⟩
  · rw [decide_eq_false h]
    refine List.any_eq_false.mpr fun y hy z => h ?_
    have e : y = k := eq_of_beq (show (y == k) = true from z)
    rw [← e]
    exact hy
theorem flat_ints (ks : List Int) : (ks.map V.int).all flatV = true := List.all_eq_true.mpr fun v hv => by
  obtain ⟨i, _, rfl⟩ := List.mem_map.mp hv
  rfl
theorem len_of_same {a b : List Int} (ha : a.Nodup) (hb : b.Nodup) (h : ∀ k, k ∈ a ↔ k ∈ b) : a.length = b.length := ((List.perm_ext_iff_of_nodup ha hb).mpr h).length_eq
theorem dp_ints {K : PySem.W.Frag} {H : Hp} : ∀ ns : List Int, DpAll K H (ns.map V.int) (ns.map PyData.int)
  | [] => .nil
  | n :: r => .cons (.int n) (dp_ints r)
theorem range_items {α : Type} (S : List α) (f : α → V) : (List.range S.length).filterMap (fun i => S[i]?.map f) = S.map f := by
  have key : ∀ n, n ≤ S.length → (List.range n).filterMap (fun i => S[i]?.map f) = (S.take n).map f := by
    intro n
    induction n with
    | zero => intro _; rfl
    | succ n ih =>
      intro h
      rw [filterMap_range_succ, ih (by omega), List.take_add_one, List.map_append]
      rw [List.getElem?_eq_getElem (show n < S.length by omega)]
      rfl
  rw [key _ (Nat.le_refl _), List.take_length]
theorem lay_ints : ∀ ns : List Int, PyData.canLayAll0 (ns.map PyData.int) = true
  | [] => rfl
  | n :: r => by
    show (PyData.canLay0 (.int n) && PyData.canLayAll0 (r.map PyData.int)) = true
    rw [lay_ints r]
    rfl
theorem deep_ints : ∀ ns : List Int, PyData.depthAll (ns.map PyData.int) ≤ 1
  | [] => by simp [PyData.depthAll]
  | n :: r => by
    have ih := deep_ints r
    simp only [List.map_cons, PyData.depthAll, PyData.depth]
    omega
theorem shaped_ints (ns : List Int) : SeqAt.shaped (.tuple (ns.map PyData.int)) = true := by
  have h := deep_ints ns
  have h2 : PyData.depth (.tuple (ns.map PyData.int)) ≤ 64 := by
    simp only [PyData.depth]
    omega
  exact Bool.and_eq_true_iff.mpr ⟨lay_ints ns, decide_eq_true h2⟩
theorem same_ints (ns : List Int) : PyData.eqv (.tuple (ns.map PyData.int)) (.tuple (ns.map PyData.int)) = true := SeqAt.eqv_refl _ (lay_ints ns)
theorem at_map {r : List Int} {i : Int} (h0 : 0 ≤ i) (h : i < (r.length : Int)) : atI (r.map V.int) i = some (.int (r.getD i.toNat 0)) := by
  have hj : i.toNat < r.length := by omega
  refine at_of (j := i.toNat) (by omega) ?_
  rw [List.getElem?_map, List.getElem?_eq_getElem hj, List.getD_eq_getElem?_getD, List.getElem?_eq_getElem hj]
  rfl
/-! ### bits of what each kind is -/
def upBits (acc : List Nat) (n : Nat) (p : List Nat) : Nat := p.foldl (fun f q => f ||| acc.getD q 0) (2 ^ n)
theorem fold_bits (acc : List Nat) (j : Nat) : ∀ (p : List Nat) (f : Nat), (p.foldl (fun f q => f ||| acc.getD q 0) f).testBit j = (f.testBit j || p.any fun q => (acc.getD q 0).testBit j)
  | [], f => by simp
  | q :: r, f => by
    have ih := fold_bits acc j r (f ||| acc.getD q 0)
    rw [List.foldl_cons, ih, Nat.testBit_or, List.any_cons, Bool.or_assoc]
theorem upBits_at (acc : List Nat) (n : Nat) (p : List Nat) (j : Nat) : (upBits acc n p).testBit j = (decide (n = j) || p.any fun q => (acc.getD q 0).testBit j) := by
  unfold upBits
  rw [fold_bits, Nat.testBit_two_pow]
/-! ### books -/
structure InsT (K : PySem.W.Frag) (C : Addr) : Prop where
  ha : PySem.W.findIn K (.ref C) "__class__" = some (some (.builtin "object.__class__"))
  hn : PySem.W.specialIn K (.builtin "object.__class__") "__get__" = some (some (.builtin "getset_descriptor.__get__"))
  htk : PySem.W.takesIn K (.builtin "object.__class__") = some true
  hm : PySem.W.mroIn K C (.type "object") = some true
theorem pb_ne : ¬ (("parents" : Str) = "bits") := by decide +kernel
theorem bp_ne : ¬ (("bits" : Str) = "parents") := by decide +kernel
def bkF (pa lb : Addr) : List (Str × V) := putF "bits" (.ref lb) (putF "parents" (.ref pa) [])
theorem bkF_eq (pa lb : Addr) : bkF pa lb = ([("parents", V.ref pa), ("bits", V.ref lb)] : List (Str × V)) := by
  show (if ("parents" : Str) = "bits" then [(("parents" : Str), V.ref lb)] else (("parents" : Str), V.ref pa) :: putF "bits" (V.ref lb) []) = ([("parents", V.ref pa), ("bits", V.ref lb)] : List (Str × V))
  rw [if_neg pb_ne]
  all_goals rfl
theorem bkF_parents (pa lb : Addr) : (bkF pa lb).lookup ("parents" : Str) = some (.ref pa) := by
  unfold bkF
  rw [lookup_putF, if_neg pb_ne, lookup_putF, if_pos rfl]
theorem bkF_bits (pa lb : Addr) : (bkF pa lb).lookup ("bits" : Str) = some (.ref lb) := by
  unfold bkF
  rw [lookup_putF, if_pos rfl]
theorem bkF_no (pa lb : Addr) {m : Str} (h1 : ¬ m = "bits") (h2 : ¬ m = "parents") : (bkF pa lb).lookup m = none := by
  unfold bkF
  rw [lookup_putF, if_neg h1, lookup_putF, if_neg h2]
  all_goals rfl
theorem bkF_putP (pa lb p : Addr) : putF "parents" (.ref p) (bkF pa lb) = bkF p lb := by
  rw [bkF_eq, bkF_eq]
  show (if ("parents" : Str) = "parents" then (("parents" : Str), V.ref p) :: [(("bits" : Str), V.ref lb)] else _) = ([("parents", V.ref p), ("bits", V.ref lb)] : List (Str × V))
  rw [if_pos rfl]
theorem bkF_putB (pa lb l : Addr) : putF "bits" (.ref l) (bkF pa lb) = bkF pa l := by
  rw [bkF_eq, bkF_eq]
  show (if ("parents" : Str) = "bits" then _ else (("parents" : Str), V.ref pa) :: (if ("bits" : Str) = "bits" then [(("bits" : Str), V.ref l)] else _)) = ([("parents", V.ref pa), ("bits", V.ref l)] : List (Str × V))
  rw [if_neg pb_ne, if_pos rfl]
/-- the fields of a book that is being made: none, or an elder filling's -/
def BkFs (fs : List (Str × V)) : Prop := fs = [] ∨ ∃ pa lb, fs = bkF pa lb
theorem BkFs.put {fs : List (Str × V)} (h : BkFs fs) (p l : Addr) : putF "bits" (.ref l) (putF "parents" (.ref p) fs) = bkF p l := by
  rcases h with rfl | ⟨a, b, rfl⟩
  · rfl
  · rw [bkF_putP, bkF_putB]
theorem BkFs.len {fs : List (Str × V)} (h : BkFs fs) : fs.length < 500 := by
  rcases h with rfl | ⟨a, b, rfl⟩
  · decide
  · rw [bkF_eq]
    show 2 < 500
    decide
theorem BkFs.len1 {fs : List (Str × V)} (h : BkFs fs) (p : Addr) : (putF "parents" (.ref p) fs).length < 1000 := by
  have q := length_putF "parents" (.ref p) fs
  have r := h.len
  omega
theorem BkFs.fill {fs : List (Str × V)} (h : BkFs fs) : fs.lookup ("fill" : Str) = none := by
  rcases h with rfl | ⟨a, b, rfl⟩
  · rfl
  · exact bkF_no _ _ (by decide +kernel) (by decide +kernel)
def natsV (p : List Nat) : List V := p.map fun q : Nat => V.int (q : Int)
/-- parents: a tuple of tuples of numbers -/
def ParL (H : Hp) (vs : List V) (P : List (List Nat)) : Prop := vs.length = P.length ∧ ∀ (j : Nat) p, P[j]? = some p → ∃ a, vs[j]? = some (.ref a) ∧ H a = some (.tup (natsV p))
def ParAt (H : Hp) (pa : Addr) (P : List (List Nat)) : Prop := ∃ vs, H pa = some (.tup vs) ∧ ParL H vs P
theorem ParL.tk {H H' : Hp} {vs : List V} {P : List (List Nat)} (h : ParL H vs P) (k : TK H H') : ParL H' vs P := ⟨h.1, fun j p e => by
  obtain ⟨a, e1, e2⟩ := h.2 j p e
  exact ⟨a, e1, k _ _ e2⟩⟩
theorem ParAt.tk {H H' : Hp} {pa : Addr} {P : List (List Nat)} (h : ParAt H pa P) (k : TK H H') : ParAt H' pa P := by
  obtain ⟨vs, e, l⟩ := h
  exact ⟨vs, k _ _ e, l.tk k⟩
/-- each parent stands ahead -/
def RtP (P : List (List Nat)) : Prop := ∀ (j : Nat) p, P[j]? = some p → ∀ q ∈ p, q < j
/-- the bits of all kinds -/
def bitsOf (P : List (List Nat)) : List Nat := P.foldl (fun acc p => acc ++ [upBits acc acc.length p]) []
def isA (P : List (List Nat)) (x p : Nat) : Bool := ((bitsOf P).getD x 0).testBit p
theorem bitsOf_snoc (P : List (List Nat)) (p : List Nat) : bitsOf (P ++ [p]) = bitsOf P ++ [upBits (bitsOf P) (bitsOf P).length p] := by
  unfold bitsOf
  rw [List.foldl_append]
  rfl
theorem bitsOf_len (P : List (List Nat)) : (bitsOf P).length = P.length := by
  have key : ∀ (r : List (List Nat)) (acc : List Nat), (r.foldl (fun acc p => acc ++ [upBits acc acc.length p]) acc).length = acc.length + r.length := by
    intro r
    induction r with
    | nil => intro acc; simp
    | cons x r ih =>
      intro acc
      rw [List.foldl_cons, ih, List.length_append]
      simp only [List.length_cons, List.length_nil]
      omega
  rw [show bitsOf P = P.foldl (fun acc p => acc ++ [upBits acc acc.length p]) [] from rfl, key]
  simp
/-- a book: its address, its dict, its parents' tuple, its bits' list -/
structure Bk where
  b : Addr
  dx : Addr
  pa : Addr
  lb : Addr
structure BookAt (C : Addr) (H : Hp) (k : Bk) (P : List (List Nat)) : Prop where
  ins : H k.b = some (.ins C k.dx (bkF k.pa k.lb))
  par : ParAt H k.pa P
  bits : H k.lb = some (.lst (natsV (bitsOf P)))
theorem BookAt.same {C : Addr} {H H' : Hp} {k : Bk} {P : List (List Nat)} (h : BookAt C H k P) (s : Same H H') : BookAt C H' k P := ⟨s _ _ h.ins, h.par.tk (Same.tk s), s _ _ h.bits⟩
/-- all but b is kept -/
def But (b : Addr) (H H' : Hp) : Prop := ∀ a o, a ≠ b → H a = some o → H' a = some o
/-- the parents of a kind with a number are right -/
structure OkL (q : List Nat) (m : Nat) : Prop where
  asc : q.Pairwise (· < ·)
  lt : ∀ x ∈ q, x < m
  few : q.length ≤ 6
structure OkP (P : List (List Nat)) : Prop where
  ok : ∀ (j : Nat) q, P[j]? = some q → OkL q j
  few : P.length ≤ 400
theorem OkP.rt {P : List (List Nat)} (h : OkP P) : RtP P := fun j p e q hq => (h.ok j p e).lt q hq
theorem OkP.nil : OkP [] := ⟨fun j q e => by simp at e, by decide⟩
theorem OkP.take {P : List (List Nat)} (h : OkP P) (m : Nat) : OkP (P.take m) := by
  refine ⟨fun j q e => ?_, ?_⟩
  · rw [List.getElem?_take] at e
    split at e
    · exact h.ok j q e
    · cases e
  · have := h.few
    rw [List.length_take]
    omega
theorem natsV_len (q : List Nat) : (natsV q).length = q.length := by unfold natsV; rw [List.length_map]
theorem natsV_int {K : PySem.W.Frag} {H : Hp} (q : List Nat) : ∀ x ∈ natsV q, IntK K H x := fun x hx => by
  unfold natsV at hx
  obtain ⟨n, _, rfl⟩ := List.mem_map.mp hx
  exact IntK.int _
theorem natsV_at {q : List Nat} {i : Nat} {n : Nat} (h : q[i]? = some n) : (natsV q)[i]? = some (.int (n : Int)) := by
  unfold natsV
  rw [List.getElem?_map, h]
  rfl
theorem natsV_here {q : List Nat} {i : Nat} {x : V} (h : (natsV q)[i]? = some x) : ∃ n : Nat, q[i]? = some n ∧ x = .int (n : Int) ∧ i < q.length := by
  unfold natsV at h
  rw [List.getElem?_map] at h
  cases e : q[i]? with
  | none => rw [e] at h; cases h
  | some z => rw [e] at h; exact ⟨z, rfl, (Option.some.inj h).symm, (List.getElem?_eq_some_iff.mp e).1⟩
theorem natsV_snoc (q : List Nat) (n : Nat) : natsV q ++ [V.int (n : Int)] = natsV (q ++ [n]) := by unfold natsV; rw [List.map_append]; rfl
theorem ParL.here {H : Hp} {vs : List V} {P : List (List Nat)} (h : ParL H vs P) {j : Nat} {x : V} (e : vs[j]? = some x) : ∃ a p, x = .ref a ∧ P[j]? = some p ∧ H a = some (.tup (natsV p)) := by
  have hj := (List.getElem?_eq_some_iff.mp e).1
  rw [h.1] at hj
  obtain ⟨a, e1, e2⟩ := h.2 j _ (List.getElem?_eq_getElem hj)
  rw [e] at e1
  exact ⟨a, _, Option.some.inj e1, List.getElem?_eq_getElem hj, e2⟩
theorem ParL.nil {H : Hp} : ParL H [] [] := ⟨rfl, fun j p e => by simp at e⟩
theorem ParL.snoc {H : Hp} {vs : List V} {P : List (List Nat)} (h : ParL H vs P) {a : Addr} {p : List Nat} (e : H a = some (.tup (natsV p))) : ParL H (vs ++ [.ref a]) (P ++ [p]) := by
  refine ⟨by rw [List.length_append, List.length_append, h.1]; rfl, fun j q hq => ?_⟩
  by_cases hj : j < P.length
  · rw [List.getElem?_append_left hj] at hq
    rw [List.getElem?_append_left (by rw [h.1]; exact hj)]
    exact h.2 j q hq
  · rw [List.getElem?_append_right (by omega)] at hq
    have l := (List.getElem?_eq_some_iff.mp hq).1
    rw [List.length_singleton] at l
    have ej : j - P.length = 0 := by omega
    rw [ej] at hq
    have er : p = q := Option.some.inj hq
    rw [List.getElem?_append_right (by rw [h.1]; omega), h.1, ej, ← er]
    exact ⟨a, rfl, e⟩
theorem ParL.take {H : Hp} {vs : List V} {P : List (List Nat)} (h : ParL H vs P) (m : Nat) : ParL H (vs.take m) (P.take m) := by
  refine ⟨by rw [List.length_take, List.length_take, h.1], fun j q hq => ?_⟩
  rw [List.getElem?_take] at hq
  split at hq
  · rename_i hm
    rw [List.getElem?_take_of_lt hm]
    exact h.2 j q hq
  · cases hq
theorem But.same {b : Addr} {H H1 H2 : Hp} (s : Same H H1) (k : But b H1 H2) : But b H H2 := fun a o n e => k a o n (s a o e)
theorem But.new {b : Addr} {H H1 H2 : Hp} (s : Same H H1) (n : H b = none) (k : But b H1 H2) : Same H H2 := fun a o e => k a o (ne_of_none e n) (s a o e)
/-- a book that was made between H and H' -/
structure Made (C : Addr) (H H' : Hp) (k : Bk) (P : List (List Nat)) : Prop where
  same : Same H H'
  here : BookAt C H' k P
  nb : Nw H k.b
  nl : Nw H k.lb
theorem Made.later {C : Addr} {H H1 H2 : Hp} {k : Bk} {P : List (List Nat)} (m : Made C H H1 k P) (s : Same H1 H2) : Made C H H2 k P := ⟨m.same.trans s, m.here.same s, m.nb, m.nl⟩
theorem Made.early {C : Addr} {H H1 H2 : Hp} {k : Bk} {P : List (List Nat)} (s : Same H H1) (m : Made C H1 H2 k P) : Made C H H2 k P := ⟨s.trans m.same, m.here, ⟨s.free m.nb.e⟩, ⟨s.free m.nl.e⟩⟩
theorem BookAt.mv {C : Addr} {H H' : Hp} {k : Bk} {P : List (List Nat)} {τ : Tp} (h : BookAt C H k P) (m : Mv τ H H') (n : k.lb ≠ τ.t) : BookAt C H' k P :=
  ⟨m.keep _ _ (fun e => by obtain ⟨_, _, _, _, z, _⟩ := m.was.here; rw [← e, h.ins] at z; cases z) h.ins, h.par.tk m.tk, m.keep _ _ n h.bits⟩
/-! ### who is what: the plain law -/
theorem bitsOf_take : ∀ (P : List (List Nat)) (m : Nat), bitsOf (P.take m) = (bitsOf P).take m := by
  have key : ∀ (n : Nat) (P : List (List Nat)), P.length = n → ∀ m, bitsOf (P.take m) = (bitsOf P).take m := by
    intro n
    induction n with
    | zero =>
      intro P h m
      have e : P = [] := List.length_eq_zero_iff.mp h
      subst e
      simp [bitsOf]
    | succ n ih =>
      intro P h m
      have hne : P ≠ [] := by intro e; rw [e] at h; cases h
      have e : P = P.dropLast ++ [P.getLast hne] := (List.dropLast_concat_getLast hne).symm
      have hl : P.dropLast.length = n := by rw [List.length_dropLast, h]; rfl
      by_cases hm : m ≤ n
      · rw [e, List.take_append_of_le_length (by omega), ih _ hl, bitsOf_snoc, List.take_append_of_le_length (by rw [bitsOf_len]; omega)]
      · rw [List.take_of_length_le (by omega), List.take_of_length_le (by rw [bitsOf_len]; omega)]
  exact fun P => key P.length P rfl
theorem bitsOf_at (P : List (List Nat)) (j : Nat) (p : List Nat) (h : P[j]? = some p) : (bitsOf P)[j]? = some (upBits ((bitsOf P).take j) j p) := by
  have hj := (List.getElem?_eq_some_iff.mp h).1
  have e : P.take (j + 1) = P.take j ++ [p] := by rw [List.take_add_one, h]; rfl
  have e2 : (bitsOf P).take (j + 1) = (bitsOf P).take j ++ [upBits ((bitsOf P).take j) j p] := by
    have hl : ((bitsOf P).take j).length = j := by rw [List.length_take, bitsOf_len]; omega
    rw [← bitsOf_take, e, bitsOf_snoc, bitsOf_take, hl]
  have e3 : ((bitsOf P).take (j + 1))[j]? = (bitsOf P)[j]? := List.getElem?_take_of_lt (Nat.lt_succ_self j)
  have hl : ((bitsOf P).take j).length = j := by rw [List.length_take, bitsOf_len]; omega
  rw [← e3, e2, List.getElem?_append_right (by omega), hl, Nat.sub_self]
  rfl
theorem upBits_take {acc : List Nat} {j : Nat} {p : List Nat} (h : ∀ q ∈ p, q < j) : upBits (acc.take j) j p = upBits acc j p := by
  unfold upBits
  have key : ∀ (p : List Nat) (f : Nat), (∀ q ∈ p, q < j) → p.foldl (fun f q => f ||| (acc.take j).getD q 0) f = p.foldl (fun f q => f ||| acc.getD q 0) f := by
    intro p
    induction p with
    | nil => intro f _; rfl
    | cons q r ih =>
      intro f hq
      have e : (acc.take j).getD q 0 = acc.getD q 0 := by
        rw [List.getD_eq_getElem?_getD, List.getD_eq_getElem?_getD, List.getElem?_take_of_lt (hq q List.mem_cons_self)]
      rw [List.foldl_cons, List.foldl_cons, e, ih _ fun z hz => hq z (List.mem_cons_of_mem _ hz)]
  exact key p _ h
theorem isA_rec {P : List (List Nat)} (hR : RtP P) {x : Nat} {p : List Nat} (h : P[x]? = some p) (j : Nat) : isA P x j = (decide (x = j) || p.any fun q => isA P q j) := by
  have e : (bitsOf P).getD x 0 = upBits (bitsOf P) x p := by
    rw [List.getD_eq_getElem?_getD, bitsOf_at P x p h, upBits_take (hR x p h)]
    rfl
  unfold isA
  rw [e, upBits_at]
theorem isA_out {P : List (List Nat)} {x : Nat} (h : P.length ≤ x) (j : Nat) : isA P x j = false := by
  unfold isA
  rw [List.getD_eq_getElem?_getD, List.getElem?_eq_none (by rw [bitsOf_len]; exact h)]
  exact Nat.zero_testBit j
theorem isA_lt {P : List (List Nat)} {x j : Nat} (h : isA P x j = true) : x < P.length := by
  by_cases hx : x < P.length
  · exact hx
  · rw [isA_out (by omega)] at h
    cases h
theorem isA_le {P : List (List Nat)} (hR : RtP P) : ∀ {x j : Nat}, isA P x j = true → j ≤ x := by
  intro x
  induction x using Nat.strongRecOn with
  | ind x ih =>
    intro j h
    have hx := isA_lt h
    rw [isA_rec hR (List.getElem?_eq_getElem hx), Bool.or_eq_true, decide_eq_true_eq, List.any_eq_true] at h
    rcases h with h | ⟨q, hq, h⟩
    · omega
    · have l := hR x _ (List.getElem?_eq_getElem hx) q hq
      have := ih q l h
      omega
theorem isA_refl {P : List (List Nat)} (hR : RtP P) {x : Nat} (hx : x < P.length) : isA P x x = true := by
  rw [isA_rec hR (List.getElem?_eq_getElem hx), decide_eq_true rfl]
  rfl
theorem isA_trans {P : List (List Nat)} (hR : RtP P) : ∀ {x y z : Nat}, isA P x y = true → isA P y z = true → isA P x z = true := by
  intro x
  induction x using Nat.strongRecOn with
  | ind x ih =>
    intro y z h h2
    have hx := isA_lt h
    rw [isA_rec hR (List.getElem?_eq_getElem hx), Bool.or_eq_true, decide_eq_true_eq, List.any_eq_true] at h
    rcases h with h | ⟨q, hq, h⟩
    · rw [h]
      exact h2
    · have l := hR x _ (List.getElem?_eq_getElem hx) q hq
      rw [isA_rec hR (List.getElem?_eq_getElem hx), Bool.or_eq_true, List.any_eq_true]
      exact .inr ⟨q, hq, ih q l h h2⟩
theorem isA_take {P : List (List Nat)} {m x : Nat} (h : x < m) (j : Nat) : isA (P.take m) x j = isA P x j := by
  unfold isA
  rw [bitsOf_take, List.getD_eq_getElem?_getD, List.getD_eq_getElem?_getD, List.getElem?_take_of_lt h]
theorem RtP.take {P : List (List Nat)} (h : RtP P) (m : Nat) : RtP (P.take m) := fun j p e q hq => by
  rw [List.getElem?_take] at e
  split at e
  · exact h j p e q hq
  · cases e
theorem RtP.snoc {P : List (List Nat)} (h : RtP P) {p : List Nat} (hp : ∀ q ∈ p, q < P.length) : RtP (P ++ [p]) := fun j r e q hq => by
  by_cases hj : j < P.length
  · rw [List.getElem?_append_left hj] at e
    exact h j r e q hq
  · rw [List.getElem?_append_right (by omega)] at e
    have l := (List.getElem?_eq_some_iff.mp e).1
    rw [List.length_singleton] at l
    have ej : j - P.length = 0 := by omega
    rw [ej] at e
    have er : p = r := Option.some.inj e
    rw [← er] at hq
    have := hp q hq
    omega
/-- forebears, heirs; the lowest of a lot; plain parents -/
def foreB (P : List (List Nat)) (x : Nat) : List Nat := (List.range x).filter fun p => isA P x p
def heirB (P : List (List Nat)) (p : Nat) : List Nat := (List.range P.length).filter fun x => decide (p < x) && isA P x p
def lowB (P : List (List Nat)) (L : List Nat) : List Nat := L.filter fun p => !(L.any fun x => !decide (x = p) && isA P x p)
def plainB (P : List (List Nat)) : List (List Nat) := (List.range P.length).map fun x => lowB P (foreB P x)
theorem plainB_len (P : List (List Nat)) : (plainB P).length = P.length := by
  unfold plainB
  rw [List.length_map, List.length_range]
theorem plainB_at {P : List (List Nat)} {x : Nat} (h : x < P.length) : (plainB P)[x]? = some (lowB P (foreB P x)) := by
  unfold plainB
  rw [List.getElem?_map, List.getElem?_range h]
  rfl
theorem mem_foreB {P : List (List Nat)} {x p : Nat} : p ∈ foreB P x ↔ p < x ∧ isA P x p = true := by
  unfold foreB
  rw [List.mem_filter, List.mem_range]
theorem plainB_rt (P : List (List Nat)) : RtP (plainB P) := fun j p e q hq => by
  have hj := (List.getElem?_eq_some_iff.mp e).1
  rw [plainB_len] at hj
  rw [plainB_at hj] at e
  rw [← Option.some.inj e] at hq
  exact (mem_foreB.mp (List.mem_filter.mp hq).1).1
theorem low_above {P : List (List Nat)} (hR : RtP P) {x p : Nat} (hp : p < x) (h : isA P x p = true) : ∃ q ∈ lowB P (foreB P x), isA P q p = true := by
  have key : ∀ n q, x - q = n → q < x → isA P x q = true → isA P q p = true → ∃ q ∈ lowB P (foreB P x), isA P q p = true := by
    intro n
    induction n using Nat.strongRecOn with
    | ind n ih =>
      intro q hn hq hxq hqp
      by_cases hl : q ∈ lowB P (foreB P x)
      · exact ⟨q, hl, hqp⟩
      · have hf : q ∈ foreB P x := mem_foreB.mpr ⟨hq, hxq⟩
        have ha : ((foreB P x).any fun y => !decide (y = q) && isA P y q) = true := by
          cases e : ((foreB P x).any fun y => !decide (y = q) && isA P y q) with
          | true => rfl
          | false => exact absurd (List.mem_filter.mpr ⟨hf, by simp [e]⟩) hl
        obtain ⟨y, hy, hz⟩ := List.any_eq_true.mp ha
        rw [Bool.and_eq_true, Bool.not_eq_true', decide_eq_false_iff_not] at hz
        have l := isA_le hR hz.2
        obtain ⟨y1, y2⟩ := mem_foreB.mp hy
        exact ih (x - y) (by omega) y rfl y1 y2 (isA_trans hR hz.2 hqp)
  exact key _ p rfl hp h (isA_refl hR (by have := isA_lt h; omega))
theorem isA_plain {P : List (List Nat)} (hR : RtP P) : ∀ (x j : Nat), isA (plainB P) x j = isA P x j := by
  intro x
  induction x using Nat.strongRecOn with
  | ind x ih =>
    intro j
    by_cases hx : x < P.length
    · have l : ∀ q ∈ lowB P (foreB P x), q < x ∧ isA P x q = true := fun q hq => mem_foreB.mp (List.mem_filter.mp hq).1
      rw [isA_rec (plainB_rt P) (plainB_at hx)]
      rw [Bool.eq_iff_iff, Bool.or_eq_true, decide_eq_true_eq, List.any_eq_true]
      constructor
      · rintro (h | ⟨q, hq, h⟩)
        · rw [← h]
          exact isA_refl hR hx
        · rw [ih q (l q hq).1] at h
          exact isA_trans hR (l q hq).2 h
      · intro h
        by_cases e : x = j
        · exact .inl e
        · have := isA_le hR h
          obtain ⟨q, hq, hz⟩ := low_above hR (by omega) h
          exact .inr ⟨q, hq, by rw [ih q (l q hq).1]; exact hz⟩
    · rw [isA_out (P := P) (by omega), isA_out (P := plainB P) (by rw [plainB_len]; omega)]
theorem foreB_plain {P : List (List Nat)} (hR : RtP P) (x : Nat) : foreB (plainB P) x = foreB P x := by
  unfold foreB
  congr 1
  funext j
  rw [isA_plain hR]
theorem lowB_plain {P : List (List Nat)} (hR : RtP P) (L : List Nat) : lowB (plainB P) L = lowB P L := by
  unfold lowB
  congr 1
  funext p
  congr 2
  funext x
  rw [isA_plain hR]
theorem plainB_plainB {P : List (List Nat)} (hR : RtP P) : plainB (plainB P) = plainB P := by
  show (List.range (plainB P).length).map (fun x => lowB (plainB P) (foreB (plainB P) x)) = (List.range P.length).map fun x => lowB P (foreB P x)
  rw [plainB_len]
  congr 1
  funext x
  rw [foreB_plain hR, lowB_plain hR]
/-- 300 in a row, 300 beside one another -/
def chainP (n : Nat) : List (List Nat) := [] :: (List.range n).map fun k => [k]
def wideP (n : Nat) : List (List Nat) := List.replicate n []
theorem chainP_len (n : Nat) : (chainP n).length = n + 1 := by simp [chainP]
theorem chainP_at {n j : Nat} (h : j < n) : (chainP n)[j + 1]? = some [j] := by
  unfold chainP
  rw [List.getElem?_cons_succ, List.getElem?_map, List.getElem?_range h]
  rfl
theorem chainP_rt (n : Nat) : RtP (chainP n) := fun j p e q hq => by
  cases j with
  | zero => rw [show (chainP n)[0]? = some [] from rfl] at e; rw [← Option.some.inj e] at hq; cases hq
  | succ j =>
    have hj := (List.getElem?_eq_some_iff.mp e).1
    rw [chainP_len] at hj
    rw [chainP_at (by omega)] at e
    rw [← Option.some.inj e, List.mem_singleton] at hq
    omega
theorem isA_chain {n : Nat} : ∀ {x : Nat}, x ≤ n → ∀ j, isA (chainP n) x j = decide (j ≤ x)
  | 0, _, j => by
    rw [isA_rec (chainP_rt n) (show (chainP n)[0]? = some [] from rfl)]
    simp only [List.any_nil, Bool.or_false]
    exact decide_eq_decide.mpr (by omega)
  | x + 1, h, j => by
    rw [isA_rec (chainP_rt n) (chainP_at (by omega)), List.any_cons, List.any_nil, Bool.or_false, isA_chain (by omega) j, ← Bool.decide_or]
    exact decide_eq_decide.mpr (by omega)
theorem wideP_rt (n : Nat) : RtP (wideP n) := fun j p e q hq => by
  have := List.mem_of_getElem? e
  rw [List.eq_of_mem_replicate this] at hq
  cases hq
theorem isA_wide {n x : Nat} (h : x < n) (j : Nat) : isA (wideP n) x j = decide (x = j) := by
  rw [isA_rec (wideP_rt n) (p := []) (by unfold wideP; rw [List.getElem?_replicate, if_pos h])]
  simp
/-- the items of a list are tuples of numbers -/
def RN (f : Nat → List Nat) (i : Nat) (v : V) (H : Hp) : Prop := ∃ a, v = .ref a ∧ H a = some (.tup (natsV (f i)))
theorem RN.tk (f : Nat → List Nat) (i : Nat) (v : V) (H H' : Hp) (h : RN f i v H) (k : TK H H') : RN f i v H' := by
  obtain ⟨a, e, x⟩ := h
  exact ⟨a, e, k _ _ x⟩
theorem parL_of {H : Hp} {acc : List V} {n : Nat} {f : Nat → List Nat} (hl : acc.length = n) (h : ∀ (j : Nat) v, acc[j]? = some v → RN f j v H) : ParL H acc ((List.range n).map f) := by
  refine ⟨by rw [hl, List.length_map, List.length_range], fun j p e => ?_⟩
  have hj := (List.getElem?_eq_some_iff.mp e).1
  rw [List.length_map, List.length_range] at hj
  rw [List.getElem?_map, List.getElem?_range hj] at e
  have ep : f j = p := Option.some.inj e
  obtain ⟨a, e1, e2⟩ := h j _ (List.getElem?_eq_getElem (by omega))
  rw [ep] at e2
  exact ⟨a, by rw [List.getElem?_eq_getElem (by omega), e1], e2⟩
/-- the parents of the kind i -/
def RowR (i : Nat) (v : V) (H : Hp) : Prop := ∃ a q, v = .ref a ∧ H a = some (.tup (natsV q)) ∧ OkL q i
theorem RowR.tk {i : Nat} {v : V} {H H' : Hp} (h : RowR i v H) (k : TK H H') : RowR i v H' := by
  obtain ⟨a, q, e, x, o⟩ := h
  exact ⟨a, q, e, k _ _ x, o⟩
theorem rows_of {H : Hp} {acc : List V} {n : Nat} (hn : n ≤ 400) (hl : acc.length = n) (h : ∀ (j : Nat) v, acc[j]? = some v → RowR j v H) : ∃ P, ParL H acc P ∧ OkP P ∧ P.length = n := by
  obtain ⟨f, hf⟩ := Classical.axiomOfChoice (r := fun (j : Nat) (q : List Nat) => j < n → ∃ a, acc[j]? = some (.ref a) ∧ H a = some (.tup (natsV q)) ∧ OkL q j) (fun j => by
    by_cases hj : j < n
    · obtain ⟨a, q, e, x, o⟩ := h j _ (List.getElem?_eq_getElem (by omega))
      exact ⟨q, fun _ => ⟨a, by rw [List.getElem?_eq_getElem (by omega), e], x, o⟩⟩
    · exact ⟨[], fun z => absurd z hj⟩)
  refine ⟨(List.range n).map f, parL_of hl fun j v e => ?_, ⟨fun j q e => ?_, ?_⟩, ?_⟩
  · have hj := (List.getElem?_eq_some_iff.mp e).1
    obtain ⟨a, e1, e2, _⟩ := hf j (by omega)
    rw [e] at e1
    exact ⟨a, Option.some.inj e1, e2⟩
  · have hj := (List.getElem?_eq_some_iff.mp e).1
    rw [List.length_map, List.length_range] at hj
    rw [List.getElem?_map, List.getElem?_range hj] at e
    obtain ⟨_, _, _, o⟩ := hf j hj
    rw [← Option.some.inj e]
    exact o
  · rw [List.length_map, List.length_range]
    exact hn
  · rw [List.length_map, List.length_range]
theorem nats_of {n : Nat} : ∀ {ns : List Int}, ns.Pairwise (· < ·) → (∀ x ∈ ns, ∃ z : Nat, z < n ∧ x = (z : Int)) → ∃ ks : List Nat, ns = ks.map (fun z : Nat => (z : Int)) ∧ (∀ k ∈ ks, k < n) ∧ ks.Pairwise (· < ·)
  | [], _, _ => ⟨[], rfl, (fun k hk => by cases hk), List.Pairwise.nil⟩
  | x :: r, hp, h => by
    obtain ⟨h1, h2⟩ := List.pairwise_cons.mp hp
    obtain ⟨ks, e, hk, hkp⟩ := nats_of h2 fun y hy => h y (List.mem_cons_of_mem _ hy)
    obtain ⟨z, hz, ez⟩ := h x List.mem_cons_self
    refine ⟨z :: ks, by rw [e, ez]; rfl, fun k hk2 => ?_, List.pairwise_cons.mpr ⟨fun k hk2 => ?_, hkp⟩⟩
    · rcases List.mem_cons.mp hk2 with e2 | e2
      · rw [e2]; exact hz
      · exact hk k e2
    · have := h1 (k : Int) (by rw [e]; exact List.mem_map.mpr ⟨k, hk2, rfl⟩)
      omega
theorem nodup_le : ∀ (m : Nat) {ks : List Nat}, ks.Nodup → (∀ k ∈ ks, k < m) → ks.length ≤ m
  | 0, [], _, _ => Nat.le_refl _
  | 0, k :: r, _, h => absurd (h k List.mem_cons_self) (Nat.not_lt_zero _)
  | m + 1, ks, hn, h => by
    by_cases z : m ∈ ks
    · have l := List.length_erase_of_mem z
      have ih := nodup_le m (hn.erase m) fun k hk => by
        have q := (List.Nodup.mem_erase_iff hn).mp hk
        have := h k q.2
        omega
      have := List.length_pos_of_mem z
      omega
    · have ih := nodup_le m hn fun k hk => by
        have := h k hk
        have : k ≠ m := fun e => z (e ▸ hk)
        omega
      omega
/-! ### clauses -/
def optV : Option Int → V
  | none => .non
  | some i => .int i
def ClsL (H : Hp) (vs : List V) (Cs : List (Nat × Int)) : Prop := vs.length = Cs.length ∧ ∀ (j : Nat) c, Cs[j]? = some c → ∃ a, vs[j]? = some (.ref a) ∧ H a = some (.tup [.int (c.1 : Int), .int c.2])
def ClsAt (H : Hp) (a : Addr) (Cs : List (Nat × Int)) : Prop := ∃ vs, H a = some (.tup vs) ∧ ClsL H vs Cs
theorem ClsL.tk {H H' : Hp} {vs : List V} {Cs : List (Nat × Int)} (h : ClsL H vs Cs) (k : TK H H') : ClsL H' vs Cs := ⟨h.1, fun j p e => by
  obtain ⟨a, e1, e2⟩ := h.2 j p e
  exact ⟨a, e1, k _ _ e2⟩⟩
theorem ClsAt.tk {H H' : Hp} {a : Addr} {Cs : List (Nat × Int)} (h : ClsAt H a Cs) (k : TK H H') : ClsAt H' a Cs := by
  obtain ⟨vs, e, l⟩ := h
  exact ⟨vs, k _ _ e, l.tk k⟩
theorem ClsL.here {H : Hp} {vs : List V} {Cs : List (Nat × Int)} (h : ClsL H vs Cs) {j : Nat} {x : V} (e : vs[j]? = some x) : ∃ a c, x = .ref a ∧ Cs[j]? = some c ∧ H a = some (.tup [.int (c.1 : Int), .int c.2]) := by
  have hj := (List.getElem?_eq_some_iff.mp e).1
  rw [h.1] at hj
  obtain ⟨a, e1, e2⟩ := h.2 j _ (List.getElem?_eq_getElem hj)
  rw [e] at e1
  exact ⟨a, _, Option.some.inj e1, List.getElem?_eq_getElem hj, e2⟩
theorem ClsL.take {H : Hp} {vs : List V} {Cs : List (Nat × Int)} (h : ClsL H vs Cs) (m : Nat) : ClsL H (vs.take m) (Cs.take m) := by
  refine ⟨by rw [List.length_take, List.length_take, h.1], fun j q hq => ?_⟩
  rw [List.getElem?_take] at hq
  split at hq
  · rename_i hm
    rw [List.getElem?_take_of_lt hm]
    exact h.2 j q hq
  · cases hq
theorem ClsL.snoc {H : Hp} {vs : List V} {Cs : List (Nat × Int)} (h : ClsL H vs Cs) {a : Addr} {c : Nat × Int} (e : H a = some (.tup [.int (c.1 : Int), .int c.2])) : ClsL H (vs ++ [.ref a]) (Cs ++ [c]) := by
  refine ⟨by rw [List.length_append, List.length_append, h.1]; rfl, fun j q hq => ?_⟩
  by_cases hj : j < Cs.length
  · rw [List.getElem?_append_left hj] at hq
    rw [List.getElem?_append_left (by rw [h.1]; exact hj)]
    exact h.2 j q hq
  · rw [List.getElem?_append_right (by omega)] at hq
    have l := (List.getElem?_eq_some_iff.mp hq).1
    rw [List.length_singleton] at l
    have ej : j - Cs.length = 0 := by omega
    rw [ej] at hq
    have er : c = q := Option.some.inj hq
    rw [List.getElem?_append_right (by rw [h.1]; omega), h.1, ej, ← er]
    exact ⟨a, rfl, e⟩
/-- the first place that is met; the label there -/
def firstB (Cs : List (Nat × Int)) (S : Nat → Bool) : Nat := Cs.findIdx fun c => S c.1
def labB (Cs : List (Nat × Int)) (S : Nat → Bool) : Option Int := (Cs[firstB Cs S]?).map (·.2)
theorem labB_congr {Cs : List (Nat × Int)} {S T : Nat → Bool} (h : ∀ c ∈ Cs, S c.1 = T c.1) : labB Cs S = labB Cs T := by
  have key : ∀ Cs : List (Nat × Int), (∀ c ∈ Cs, S c.1 = T c.1) → firstB Cs S = firstB Cs T := by
    intro Cs
    induction Cs with
    | nil => intro _; rfl
    | cons c r ih =>
      intro h
      have ih := ih fun d hd => h d (List.mem_cons_of_mem _ hd)
      unfold firstB at ih ⊢
      rw [List.findIdx_cons, List.findIdx_cons, h c List.mem_cons_self, ih]
  unfold labB
  rw [key Cs h]
theorem first_drop {Cs : List (Nat × Int)} {S : Nat → Bool} {i : Nat} {c : Nat × Int} (hc : Cs[i]? = some c) (h : firstB Cs S = i + firstB (Cs.drop i) S) : firstB Cs S = if S c.1 then i else (i + 1) + firstB (Cs.drop (i + 1)) S := by
  have il := (List.getElem?_eq_some_iff.mp hc).1
  have hd : Cs.drop i = c :: Cs.drop (i + 1) := by
    rw [List.drop_eq_getElem_cons il]
    rw [List.getElem?_eq_getElem il] at hc
    rw [Option.some.inj hc]
  rw [h, hd]
  unfold firstB
  rw [List.findIdx_cons]
  cases S c.1 with
  | true => rfl
  | false => show i + ((Cs.drop (i + 1)).findIdx (fun c => S c.1) + 1) = _; simp only [Bool.false_eq_true, if_false]; omega
theorem all_true (n : Nat) : (List.range n).filterMap (fun _ => some (V.bl true)) = (List.replicate n true).map V.bl := by
  rw [show (fun _ : Nat => some (V.bl true)) = some ∘ (fun _ : Nat => V.bl true) from rfl, List.filterMap_eq_map, List.map_replicate]
  exact List.eq_replicate_iff.mpr ⟨by rw [List.length_map, List.length_range], fun b hb => by
    obtain ⟨x, _, e⟩ := List.mem_map.mp hb
    exact e.symm⟩
theorem all_id (n : Nat) : (List.replicate n true).all id = true := List.all_eq_true.mpr fun x hx => (List.eq_of_mem_replicate hx)
theorem filter_natsV (p : Nat → Bool) (f : Nat → Nat) (n : Nat) : (List.range n).filterMap (fun i => if p i = true then some (V.int ((f i : Nat) : Int)) else none) = natsV (((List.range n).filter p).map f) := by
  unfold natsV
  induction n with
  | zero => rfl
  | succ n ih =>
    rw [filterMap_range_succ, ih, List.range_succ, List.filter_append, List.map_append, List.map_append]
    congr 1
    rw [List.filter_cons]
    cases p n <;> rfl
theorem filter_nats (p : Nat → Bool) (n : Nat) : (List.range n).filterMap (fun i => if p i = true then some (V.int (i : Int)) else none) = natsV ((List.range n).filter p) := by
  have h := filter_natsV p id n
  rw [List.map_id] at h
  exact h
theorem slice_any {K : PySem.W.Frag} {H : Hp} {a : Addr} {xs : List V} {m : Nat} {Q : VK} (hx : H a = some (.tup xs)) (hm : m ≤ xs.length)
    (k : ∀ p H', Same H H' → H' p = some (.tup (xs.take m)) → Q (.ref p) H') : rSlA K (.ref a) none (some (m : Int)) H Q := by
  have e0 : HT.sIx xs.length 0 none = 0 := rfl
  have e1 : HT.sIx xs.length xs.length (some (m : Int)) = m := by
    rw [HT.sIx_nat]
    omega
  refine ⟨a, xs, rfl, SqT.of hx, fun e => ?_, fun _ p np => ?_⟩
  · rw [e1] at e
    exact k a H (Same.refl H) (by rw [hx, e.2, List.take_length])
  · refine k p _ (Same.new (Same.refl H) np) ?_
    rw [upd_same]
    unfold cutV
    rw [e0, e1]
    rfl
theorem ixn_nat {n j : Nat} (hj : j < n) : ixN n (j : Int) = some j := by
  unfold ixN
  rw [if_pos (by omega), if_pos (by omega)]
  simp
/-! ### words for books -/
local macro_rules | `(tactic| tm_at "fld") => `(tactic| refine ⟨_, _, _, _, _, rfl, by tm_at "hp", by assumption, by assumption, by first | exact bkF_bits _ _ | exact bkF_parents _ _ | fail "fld", ?_⟩)
/-! ### schemes -/
abbrev Tr := Int × Int × List Int
def Trip (H : Hp) (v : V) (e : Tr) : Prop := ∃ (p q : Addr), v = .ref p ∧ H p = some (.tup [.int e.1, .int e.2.1, .ref q]) ∧ H q = some (.tup (e.2.2.map V.int))
def SchAt (H : Hp) (a : Addr) (S : List Tr) : Prop := ∃ vs : List V, H a = some (.tup vs) ∧ vs.length = S.length ∧ ∀ (i : Nat) (e : Tr), S[i]? = some e → ∃ v, vs[i]? = some v ∧ Trip H v e
theorem Trip.tk {H H' : Hp} {v : V} {e : Tr} (h : Trip H v e) (k : TK H H') : Trip H' v e := by
  obtain ⟨p, q, e1, e2, e3⟩ := h
  exact ⟨p, q, e1, k _ _ e2, k _ _ e3⟩
theorem SchAt.tk {H H' : Hp} {a : Addr} {S : List Tr} (h : SchAt H a S) (k : TK H H') : SchAt H' a S := by
  obtain ⟨vs, h1, h2, h3⟩ := h
  refine ⟨vs, k _ _ h1, h2, fun i e he => ?_⟩
  obtain ⟨v, hv, ht⟩ := h3 i e he
  exact ⟨v, hv, ht.tk k⟩
theorem SchAt.at {H : Hp} {a : Addr} {S : List Tr} (h : SchAt H a S) {i : Nat} {e : Tr} (he : S[i]? = some e) : ∃ vs p q, H a = some (.tup vs) ∧ vs.length = S.length ∧ vs[i]? = some (.ref p) ∧ H p = some (.tup [.int e.1, .int e.2.1, .ref q]) ∧ H q = some (.tup (e.2.2.map V.int)) := by
  obtain ⟨vs, h1, h2, h3⟩ := h
  obtain ⟨v, hv, p, q, e1, e2, e3⟩ := h3 i e he
  exact ⟨vs, p, q, h1, h2, by rw [hv, e1], e2, e3⟩
def saysB (ex ep : Tr) : Bool := decide (ep.1 < (ex.2.2.length : Int)) && decide (ep.2.1 ≤ ex.2.2.getD ep.1.toNat 0)
def Good (e : Tr) : Prop := 0 ≤ e.1 ∧ e.2.2.length ≤ 1000
def GoodT (v : V) (H : Hp) : Prop := ∃ e, Good e ∧ Trip H v e
theorem GoodT.tk {v : V} {H H' : Hp} (h : GoodT v H) (k : TK H H') : GoodT v H' := by
  obtain ⟨e, g, t⟩ := h
  exact ⟨e, g, t.tk k⟩
theorem sch_of {H : Hp} {a : Addr} : ∀ {vs : List V}, (∀ v ∈ vs, GoodT v H) → ∃ S : List Tr, S.length = vs.length ∧ (∀ e ∈ S, Good e) ∧ ∀ (i : Nat) (e : Tr), S[i]? = some e → ∃ v, vs[i]? = some v ∧ Trip H v e
  | [], _ => ⟨[], rfl, (fun e h => by cases h), (fun i e h => by simp at h)⟩
  | v :: r, h => by
    obtain ⟨S, h1, h2, h3⟩ := sch_of (a := a) (vs := r) fun u hu => h u (List.mem_cons_of_mem _ hu)
    obtain ⟨e, g, t⟩ := h v List.mem_cons_self
    refine ⟨e :: S, by rw [List.length_cons, List.length_cons, h1], fun x hx => ?_, fun i x hx => ?_⟩
    · rcases List.mem_cons.mp hx with rfl | hx
      · exact g
      · exact h2 x hx
    · cases i with
      | zero =>
        have q : e = x := Option.some.inj hx
        exact ⟨v, rfl, q ▸ t⟩
      | succ i => exact h3 i x hx
/-- a list of triples' addresses -/
structure ScL (H : Hp) (vs : List V) (S : List Tr) : Prop where
  len : vs.length = S.length
  item : ∀ (i : Nat) (e : Tr), S[i]? = some e → ∃ v, vs[i]? = some v ∧ Trip H v e
theorem ScL.nil {H : Hp} : ScL H [] [] := ⟨rfl, fun i e h => by simp at h⟩
theorem ScL.tk {H H' : Hp} {vs : List V} {S : List Tr} (h : ScL H vs S) (k : TK H H') : ScL H' vs S := ⟨h.len, fun i e he => by
  obtain ⟨v, hv, ht⟩ := h.item i e he
  exact ⟨v, hv, ht.tk k⟩⟩
theorem ScL.snoc {H : Hp} {vs : List V} {S : List Tr} {v : V} {e : Tr} (h : ScL H vs S) (t : Trip H v e) : ScL H (vs ++ [v]) (S ++ [e]) := by
  refine ⟨by rw [List.length_append, List.length_append, h.len]; rfl, fun i x hx => ?_⟩
  by_cases hi : i < S.length
  · rw [List.getElem?_append_left hi] at hx
    obtain ⟨u, hu, ht⟩ := h.item i x hx
    exact ⟨u, by rw [List.getElem?_append_left (by rw [h.len]; exact hi)]; exact hu, ht⟩
  · rw [List.getElem?_append_right (by omega)] at hx
    have q := (List.getElem?_eq_some_iff.mp hx).1
    rw [List.length_singleton] at q
    have e0 : i - S.length = 0 := by omega
    rw [e0] at hx
    have ex : e = x := Option.some.inj hx
    refine ⟨v, ?_, ex ▸ t⟩
    rw [List.getElem?_append_right (by rw [h.len]; omega), h.len, e0]
    rfl
theorem ScL.sch {H : Hp} {a : Addr} {vs : List V} {S : List Tr} (h : ScL H vs S) (ha : H a = some (.tup vs)) : SchAt H a S := ⟨vs, ha, h.len, h.item⟩
theorem ScL.rev {H : Hp} {vs : List V} {S : List Tr} (h : ScL H vs S) : ScL H vs.reverse S.reverse := by
  refine ⟨by rw [List.length_reverse, List.length_reverse, h.len], fun i e he => ?_⟩
  have il : i < S.length := by
    have q := (List.getElem?_eq_some_iff.mp he).1
    rw [List.length_reverse] at q
    exact q
  rw [List.getElem?_reverse il] at he
  obtain ⟨v, hv, ht⟩ := h.item _ _ he
  exact ⟨v, by rw [List.getElem?_reverse (by rw [h.len]; exact il), h.len]; exact hv, ht⟩
structure Top (K : PySem.W.Frag) (mg : Str → Option Value) where
  C_Book : Addr
  g_Book : mg "Book" = some (.ref C_Book)
  cl_Book : Cls K C_Book
  ty_Book : InsT K C_Book
  n_Book_parents : NoAttr K C_Book "parents"
  n_Book_bits : NoAttr K C_Book "bits"
  c_MOST_KINDS : ∃ t, mg "MOST_KINDS" = some (.int 400 t)
  c_MOST_PARENTS : ∃ t, mg "MOST_PARENTS" = some (.int 6 t)
  f_is_integer : Addr
  fd_is_integer : FuncData
  F_is_integer : Fun K "is_integer" "is_integer" s_is_integer f_is_integer fd_is_integer
  b_is_integer : Binds K fd_is_integer ["thing"] []
  g_is_integer : mg "is_integer" = some (.ref f_is_integer)
  f_is_within : Addr
  fd_is_within : FuncData
  F_is_within : Fun K "is_within" "is_within" s_is_within f_is_within fd_is_within
  b_is_within : Binds K fd_is_within ["thing", "least", "most"] []
  g_is_within : mg "is_within" = some (.ref f_is_within)
  f_is_triple : Addr
  fd_is_triple : FuncData
  F_is_triple : Fun K "is_triple" "is_triple" s_is_triple f_is_triple fd_is_triple
  b_is_triple : Binds K fd_is_triple ["thing"] []
  g_is_triple : mg "is_triple" = some (.ref f_is_triple)
  f_is_lot : Addr
  fd_is_lot : FuncData
  F_is_lot : Fun K "is_lot" "is_lot" s_is_lot f_is_lot fd_is_lot
  b_is_lot : Binds K fd_is_lot ["thing", "many"] []
  g_is_lot : mg "is_lot" = some (.ref f_is_lot)
  f_are_parents : Addr
  fd_are_parents : FuncData
  F_are_parents : Fun K "are_parents" "are_parents" s_are_parents f_are_parents fd_are_parents
  b_are_parents : Binds K fd_are_parents ["thing", "number"] []
  g_are_parents : mg "are_parents" = some (.ref f_are_parents)
  f_Book_fill : Addr
  fd_Book_fill : FuncData
  F_Book_fill : Fun K "fill" "Book.fill" s_Book_fill f_Book_fill fd_Book_fill
  b_Book_fill : Binds K fd_Book_fill ["self", "parents"] []
  m_Book_fill : Meth K C_Book "fill" f_Book_fill
  f_Book___init__ : Addr
  fd_Book___init__ : FuncData
  F_Book___init__ : Fun K "__init__" "Book.__init__" s_Book___init__ f_Book___init__ fd_Book___init__
  b_Book___init__ : Binds K fd_Book___init__ ["self", "parents"] []
  m_Book___init__ : Meth K C_Book "__init__" f_Book___init__
  M_Book : Mk K C_Book f_Book___init__
  f_many_of : Addr
  fd_many_of : FuncData
  F_many_of : Fun K "many_of" "many_of" s_many_of f_many_of fd_many_of
  b_many_of : Binds K fd_many_of ["book"] []
  g_many_of : mg "many_of" = some (.ref f_many_of)
  f_is_one : Addr
  fd_is_one : FuncData
  F_is_one : Fun K "is_one" "is_one" s_is_one f_is_one fd_is_one
  b_is_one : Binds K fd_is_one ["book", "x", "p"] []
  g_is_one : mg "is_one" = some (.ref f_is_one)
  f_all_kinds : Addr
  fd_all_kinds : FuncData
  F_all_kinds : Fun K "all_kinds" "all_kinds" s_all_kinds f_all_kinds fd_all_kinds
  b_all_kinds : Binds K fd_all_kinds ["book"] []
  g_all_kinds : mg "all_kinds" = some (.ref f_all_kinds)
  f_is_row : Addr
  fd_is_row : FuncData
  F_is_row : Fun K "is_row" "is_row" s_is_row f_is_row fd_is_row
  b_is_row : Binds K fd_is_row ["book", "thing"] []
  g_is_row : mg "is_row" = some (.ref f_is_row)
  f_is_dealing : Addr
  fd_is_dealing : FuncData
  F_is_dealing : Fun K "is_dealing" "is_dealing" s_is_dealing f_is_dealing fd_is_dealing
  b_is_dealing : Binds K fd_is_dealing ["book", "thing"] []
  g_is_dealing : mg "is_dealing" = some (.ref f_is_dealing)
  f_is_given : Addr
  fd_is_given : FuncData
  F_is_given : Fun K "is_given" "is_given" s_is_given f_is_given fd_is_given
  b_is_given : Binds K fd_is_given ["thing"] []
  g_is_given : mg "is_given" = some (.ref f_is_given)
  f_has_form : Addr
  fd_has_form : FuncData
  F_has_form : Fun K "has_form" "has_form" s_has_form f_has_form fd_has_form
  b_has_form : Binds K fd_has_form ["thing"] []
  g_has_form : mg "has_form" = some (.ref f_has_form)
  f_check_scheme : Addr
  fd_check_scheme : FuncData
  F_check_scheme : Fun K "check_scheme" "check_scheme" s_check_scheme f_check_scheme fd_check_scheme
  b_check_scheme : Binds K fd_check_scheme ["thing"] []
  g_check_scheme : mg "check_scheme" = some (.ref f_check_scheme)
  f_told : Addr
  fd_told : FuncData
  F_told : Fun K "told" "told" s_told f_told fd_told
  b_told : Binds K fd_told ["scheme", "x", "p"] []
  g_told : mg "told" = some (.ref f_told)
  f_wrong_pair : Addr
  fd_wrong_pair : FuncData
  F_wrong_pair : Fun K "wrong_pair" "wrong_pair" s_wrong_pair f_wrong_pair fd_wrong_pair
  b_wrong_pair : Binds K fd_wrong_pair ["book", "scheme"] []
  g_wrong_pair : mg "wrong_pair" = some (.ref f_wrong_pair)
  f_is_scheme : Addr
  fd_is_scheme : FuncData
  F_is_scheme : Fun K "is_scheme" "is_scheme" s_is_scheme f_is_scheme fd_is_scheme
  b_is_scheme : Binds K fd_is_scheme ["book", "thing"] []
  g_is_scheme : mg "is_scheme" = some (.ref f_is_scheme)
  f_first_wrong : Addr
  fd_first_wrong : FuncData
  F_first_wrong : Fun K "first_wrong" "first_wrong" s_first_wrong f_first_wrong fd_first_wrong
  b_first_wrong : Binds K fd_first_wrong ["book", "scheme"] []
  g_first_wrong : mg "first_wrong" = some (.ref f_first_wrong)
  f_slots_of : Addr
  fd_slots_of : FuncData
  F_slots_of : Fun K "slots_of" "slots_of" s_slots_of f_slots_of fd_slots_of
  b_slots_of : Binds K fd_slots_of ["scheme"] []
  g_slots_of : mg "slots_of" = some (.ref f_slots_of)
  f_many_slots : Addr
  fd_many_slots : FuncData
  F_many_slots : Fun K "many_slots" "many_slots" s_many_slots f_many_slots fd_many_slots
  b_many_slots : Binds K fd_many_slots ["scheme"] []
  g_many_slots : mg "many_slots" = some (.ref f_many_slots)
  f_scheme_of : Addr
  fd_scheme_of : FuncData
  F_scheme_of : Fun K "scheme_of" "scheme_of" s_scheme_of f_scheme_of fd_scheme_of
  b_scheme_of : Binds K fd_scheme_of ["book", "dealing"] []
  g_scheme_of : mg "scheme_of" = some (.ref f_scheme_of)
  f__law_tape : Addr
  fd__law_tape : FuncData
  F__law_tape : Fun K "_law_tape" "_law_tape" s__law_tape f__law_tape fd__law_tape
  b__law_tape : Binds K fd__law_tape ["_law_script"] []
  g__law_tape : mg "_law_tape" = some (.ref f__law_tape)
  f__law_pick : Addr
  fd__law_pick : FuncData
  F__law_pick : Fun K "_law_pick" "_law_pick" s__law_pick f__law_pick fd__law_pick
  b__law_pick : Binds K fd__law_pick ["_law_tape_here", "_law_many"] []
  g__law_pick : mg "_law_pick" = some (.ref f__law_pick)
  f__law_great : Addr
  fd__law_great : FuncData
  F__law_great : Fun K "_law_great" "_law_great" s__law_great f__law_great fd__law_great
  b__law_great : Binds K fd__law_great ["_law_tape_here"] []
  g__law_great : mg "_law_great" = some (.ref f__law_great)
  f__law_parents : Addr
  fd__law_parents : FuncData
  F__law_parents : Fun K "_law_parents" "_law_parents" s__law_parents f__law_parents fd__law_parents
  b__law_parents : Binds K fd__law_parents ["_law_tape_here", "_law_number", "_law_kind"] []
  g__law_parents : mg "_law_parents" = some (.ref f__law_parents)
  f__law_rows : Addr
  fd__law_rows : FuncData
  F__law_rows : Fun K "_law_rows" "_law_rows" s__law_rows f__law_rows fd__law_rows
  b__law_rows : Binds K fd__law_rows ["_law_tape_here", "_law_many"] []
  g__law_rows : mg "_law_rows" = some (.ref f__law_rows)
  f__law_above : Addr
  fd__law_above : FuncData
  F__law_above : Fun K "_law_above" "_law_above" s__law_above f__law_above fd__law_above
  b__law_above : Binds K fd__law_above ["_law_rows_here"] []
  g__law_above : mg "_law_above" = some (.ref f__law_above)
  f__law_lines : Addr
  fd__law_lines : FuncData
  F__law_lines : Fun K "_law_lines" "_law_lines" s__law_lines f__law_lines fd__law_lines
  b__law_lines : Binds K fd__law_lines ["_law_tape_here", "_law_above_here"] []
  g__law_lines : mg "_law_lines" = some (.ref f__law_lines)
  f__law_numbers : Addr
  fd__law_numbers : FuncData
  F__law_numbers : Fun K "_law_numbers" "_law_numbers" s__law_numbers f__law_numbers fd__law_numbers
  b__law_numbers : Binds K fd__law_numbers ["_law_tape_here", "_law_lines_here", "_law_many"] []
  g__law_numbers : mg "_law_numbers" = some (.ref f__law_numbers)
  f__law_entry : Addr
  fd__law_entry : FuncData
  F__law_entry : Fun K "_law_entry" "_law_entry" s__law_entry f__law_entry fd__law_entry
  b__law_entry : Binds K fd__law_entry ["_law_tape_here", "_law_line", "_law_numbers_here", "_law_flags"] []
  g__law_entry : mg "_law_entry" = some (.ref f__law_entry)
  f__law_right : Addr
  fd__law_right : FuncData
  F__law_right : Fun K "_law_right" "_law_right" s__law_right f__law_right fd__law_right
  b__law_right : Binds K fd__law_right ["_law_tape_here", "_law_above_here", "_law_lines_here"] []
  g__law_right : mg "_law_right" = some (.ref f__law_right)
  f__law_says : Addr
  fd__law_says : FuncData
  F__law_says : Fun K "_law_says" "_law_says" s__law_says f__law_says fd__law_says
  b__law_says : Binds K fd__law_says ["_law_scheme", "_law_x", "_law_p"] []
  g__law_says : mg "_law_says" = some (.ref f__law_says)
  f__law_first : Addr
  fd__law_first : FuncData
  F__law_first : Fun K "_law_first" "_law_first" s__law_first f__law_first fd__law_first
  b__law_first : Binds K fd__law_first ["_law_scheme", "_law_above_here"] []
  g__law_first : mg "_law_first" = some (.ref f__law_first)
  f__law_same_pair : Addr
  fd__law_same_pair : FuncData
  F__law_same_pair : Fun K "_law_same_pair" "_law_same_pair" s__law_same_pair f__law_same_pair fd__law_same_pair
  b__law_same_pair : Binds K fd__law_same_pair ["_law_told", "_law_due"] []
  g__law_same_pair : mg "_law_same_pair" = some (.ref f__law_same_pair)
  f__law_pairs : Addr
  fd__law_pairs : FuncData
  F__law_pairs : Fun K "_law_pairs" "_law_pairs" s__law_pairs f__law_pairs fd__law_pairs
  b__law_pairs : Binds K fd__law_pairs ["_law_above_here"] []
  g__law_pairs : mg "_law_pairs" = some (.ref f__law_pairs)
  f__law_lot : Addr
  fd__law_lot : FuncData
  F__law_lot : Fun K "_law_lot" "_law_lot" s__law_lot f__law_lot fd__law_lot
  b__law_lot : Binds K fd__law_lot ["_law_tape_here", "_law_above_here", "_law_pair"] []
  g__law_lot : mg "_law_lot" = some (.ref f__law_lot)
  f__law_near : Addr
  fd__law_near : FuncData
  F__law_near : Fun K "_law_near" "_law_near" s__law_near f__law_near fd__law_near
  b__law_near : Binds K fd__law_near ["_law_tape_here", "_law_one", "_law_other"] []
  g__law_near : mg "_law_near" = some (.ref f__law_near)
  f__law_forced : Addr
  fd__law_forced : FuncData
  F__law_forced : Fun K "_law_forced" "_law_forced" s__law_forced f__law_forced fd__law_forced
  b__law_forced : Binds K fd__law_forced ["_law_tape_here", "_law_above_here", "_law_pair"] []
  g__law_forced : mg "_law_forced" = some (.ref f__law_forced)
  f__law_few : Addr
  fd__law_few : FuncData
  F__law_few : Fun K "_law_few" "_law_few" s__law_few f__law_few fd__law_few
  b__law_few : Binds K fd__law_few ["_law_tape_here", "_law_above_here", "_law_lot_here"] []
  g__law_few : mg "_law_few" = some (.ref f__law_few)
  f__law_is_wrong : Addr
  fd__law_is_wrong : FuncData
  F__law_is_wrong : Fun K "_law_is_wrong" "_law_is_wrong" s__law_is_wrong f__law_is_wrong fd__law_is_wrong
  b__law_is_wrong : Binds K fd__law_is_wrong ["_law_book", "_law_above_here", "_law_scheme"] []
  g__law_is_wrong : mg "_law_is_wrong" = some (.ref f__law_is_wrong)
  f_law : Addr
  fd_law : FuncData
  F_law : Fun K "law" "law" s_law f_law fd_law
  b_law : Binds K fd_law ["_law_script"] []
  g_law : mg "law" = some (.ref f_law)
  z_abs : mg "abs" = none
  z_all : mg "all" = none
  z_any : mg "any" = none
  z_bool : mg "bool" = none
  z_enumerate : mg "enumerate" = none
  z_int : mg "int" = none
  z_isinstance : mg "isinstance" = none
  z_len : mg "len" = none
  z_list : mg "list" = none
  z_max : mg "max" = none
  z_range : mg "range" = none
  z_set : mg "set" = none
  z_sorted : mg "sorted" = none
  z_tuple : mg "tuple" = none
  z_zip : mg "zip" = none
section
variable {P : Program} {w : World} {K : PySem.W.Frag} {mg : Str → Option Value} {base : Heap}
/-! is_integer -/
def sp_is_integer (K : PySem.W.Frag) : Sp := fun vs H Q _ => ∃ v, vs = [v] ∧ IntK K H v ∧ Q (.bl (isIntB v)) H
theorem sc_is_integer : FnScope ["thing"] ["thing"] (defScope s_is_integer) := ⟨rfl, rfl, rfl, by decide +kernel, rfl, by decide +kernel, by decide +kernel⟩
theorem ok_is_integer (T : Top K mg) : FnOk P w K mg base CX0 1 T.f_is_integer T.fd_is_integer ["thing"] (sp_is_integer K) := by
  refine T.F_is_integer.ok sc_is_integer (fun vs H Q E h => ?_) (fun cdv A outer s H vs Q E hr h => ?_)
  · obtain ⟨v, rfl, _⟩ := h
    rfl
  · obtain ⟨v, rfl, ⟨t, bi, bb, ht, hi, hb, e⟩, k⟩ := h
    refine ⟨_, (pss_one (ps_ret (pe_and (pe_callB (r := rIsi K) (id := "isinstance") call_isi (by rfl) T.z_isinstance (by decide +kernel) (pa_cons (pv 0) (pa_cons (pe_bltn (v := .ty "int") (u := .type "int") (by rfl) T.z_int (by decide +kernel) rfl) pa_nil))) (pe_one (pe_not (pe_callB (r := rIsi K) (id := "isinstance") call_isi (by rfl) T.z_isinstance (by decide +kernel) (pa_cons (pv 0) (pa_cons (pe_bltn (v := .ty "bool") (u := .type "bool") (by rfl) T.z_bool (by decide +kernel) rfl) pa_nil)))))))), ?_⟩
    tm_at "w"
    cases bi with
    | false =>
      rw [← e] at k
      tm_at "w"
      exact k
    | true =>
      rw [← e] at k
      tm_at "w"
      exact k
/-! is_within -/
def sp_is_within (K : PySem.W.Frag) : Sp := fun vs H Q _ => ∃ (v : V) (lo hi : Int), vs = [v, .int lo, .int hi] ∧ IntK K H v ∧ Q (.bl (withinB v lo hi)) H
theorem sc_is_within : FnScope ["thing", "least", "most"] ["thing", "least", "most"] (defScope s_is_within) := ⟨rfl, rfl, rfl, by decide +kernel, rfl, by decide +kernel, by decide +kernel⟩
theorem ok_is_within (T : Top K mg) : FnOk P w K mg base CX0 2 T.f_is_within T.fd_is_within ["thing", "least", "most"] (sp_is_within K) := by
  have G_is_integer := ok_is_integer (P := P) (w := w) (base := base) T
  refine T.F_is_within.ok sc_is_within (fun vs H Q E h => ?_) (fun cdv A outer s H vs Q E hr h => ?_)
  · obtain ⟨v, lo, hi, rfl, _⟩ := h
    rfl
  · obtain ⟨v, lo, hi, rfl, hk, k⟩ := h
    refine ⟨_, (pss_one (ps_ret (pe_and (pe_call G_is_integer hr (by rfl) T.g_is_integer T.F_is_integer.kp T.b_is_integer .nil pass0 (pa_cons (pv 0) pa_nil)) (pe_one (pe_chain op_le op_le (pv 1) (pv 0) (pv 2)))))), ?_⟩
    refine ⟨v, rfl, v, rfl, hk, _, rfl, ?_⟩
    cases v with
    | int i =>
      refine iteT ?_
      tm_at "w"
      refine iteD (fun h1 => ?_) (fun h1 => ?_)
      · tm_at "w"
        have e : withinB (.int i) lo hi = decide (i ≤ hi) := by
          show (decide (lo ≤ i) && decide (i ≤ hi)) = _
          rw [decide_eq_true h1, Bool.true_and]
        rw [e] at k
        exact k
      · have e : withinB (.int i) lo hi = false := by
          show (decide (lo ≤ i) && decide (i ≤ hi)) = _
          rw [decide_eq_false h1, Bool.false_and]
        rw [e] at k
        exact k
    | _ =>
      refine iteF ?_
      exact k
/-! is_triple -/
def sp_is_triple (K : PySem.W.Frag) : Sp := fun vs H Q _ => ∃ (p : Addr) (xs : List V), vs = [.ref p] ∧ H p = some (.tup xs) ∧ Q (.bl (decide (xs.length = 3))) H
theorem sc_is_triple : FnScope ["thing"] ["thing"] (defScope s_is_triple) := ⟨rfl, rfl, rfl, by decide +kernel, rfl, by decide +kernel, by decide +kernel⟩
theorem ok_is_triple (T : Top K mg) : FnOk P w K mg base CX0 1 T.f_is_triple T.fd_is_triple ["thing"] (sp_is_triple K) := by
  refine T.F_is_triple.ok sc_is_triple (fun vs H Q E h => ?_) (fun cdv A outer s H vs Q E hr h => ?_)
  · obtain ⟨p, xs, rfl, _⟩ := h
    rfl
  · obtain ⟨p, xs, rfl, hp, k⟩ := h
    refine ⟨_, (pss_one (ps_ret (pe_and (pe_callB (r := rIsi K) (id := "isinstance") call_isi (by rfl) T.z_isinstance (by decide +kernel) (pa_cons (pv 0) (pa_cons (pe_bltn (v := .ty "tuple") (u := .type "tuple") (by rfl) T.z_tuple (by decide +kernel) rfl) pa_nil))) (pe_one (pe_cmpR op_eq (pe_callB (r := rLenQ K) (id := "len") call_len_seq (by rfl) T.z_len (by decide +kernel) (pa_cons (pv 0) pa_nil)) pe_int (nomark _)))))), ?_⟩
    have ht := ty_tup (K := K) hp
    have h2 := tup_tup (K := K)
    tm_at "w"
    show Q (.bl (decide (V.int (xs.length : Int) = V.int ((3 : Nat) : Int)))) H
    rw [dec_nat]
    exact k
/-! is_lot -/
/-- an ascending run of whole numbers above last, below m -/
def lotFrom (m : Int) : Int → List V → Bool
  | _, [] => true
  | last, x :: r => withinB x (last + 1) (m - 1) && lotFrom m (match x with | .int i => i | _ => 0) r
def sp_is_lot (K : PySem.W.Frag) : Sp := fun vs H Q _ => ∃ (v : V) (t : Value) (bt : Bool) (m : Int), vs = [v, .int m] ∧ TyX K H v t ∧ PySem.W.kitOne K t (.type "tuple") = some bt ∧
  ((bt = false ∧ Q (.bl false) H) ∨ ∃ (a : Addr) (xs : List V), v = .ref a ∧ H a = some (.tup xs) ∧ bt = true ∧ (∀ x ∈ xs, IntK K H x) ∧ Q (.bl (lotFrom m (-1) xs)) H)
theorem sc_is_lot : FnScope ["thing", "many", "last", "item"] ["thing", "many"] (defScope s_is_lot) := ⟨rfl, rfl, rfl, by decide +kernel, rfl, by decide +kernel, by decide +kernel⟩
theorem ok_is_lot (T : Top K mg) : FnOk P w K mg base CX0 3 T.f_is_lot T.fd_is_lot ["thing", "many"] (sp_is_lot K) := by
  have G_is_within := ok_is_within (P := P) (w := w) (base := base) T
  refine T.F_is_lot.ok sc_is_lot (fun vs H Q E h => ?_) (fun cdv A outer s H vs Q E hr h => ?_)
  · obtain ⟨v, t, bt, m, rfl, _⟩ := h
    rfl
  · obtain ⟨v, t, bt, m, rfl, ht, hb, hh⟩ := h
    refine ⟨_, (pss_cons (ps_if (pt_not (pt_val (pe_callB (r := rIsi K) (id := "isinstance") call_isi (by rfl) T.z_isinstance (by decide +kernel) (pa_cons (pv 0) (pa_cons (pe_bltn (v := .ty "tuple") (u := .type "tuple") (by rfl) T.z_tuple (by decide +kernel) rfl) pa_nil))))) (pss_one (ps_ret pe_bl)) pss_nil)
      (pss_cons (ps_set (i := 2) sc_is_lot.nd rfl (Or.inl rfl) (pe_un un_neg pe_int))
      (pss_cons (ps_for PassesOwn.never rfl (pi_tup (pv 0)) (pg_name (i := 3) sc_is_lot.nd rfl (Or.inl rfl))
      (pss_cons (ps_if (pt_not (pt_val (pe_call G_is_within hr (by rfl) T.g_is_within T.F_is_within.kp T.b_is_within .nil pass0 (pa_cons (pv 3) (pa_cons (pe_op op_add (pv 2) pe_int) (pa_cons (pe_op op_sub (pv 1) pe_int) pa_nil)))))) (pss_one (ps_ret pe_bl)) pss_nil)
      (pss_one (ps_set (i := 2) sc_is_lot.nd rfl (Or.inl rfl) (pv 3)))))
      (pss_one (ps_ret pe_bl))))), ?_⟩
    tm_at "w"
    rcases hh with ⟨rfl, k⟩ | ⟨a, xs, rfl, ha, rfl, hi, k⟩
    · tm_at "w"
      exact k
    · tm_at "w"
      refine ⟨⟨_, SqT.of ha⟩, for_tup (K := K) (a := a) (xs := xs) (fun i σ H' => ∃ (last : Int) (x : Option V), σ = [some (.ref a), some (.int m), some (.int last), x] ∧ H' = H ∧ lotFrom m last (xs.drop i) = lotFrom m (-1) xs) ?_ ?_ ?_ ?_⟩
      · exact ⟨-1, none, rfl, rfl, rfl⟩
      · rintro i σ H' _ ⟨_, _, _, rfl, _⟩
        exact SqT.of ha
      · rintro i x σ H' hx ⟨last, y, rfl, rfl, e⟩
        have il := (List.getElem?_eq_some_iff.mp hx).1
        have hd : xs.drop i = x :: xs.drop (i + 1) := by
          rw [List.drop_eq_getElem_cons il]
          rw [List.getElem?_eq_getElem il] at hx
          rw [Option.some.inj hx]
        rw [hd] at e
        tm_at "w"
        refine ⟨_, _, _, rfl, hi x (List.mem_of_getElem? hx), ?_⟩
        tm_at "w"
        refine iteB (fun h => ?_) (fun h => ?_)
        · have h2 : withinB x (last + 1) (m - 1) = false := by simpa using h
          have e2 : lotFrom m (-1) xs = false := by
            rw [← e]
            show (withinB x (last + 1) (m - 1) && _) = false
            rw [h2]
            rfl
          rw [e2] at k
          tm_at "w"
          exact k
        · have h2 : withinB x (last + 1) (m - 1) = true := by simpa using h
          cases x with
          | int z =>
            tm_at "w"
            rw [← e]
            show _ = (withinB (.int z) (last + 1) (m - 1) && lotFrom m z (xs.drop (i + 1)))
            rw [h2, Bool.true_and]
          | _ => cases h2
      · rintro σ H' ⟨last, y, rfl, rfl, e⟩
        rw [List.drop_length] at e
        rw [← e] at k
        tm_at "w"
        exact k
/-! are_parents -/
def sp_are_parents (K : PySem.W.Frag) : Sp := fun vs H Q _ => ∃ (v : V) (t : Value) (bt : Bool) (m : Int), vs = [v, .int m] ∧ TyX K H v t ∧ PySem.W.kitOne K t (.type "tuple") = some bt ∧
  ((bt = false ∧ Q (.bl false) H) ∨ ∃ (a : Addr) (xs : List V), v = .ref a ∧ H a = some (.tup xs) ∧ bt = true ∧ (∀ x ∈ xs, IntK K H x) ∧ Q (.bl (lotFrom m (-1) xs && decide (xs.length ≤ 6))) H)
theorem sc_are_parents : FnScope ["thing", "number"] ["thing", "number"] (defScope s_are_parents) := ⟨rfl, rfl, rfl, by decide +kernel, rfl, by decide +kernel, by decide +kernel⟩
theorem ok_are_parents (T : Top K mg) : FnOk P w K mg base CX0 4 T.f_are_parents T.fd_are_parents ["thing", "number"] (sp_are_parents K) := by
  have G_is_lot := ok_is_lot (P := P) (w := w) (base := base) T
  refine T.F_are_parents.ok sc_are_parents (fun vs H Q E h => ?_) (fun cdv A outer s H vs Q E hr h => ?_)
  · obtain ⟨v, t, bt, m, rfl, _⟩ := h
    rfl
  · obtain ⟨v, t, bt, m, rfl, ht, hb, hh⟩ := h
    refine ⟨_, (pss_one (ps_ret (pe_and (pe_call G_is_lot hr (by rfl) T.g_is_lot T.F_is_lot.kp T.b_is_lot .nil pass0 (pa_cons (pv 0) (pa_cons (pv 1) pa_nil))) (pe_one (pe_cmpR op_le (pe_callB (r := rLenQ K) (id := "len") call_len_seq (by rfl) T.z_len (by decide +kernel) (pa_cons (pv 0) pa_nil)) (pe_glob (v := .int 6) (by rfl) T.c_MOST_PARENTS.choose_spec ⟨_, rfl⟩) (nomark _)))))), ?_⟩
    tm_at "w"
    rcases hh with ⟨rfl, k⟩ | ⟨a, xs, rfl, ha, rfl, hi, k⟩
    · exact ⟨v, t, false, m, rfl, ht, hb, .inl ⟨rfl, false, rfl, iteF k⟩⟩
    · refine ⟨_, t, true, m, rfl, ht, hb, .inr ⟨a, xs, rfl, ha, rfl, hi, _, rfl, ?_⟩⟩
      refine iteB (fun h => ?_) (fun h => ?_)
      · tm_at "w"
        rw [h, Bool.true_and] at k
        have e : decide ((xs.length : Int) ≤ 6) = decide (xs.length ≤ 6) := decide_eq_decide.mpr (by omega)
        rw [← e] at k
        exact k
      · rw [h] at k
        exact k
/-! Book.fill -/
theorem bitOr_nat (a b : Nat) : Builtin.bitOr (a : Int) (b : Int) = ((a ||| b : Nat) : Int) := by
  rw [Bits.bitOr_pp (by omega) (by omega), Int.toNat_natCast, Int.toNat_natCast]
def sp_Book_fill (C : Addr) (K : PySem.W.Frag) : Sp := fun vs H Q _ => ∃ (b dx pa : Addr) (fs : List (Str × V)) (P : List (List Nat)), vs = [.ref b, .ref pa] ∧ H b = some (.ins C dx fs) ∧ BkFs fs ∧ ParAt H pa P ∧ RtP P ∧ P.length ≤ 1000 ∧
  ∀ lb H', But b H H' → H lb = none → BookAt C H' ⟨b, dx, pa, lb⟩ P → Q .non H'
theorem sc_Book_fill : FnScope ["self", "parents", "number", "item", "found", "parent"] ["self", "parents"] (defScope s_Book_fill) := ⟨rfl, rfl, rfl, by decide +kernel, rfl, by decide +kernel, by decide +kernel⟩
theorem ok_Book_fill (T : Top K mg) : FnOk P w K mg base CX0 1 T.f_Book_fill T.fd_Book_fill ["self", "parents"] (sp_Book_fill T.C_Book K) := by
  refine T.F_Book_fill.ok sc_Book_fill (fun vs H Q E h => ?_) (fun cdv A outer s H vs Q E hr h => ?_)
  · obtain ⟨b, dx, pa, fs, P, rfl, _⟩ := h
    rfl
  · obtain ⟨b, dx, pa, fs, P, rfl, hb, hf, hP, hR, hn, k⟩ := h
    refine ⟨_, (pss_cons (ps_fld (pv 0) (pv 1) rfl)
      (pss_cons (ps_fld (pv 0) (pe_lst pa_nil) rfl)
      (pss_one (ps_for PassesOwn.never rfl (pi_enumT (by rfl) T.z_enumerate (pa_cons (pv 1) pa_nil)) (pg_tup rfl (pgs_cons (pg_name (i := 2) sc_Book_fill.nd rfl (Or.inl rfl)) (pgs_cons (pg_name (i := 3) sc_Book_fill.nd rfl (Or.inl rfl)) pgs_nil)))
      (pss_cons (ps_set (i := 4) sc_Book_fill.nd rfl (Or.inl rfl) (pe_op op_shl pe_int (pv 2)))
      (pss_cons (ps_for PassesOwn.never rfl (pi_tup (pv 3)) (pg_name (i := 5) sc_Book_fill.nd rfl (Or.inl rfl))
      (pss_one (ps_aug (i := 4) sc_Book_fill.nd rfl (Or.inl rfl) (pe_ix (r := rIxL K) ix_list (pe_fld (pv 0) rfl) (pv 5) (fun _ _ => rfl)) ip_or)))
      (pss_one (ps_expr (pe_bm PySem.F.plainAttrs_list PySem.F.slot_list_append PySem.F.type_list_append mt_append (pe_fld (pv 0) rfl) (pa_cons (pv 4) pa_nil)))))))))), ?_⟩
    have cB := T.cl_Book
    have nB1 := T.n_Book_parents
    have nB2 := T.n_Book_bits
    have hlp := BkFs.len1 hf pa
    have wb : ∀ l, H l = none → b ≠ l := fun l e => ne_of_none hb e
    obtain ⟨vsP, hpa, hlen, hit⟩ := id hP
    have nap : ∀ a xs, H a = some (.tup xs) → a ≠ b := fun a xs e z => by rw [z, hb] at e; cases e
    refine ⟨_, rfl, _, rfl, b, T.C_Book, dx, fs, rfl, hb, T.cl_Book, T.n_Book_parents, Nat.lt_trans (m := 500) hf.len (by decide), ?_⟩
    tm_at "w"
    intro lb nlb0
    have nlb : H lb = none := by
      by_cases z : lb = b
      · rw [z, upd_same] at nlb0
        cases nlb0
      · rw [upd_ne z] at nlb0
        exact nlb0
    have nbl : b ≠ lb := wb lb nlb
    refine ⟨_, rfl, b, T.C_Book, dx, _, rfl, (upd_ne nbl).trans upd_same, T.cl_Book, T.n_Book_bits, hlp, ?_⟩
    rw [hf.put pa lb]
    refine ⟨_, rfl, _, _, rfl, SqT.of (xs := vsP) ((upd_ne (nap _ _ hpa)).trans ((upd_ne (ne_of_none hpa nlb)).trans ((upd_ne (nap _ _ hpa)).trans hpa))), for_enumT (K := K) (a := pa) (xs := vsP) (fun i σ H' => ∃ x y z w, σ = [some (.ref b), some (.ref pa), x, y, z, w] ∧ But b H H' ∧ H' b = some (.ins T.C_Book dx (bkF pa lb)) ∧ H' lb = some (.lst (natsV (bitsOf (P.take i))))) ?_ ?_ ?_ ?_⟩
    · refine ⟨none, none, none, none, rfl, fun a o n e => ?_, upd_same, ?_⟩
      · exact (upd_ne n).trans ((upd_ne (ne_of_none e nlb)).trans ((upd_ne n).trans e))
      · exact (upd_ne nbl.symm).trans upd_same
    · rintro i σ H' ⟨_, _, _, _, rfl, bt, _⟩
      exact SqT.of (bt _ _ (nap _ _ hpa) hpa)
    · rintro i x t σ H' hx ⟨x0, y0, z0, w0, rfl, bt, h1, h2⟩ nt
      obtain ⟨ai, p, rfl, hp, hai⟩ := ParL.here ⟨hlen, hit⟩ hx
      have il := (List.getElem?_eq_some_iff.mp hp).1
      have wt : Nw H' t := ⟨nt⟩
      have hai' : H' ai = some (.tup (natsV p)) := bt _ _ (nap _ _ hai) hai
      tm_at "w"
      have hai2 : upd H' t (.tup [V.int (i : Int), V.ref ai]) ai = some (.tup (natsV p)) := by tm_at "hp"
      have hb2 : upd H' t (.tup [V.int (i : Int), V.ref ai]) b = some (.ins T.C_Book dx (bkF pa lb)) := by tm_at "hp"
      have hl2 : upd H' t (.tup [V.int (i : Int), V.ref ai]) lb = some (.lst (natsV (bitsOf (P.take i)))) := by tm_at "hp"
      have hbl : (bitsOf (P.take i)).length = i := by rw [bitsOf_len, List.length_take]; omega
      refine ⟨⟨_, SqT.of hai2⟩, for_tup (K := K) (a := ai) (xs := natsV p) (fun j σ H2 => ∃ z, σ = [some (.ref b), some (.ref pa), some (.int (i : Int)), some (.ref ai), some (.int (((p.take j).foldl (fun f q => f ||| (bitsOf (P.take i)).getD q 0) (2 ^ i) : Nat) : Int)), z] ∧ H2 = upd H' t (.tup [V.int (i : Int), V.ref ai])) ?_ ?_ ?_ ?_⟩
      · refine ⟨w0, ?_, rfl⟩
        show _ = [some (.ref b), some (.ref pa), some (.int (i : Int)), some (.ref ai), some (.int ((2 ^ i : Nat) : Int)), w0]
        have e : (1 : Int) * 2 ^ ((i : Int)).toNat = ((2 ^ i : Nat) : Int) := by rw [Int.one_mul, Int.toNat_natCast, Int.natCast_pow]; rfl
        rw [← e]
        rfl
      · rintro j σ H2 _ ⟨_, rfl, rfl⟩
        exact SqT.of hai2
      · rintro j y σ H2 hy ⟨z, rfl, rfl⟩
        obtain ⟨q, hq, rfl, _⟩ := natsV_here hy
        have ql : q < i := hR i p hp q (List.mem_of_getElem? hq)
        have hq2 : (natsV (bitsOf (P.take i)))[q]? = some (.int (((bitsOf (P.take i)).getD q 0 : Nat) : Int)) := by
          refine natsV_at ?_
          rw [List.getD_eq_getElem?_getD, List.getElem?_eq_getElem (by omega)]
          rfl
        tm_at "w"
        refine ⟨some (.int (q : Int)), ?_, rfl⟩
        show ([some (.ref b), some (.ref pa), some (.int (i : Int)), some (.ref ai), some (.int (Builtin.bitOr _ _)), some (.int (q : Int))] : L2.St) = _
        rw [bitOr_nat, List.take_add_one, hq, List.foldl_append]
        rfl
      · rintro σ H2 ⟨z, rfl, rfl⟩
        rw [natsV_len, List.take_length]
        tm_at "w"
        refine ⟨_, _, _, rfl, rfl, hl2, lt_line (by rw [natsV_len, hbl]; omega), ?_⟩
        have nlt : lb ≠ t := ne_of_none h2 nt
        refine ⟨_, _, _, _, rfl, fun a o n e => ?_, (upd_ne nbl).trans hb2, ?_⟩
        · have e2 := bt a o n e
          exact (upd_ne (ne_of_none e nlb)).trans ((upd_ne (ne_of_none e2 nt)).trans e2)
        · rw [upd_same, natsV_snoc, List.take_add_one, hp]
          show _ = some (HO.lst (natsV (bitsOf (P.take i ++ [p]))))
          rw [bitsOf_snoc, hbl]
          rfl
    · rintro σ H' ⟨x0, y0, z0, w0, rfl, bt, h1, h2⟩
      rw [hlen, List.take_length] at h2
      exact k lb H' bt nlb ⟨h1, ⟨vsP, bt _ _ (nap _ _ hpa) hpa, hlen, fun j p e => by
        obtain ⟨a, e1, e2⟩ := hit j p e
        exact ⟨a, e1, bt _ _ (nap _ _ e2) e2⟩⟩, h2⟩
/-! Book.__init__ -/
theorem lot_from {m : Int} : ∀ {q : List Nat} {last : Int}, q.Pairwise (· < ·) → (∀ x ∈ q, last < (x : Int) ∧ (x : Int) < m) → lotFrom m last (natsV q) = true
  | [], _, _, _ => rfl
  | x :: r, last, hp, hm => by
    obtain ⟨h1, h2⟩ := List.pairwise_cons.mp hp
    have hx := hm x List.mem_cons_self
    have ih := lot_from (m := m) (q := r) (last := (x : Int)) h2 fun y hy => ⟨by have := h1 y hy; omega, (hm y (List.mem_cons_of_mem _ hy)).2⟩
    show (withinB (.int (x : Int)) (last + 1) (m - 1) && lotFrom m (x : Int) (natsV r)) = true
    rw [ih]
    show ((decide (last + 1 ≤ (x : Int)) && decide ((x : Int) ≤ m - 1)) && true) = true
    rw [decide_eq_true (show last + 1 ≤ (x : Int) by omega), decide_eq_true (show (x : Int) ≤ m - 1 by omega)]
    rfl
theorem OkL.lot {q : List Nat} {m : Nat} (h : OkL q m) : (lotFrom (m : Int) (-1) (natsV q) && decide ((natsV q).length ≤ 6)) = true := by
  rw [lot_from h.asc fun x hx => ⟨by omega, by have := h.lt x hx; omega⟩, natsV_len, decide_eq_true h.few]
  rfl
def sp_Book___init__ (C : Addr) (K : PySem.W.Frag) : Sp := fun vs H Q _ => ∃ (b dx pa : Addr) (P : List (List Nat)), vs = [.ref b, .ref pa] ∧ H b = some (.ins C dx []) ∧ ParAt H pa P ∧ OkP P ∧
  ∀ lb H', But b H H' → H lb = none → BookAt C H' ⟨b, dx, pa, lb⟩ P → Q .non H'
theorem sc_Book___init__ : FnScope ["self", "parents", "number", "item"] ["self", "parents"] (defScope s_Book___init__) := ⟨rfl, rfl, rfl, by decide +kernel, rfl, by decide +kernel, by decide +kernel⟩
theorem ok_Book___init__ (T : Top K mg) : FnOk P w K mg base CX0 5 T.f_Book___init__ T.fd_Book___init__ ["self", "parents"] (sp_Book___init__ T.C_Book K) := by
  have G_Book_fill := ok_Book_fill (P := P) (w := w) (base := base) T
  have G_are_parents := ok_are_parents (P := P) (w := w) (base := base) T
  refine T.F_Book___init__.ok sc_Book___init__ (fun vs H Q E h => ?_) (fun cdv A outer s H vs Q E hr h => ?_)
  · obtain ⟨b, dx, pa, P, rfl, _⟩ := h
    rfl
  · obtain ⟨b, dx, pa, P, rfl, hb, hP, ok, k⟩ := h
    refine ⟨_, (pss_cons (ps_if (PW.pt (pw_or (pt_not (pt_val (pe_callB (r := rIsi K) (id := "isinstance") call_isi (by rfl) T.z_isinstance (by decide +kernel) (pa_cons (pv 1) (pa_cons (pe_bltn (v := .ty "tuple") (u := .type "tuple") (by rfl) T.z_tuple (by decide +kernel) rfl) pa_nil))))) (pw_or1 (pt_cmpR op_gt (pe_callB (r := rLenQ K) (id := "len") call_len_seq (by rfl) T.z_len (by decide +kernel) (pa_cons (pv 1) pa_nil)) (pe_glob (v := .int 400) (by rfl) T.c_MOST_KINDS.choose_spec ⟨_, rfl⟩) (nomark _))))) (pss_one ps_never) pss_nil)
      (pss_cons (ps_for PassesOwn.never rfl (pi_enumT (by rfl) T.z_enumerate (pa_cons (pv 1) pa_nil)) (pg_tup rfl (pgs_cons (pg_name (i := 2) sc_Book___init__.nd rfl (Or.inl rfl)) (pgs_cons (pg_name (i := 3) sc_Book___init__.nd rfl (Or.inl rfl)) pgs_nil)))
      (pss_one (ps_if (pt_not (pt_val (pe_call G_are_parents hr (by rfl) T.g_are_parents T.F_are_parents.kp T.b_are_parents .nil pass0 (pa_cons (pv 3) (pa_cons (pv 2) pa_nil))))) (pss_one ps_never) pss_nil)))
      (pss_one (ps_expr (pe_meth (pv 0) T.cl_Book T.m_Book_fill G_Book_fill (hr.mono (by decide)) T.b_Book_fill .nil pass0 (pa_cons (pv 1) pa_nil)))))), ?_⟩
    have cB := T.cl_Book
    have nB1 := T.n_Book_parents
    have nB2 := T.n_Book_bits
    obtain ⟨vsP, hpa, hlen, hit⟩ := id hP
    have few := ok.few
    have ty := ty_tup (K := K) hpa
    have tt := tup_tup (K := K)
    tm_at "w"
    refine ⟨_, _, rfl, SqT.of hpa, for_enumT (K := K) (a := pa) (xs := vsP) (fun i σ H' => ∃ x y, σ = [some (.ref b), some (.ref pa), x, y] ∧ Same H H') ?_ ?_ ?_ ?_⟩
    · exact ⟨none, none, rfl, Same.refl H⟩
    · rintro i σ H' ⟨_, _, rfl, s1⟩
      exact SqT.of (s1 _ _ hpa)
    · rintro i x t σ H' hx ⟨x0, y0, rfl, s1⟩ nt
      obtain ⟨ai, p, rfl, hp, hai⟩ := ParL.here ⟨hlen, hit⟩ hx
      have s2 : Same H (upd H' t (.tup [V.int (i : Int), V.ref ai])) := Same.new s1 nt
      have hai2 := s2 _ _ hai
      tm_at "w"
      refine ⟨_, _, true, _, rfl, ty_tup hai2, tup_tup, .inr ⟨ai, natsV p, rfl, hai2, rfl, natsV_int p, ?_⟩⟩
      rw [(ok.ok i p hp).lot]
      refine ⟨_, rfl, iteF ?_⟩
      exact ⟨_, _, rfl, s2⟩
    · rintro σ H' ⟨x0, y0, rfl, s1⟩
      tm_at "w"
      refine ⟨b, dx, [], rfl, s1 _ _ hb, rfl, ?_⟩
      tm_at "w"
      refine ⟨b, dx, pa, [], P, rfl, s1 _ _ hb, .inl rfl, hP.tk (Same.tk s1), ok.rt, by omega, fun lb H2 bt nl at' => ?_⟩
      tm_at "w"
      exact k lb H2 (But.same s1 bt) (Same.free s1 nl) at'
/-- the book that is made of parents -/
theorem mk_book {C : Addr} {K : PySem.W.Frag} {H : Hp} {pa : Addr} {P : List (List Nat)} {Q : Addr → Hp → Prop} {E : XK} (hP : ParAt H pa P) (ok : OkP P)
    (k : ∀ b H', Made C H H' b P → b.pa = pa → Q b.b H') : ∀ x dx, H x = none → H dx = none → dx ≠ x → sp_Book___init__ C K [.ref x, .ref pa] (upd (upd H dx (.own x)) x (.ins C dx [])) (fun v H2 => v = .non ∧ Q x H2) E := by
  intro x dx hx hd ne
  have s1 : Same H (upd (upd H dx (.own x)) x (.ins C dx [])) := Same.mut (Same.new (Same.refl H) hd) hx
  refine ⟨x, dx, pa, P, rfl, upd_same, hP.tk (Same.tk s1), ok, fun lb H' bt nl at' => ⟨rfl, ?_⟩⟩
  exact k ⟨x, dx, pa, lb⟩ H' ⟨But.new s1 hx bt, at', ⟨hx⟩, ⟨Same.free s1 nl⟩⟩ rfl
/-! many_of -/
def sp_many_of (C : Addr) (K : PySem.W.Frag) : Sp := fun vs H Q _ => ∃ (l : Bk) (P : List (List Nat)), vs = [.ref l.b] ∧ BookAt C H l P ∧ Q (.int (P.length : Nat)) H
theorem sc_many_of : FnScope ["book"] ["book"] (defScope s_many_of) := ⟨rfl, rfl, rfl, by decide +kernel, rfl, by decide +kernel, by decide +kernel⟩
theorem ok_many_of (T : Top K mg) : FnOk P w K mg base CX0 1 T.f_many_of T.fd_many_of ["book"] (sp_many_of T.C_Book K) := by
  refine T.F_many_of.ok sc_many_of (fun vs H Q E h => ?_) (fun cdv A outer s H vs Q E hr h => ?_)
  · obtain ⟨l, P, rfl, _⟩ := h
    rfl
  · obtain ⟨l, P, rfl, hl, k⟩ := h
    refine ⟨_, (pss_one (ps_ret (pe_callB (r := rLenQ K) (id := "len") call_len_seq (by rfl) T.z_len (by decide +kernel) (pa_cons (pe_fld (pv 0) rfl) pa_nil)))), ?_⟩
    have cB := T.cl_Book
    have nB1 := T.n_Book_parents
    have nB2 := T.n_Book_bits
    have hli := hl.ins
    obtain ⟨xs, hx, hxl⟩ := id hl.par
    rw [← hxl.1] at k
    tm_at "w"
    exact k
/-! is_one -/
theorem bit_val (b p : Nat) : Builtin.bitAnd ((b : Int) / 2 ^ ((p : Int)).toNat) 1 = if b.testBit p then 1 else 0 := by
  rw [PyProof.Rows.bitAnd_m1, Int.toNat_natCast]
  have e : ((b : Int) / 2 ^ p) % 2 = ((b / 2 ^ p % 2 : Nat) : Int) := by
    rw [Int.natCast_emod, Int.natCast_ediv, Int.natCast_pow]
    rfl
  rw [e, Nat.testBit_eq_decide_div_mod_eq]
  have h : b / 2 ^ p % 2 < 2 := Nat.mod_lt _ (by decide)
  by_cases h1 : b / 2 ^ p % 2 = 1
  · rw [h1]
    rfl
  · have h0 : b / 2 ^ p % 2 = 0 := by omega
    rw [h0]
    rfl
theorem bit_one (b p : Nat) : decide (V.int (Builtin.bitAnd ((b : Int) / 2 ^ ((p : Int)).toNat) 1) = V.int 1) = b.testBit p := by
  rw [bit_val]
  cases b.testBit p
  · exact decide_eq_false (by intro e; cases e)
  · exact decide_eq_true rfl
def sp_is_one (C : Addr) (K : PySem.W.Frag) : Sp := fun vs H Q _ => ∃ (l : Bk) (P : List (List Nat)) (x p : Nat), vs = [.ref l.b, .int x, .int p] ∧ BookAt C H l P ∧ x < P.length ∧ Q (.bl (isA P x p)) H
theorem sc_is_one : FnScope ["book", "x", "p"] ["book", "x", "p"] (defScope s_is_one) := ⟨rfl, rfl, rfl, by decide +kernel, rfl, by decide +kernel, by decide +kernel⟩
theorem ok_is_one (T : Top K mg) : FnOk P w K mg base CX0 1 T.f_is_one T.fd_is_one ["book", "x", "p"] (sp_is_one T.C_Book K) := by
  refine T.F_is_one.ok sc_is_one (fun vs H Q E h => ?_) (fun cdv A outer s H vs Q E hr h => ?_)
  · obtain ⟨l, P, x, p, rfl, _⟩ := h
    rfl
  · obtain ⟨l, P, x, p, rfl, hl, hx, k⟩ := h
    refine ⟨_, (pss_one (ps_ret (pe_cmpR op_eq (pe_op op_and (pe_op op_shr (pe_ix (r := rIxL K) ix_list (pe_fld (pv 0) rfl) (pv 1) (fun _ _ => rfl)) (pv 2)) pe_int) pe_int (nomark _)))), ?_⟩
    have cB := T.cl_Book
    have nB1 := T.n_Book_parents
    have nB2 := T.n_Book_bits
    have hli := hl.ins
    have hb : (bitsOf P)[x]? = some ((bitsOf P).getD x 0) := by
      rw [List.getD_eq_getElem?_getD, List.getElem?_eq_getElem (by rw [bitsOf_len]; exact hx)]
      rfl
    have hb2 := natsV_at hb
    have hbits := hl.bits
    tm_at "w"
    have e : isA P x p = decide (V.int (Builtin.bitAnd ((((bitsOf P).getD x 0 : Nat) : Int) / 2 ^ ((p : Int)).toNat) 1) = V.int 1) := (bit_one _ _).symm
    rw [e] at k
    exact k
/-! all_kinds -/
theorem rg_nats (m : Nat) : rgV 0 (m : Int) = natsV (List.range m) := by
  unfold rgV natsV
  rw [show ((m : Int) - 0).toNat = m by omega]
  refine List.map_congr_left fun i _ => ?_
  rw [Int.zero_add]
theorem rg_from (x : Nat) (n : Nat) : rgV ((x : Int) + 1) (n : Int) = natsV ((List.range (n - (x + 1))).map fun i => x + 1 + i) := by
  unfold rgV natsV
  rw [show ((n : Int) - ((x : Int) + 1)).toNat = n - (x + 1) by omega, List.map_map]
  refine List.map_congr_left fun i _ => ?_
  show V.int ((x : Int) + 1 + (i : Int)) = V.int ((x + 1 + i : Nat) : Int)
  congr 1
def sp_all_kinds (C : Addr) (K : PySem.W.Frag) : Sp := fun vs H Q _ => ∃ (l : Bk) (P : List (List Nat)), vs = [.ref l.b] ∧ BookAt C H l P ∧ P.length ≤ 1000 ∧ ∀ p H', Same H H' → H' p = some (.lst (natsV (List.range P.length))) → Q (.ref p) H'
theorem sc_all_kinds : FnScope ["book"] ["book"] (defScope s_all_kinds) := ⟨rfl, rfl, rfl, by decide +kernel, rfl, by decide +kernel, by decide +kernel⟩
theorem ok_all_kinds (T : Top K mg) : FnOk P w K mg base CX0 2 T.f_all_kinds T.fd_all_kinds ["book"] (sp_all_kinds T.C_Book K) := by
  have G_many_of := ok_many_of (P := P) (w := w) (base := base) T
  refine T.F_all_kinds.ok sc_all_kinds (fun vs H Q E h => ?_) (fun cdv A outer s H vs Q E hr h => ?_)
  · obtain ⟨l, P, rfl, _⟩ := h
    rfl
  · obtain ⟨l, P, rfl, hl, hn, k⟩ := h
    refine ⟨_, (pss_one (ps_ret (pe_listRg rfl (by rfl) T.z_list (prg_1 (by rfl) T.z_range (pe_call G_many_of hr (by rfl) T.g_many_of T.F_many_of.kp T.b_many_of .nil pass0 (pa_cons (pv 0) pa_nil)))))), ?_⟩
    tm_at "w"
    refine ⟨l, P, rfl, hl, ?_⟩
    tm_at "w"
    intro p np
    exact k p _ (Same.new (Same.refl H) np) (by rw [upd_same, rg_nats])
/-! is_row -/
/-! ### zip of two tuples of any lengths -/
theorem lc_zipTM {K : PySem.W.Frag} {a b : Addr} {xs ys : List V} {g : TG} {tt : TT} {te : TE} {vs : List Nat} {σ : St} {H1 : Hp} {D : Addr} {Qd : Hp → Prop} {n : Nat} (f : Nat → Option V) (hx : H1 a = some (.tup xs)) (hy : H1 b = some (.tup ys)) (hl : min xs.length ys.length = n) (nD : H1 D = none) (hn : n ≤ 100000)
    (hs : ∀ (i : Nat) (x y : V) (Z : Addr) (H : Hp) (N : V → Hp → Prop) (M : Hp → Prop), xs[i]? = some x → ys[i]? = some y → Same H1 H → H Z = some (.tup [x, y]) → (∀ v H4, f i = some v → Same H H4 → N v H4) → (∀ H4, f i = none → Same H H4 → M H4) → g (.ref Z) (wipe σ vs) H fun σ2 H2 => wipe σ2 vs = wipe σ vs ∧ tt σ2 H2 fun b H3 => if b = true then te σ2 H3 N else M H3)
    (hd : ∀ H, Same H1 H → H D = some (.lst ((List.range n).filterMap f)) → Qd H) : ∃ W : Nat → Nat → Hp → Prop, (∃ m, W 0 m (upd H1 D (.lst []))) ∧ ∀ i m H, W i m H →
      ((RZ.ItzT K a b).stop i H ∧ Qd H) ∨ ((RZ.ItzT K a b).go i H ∧ ∃ Nx : Hp → Prop, (∀ H', Nx H' → ∃ m', m' < m ∧ W (i + 1) m' H') ∧ ∀ x H', (RZ.ItzT K a b).yld i H x H' → g x (wipe σ vs) H' fun σ2 H2 => wipe σ2 vs = wipe σ vs ∧ tt σ2 H2 fun b H3 =>
        if b = true then te σ2 H3 fun y H4 => ∃ acc, H4 D = some (.lst acc) ∧ acc.length < sizeLine ∧ Nx (upd H4 D (.lst (acc ++ [y]))) else Nx H3) := by
  refine ⟨fun i m H => m = n - i ∧ i ≤ n ∧ Same H1 H ∧ H D = some (.lst ((List.range i).filterMap f)), ⟨n, rfl, Nat.zero_le _, Same.new (Same.refl H1) nD, upd_same⟩, ?_⟩
  rintro i m H ⟨rfl, hi, s, hD⟩
  have qx : SqT K H a xs := SqT.of (s _ _ hx)
  have qy : SqT K H b ys := SqT.of (s _ _ hy)
  have hz := filterMap_range_len f i
  by_cases hlt : i < n
  · have ex : xs[i]? = some (xs[i]'(by omega)) := List.getElem?_eq_getElem (by omega)
    have ey : ys[i]? = some (ys[i]'(by omega)) := List.getElem?_eq_getElem (by omega)
    refine .inr ⟨⟨xs, ys, _, _, qx, qy, ex, ey⟩, fun H => i < n ∧ Same H1 H ∧ H D = some (.lst ((List.range (i + 1)).filterMap f)), fun H' p' => ⟨n - (i + 1), by omega, rfl, hlt, p'.2⟩, fun v H' y => ?_⟩
    obtain ⟨Z, x', y', rfl, hZ, rfl, f1, f2⟩ := y
    have s1 : Same H (upd H Z (.tup [x', y'])) := Same.new (Same.refl H) hZ
    refine hs i x' y' Z _ _ _ (f1 xs qx) (f2 ys qy) (s.trans s1) upd_same (fun v H4 e s4 => ⟨_, s4 _ _ (s1 _ _ hD), lt_line (by omega), hlt, ?_, ?_⟩) (fun H4 e s4 => ⟨hlt, ?_, ?_⟩)
    · exact Same.mut ((s.trans s1).trans s4) nD
    · rw [filterMap_range_succ, e]
      exact upd_same
    · exact (s.trans s1).trans s4
    · rw [filterMap_range_succ, e, s4 _ _ (s1 _ _ hD)]
      simp
  · have e : i = n := by omega
    subst e
    exact .inl ⟨⟨xs, ys, qx, qy, by omega⟩, hd H s hD⟩
def Chn (P : List (List Nat)) (d : List Nat) : Prop := d.Pairwise fun a b => isA P b a = true
theorem chn_count {P : List (List Nat)} (hR : RtP P) (x : Nat) : ∀ {d : List Nat} {j p : Nat}, Chn P d → d[j]? = some p → (j + 1 ≤ (d.filter fun k => isA P x k).length ↔ isA P x p = true)
  | [], j, p, _, h => by simp at h
  | a :: r, j, p, hc, h => by
    obtain ⟨h1, h2⟩ := List.pairwise_cons.mp hc
    rw [List.filter_cons]
    cases e : isA P x a with
    | true =>
      rw [if_pos rfl, List.length_cons]
      cases j with
      | zero =>
        have : a = p := Option.some.inj h
        rw [← this, e]
        exact ⟨fun _ => rfl, fun _ => by omega⟩
      | succ j =>
        have ih := chn_count hR x h2 (show r[j]? = some p from h)
        rw [← ih]
        omega
    | false =>
      rw [if_neg (by decide)]
      have no : ∀ b ∈ r, isA P x b = false := fun b hb => by
        cases eb : isA P x b with
        | false => rfl
        | true =>
          rw [isA_trans hR eb (h1 b hb)] at e
          cases e
      have nil : r.filter (fun k => isA P x k) = [] := List.filter_eq_nil_iff.mpr fun b hb => by rw [no b hb]; decide
      rw [nil]
      have np : isA P x p = false := by
        cases j with
        | zero =>
          have : a = p := Option.some.inj h
          rw [← this]
          exact e
        | succ j => exact no p (List.mem_of_getElem? h)
      rw [np]
      exact ⟨fun z => absurd z (by simp), fun z => by cases z⟩
theorem chn_snoc {P : List (List Nat)} (hR : RtP P) {d : List Nat} {x : Nat} (h : Chn P d) (hl : d = [] ∨ isA P x (d.getLastD 0) = true) : Chn P (d ++ [x]) := by
  refine List.pairwise_append.mpr ⟨h, List.pairwise_singleton _ _, fun a ha b hb => ?_⟩
  rw [List.mem_singleton.mp hb]
  rcases hl with e | e
  · rw [e] at ha
    cases ha
  · have dne : d ≠ [] := List.ne_nil_of_mem ha
    have el : d.getLastD 0 = d.getLast dne := by
      rw [List.getLastD_eq_getLast?, List.getLast?_eq_getLast dne]
      rfl
    rw [el] at e
    have ed : d = d.dropLast ++ [d.getLast dne] := (List.dropLast_concat_getLast dne).symm
    rw [ed] at ha
    rcases List.mem_append.mp ha with ha | ha
    · have h2 := h
      rw [ed] at h2
      exact isA_trans hR e ((List.pairwise_append.mp h2).2.2 a ha _ (List.mem_singleton.mpr rfl))
    · rw [List.mem_singleton.mp ha]
      exact e
theorem slice_from {K : PySem.W.Frag} {H : Hp} {a : Addr} {xs : List V} {m : Nat} {i : Int} {Q : VK} (hi : i = (m : Int)) (hx : H a = some (.tup xs)) (hm : m ≤ xs.length)
    (k : ∀ p H', Same H H' → H' p = some (.tup (xs.drop m)) → Q (.ref p) H') : rSlA K (.ref a) (some i) none H Q := by
  subst hi
  have e1 : HT.sIx xs.length xs.length none = xs.length := rfl
  have e0 : HT.sIx xs.length 0 (some (m : Int)) = m := by
    rw [HT.sIx_nat]
    omega
  refine ⟨a, xs, rfl, SqT.of hx, fun e => ?_, fun _ p np => ?_⟩
  · rw [e0, e1] at e
    exact k a H (Same.refl H) (by rw [e.1]; exact hx)
  · refine k p _ (Same.new (Same.refl H) np) ?_
    rw [upd_same]
    unfold cutV
    rw [e0, e1, List.take_of_length_le (by rw [List.length_drop]; exact Nat.le_refl _)]
def sp_is_row (C : Addr) (K : PySem.W.Frag) : Sp := fun vs H Q _ => ∃ (l : Bk) (P : List (List Nat)) (a : Addr) (q : List Nat), vs = [.ref l.b, .ref a] ∧ BookAt C H l P ∧ H a = some (.tup (natsV q)) ∧ P.length ≤ 1000 ∧ q ≠ [] ∧ Chn P q ∧ q.Pairwise (· < ·) ∧ (∀ k ∈ q, k < P.length) ∧ q.length ≤ 1000 ∧ ∀ H', Same H H' → Q (.bl true) H'
theorem sc_is_row : FnScope ["book", "thing", "p", "x"] ["book", "thing"] (defScope s_is_row) := ⟨rfl, rfl, rfl, by decide +kernel, rfl, by decide +kernel, by decide +kernel⟩
theorem ok_is_row (T : Top K mg) : FnOk P w K mg base CX0 4 T.f_is_row T.fd_is_row ["book", "thing"] (sp_is_row T.C_Book K) := by
  have G_is_lot := ok_is_lot (P := P) (w := w) (base := base) T
  have G_is_one := ok_is_one (P := P) (w := w) (base := base) T
  have G_many_of := ok_many_of (P := P) (w := w) (base := base) T
  refine T.F_is_row.ok sc_is_row (fun vs H Q E h => ?_) (fun cdv A outer s H vs Q E hr h => ?_)
  · obtain ⟨l, P, a, q, rfl, _⟩ := h
    rfl
  · obtain ⟨l, P, a, q, rfl, hl, ha, hn, q0, hc, hp, hk, hq, k⟩ := h
    refine ⟨_, (pss_cons (ps_if (PW.pt (pw_or (pt_not (pt_val (pe_call G_is_lot hr (by rfl) T.g_is_lot T.F_is_lot.kp T.b_is_lot .nil pass0 (pa_cons (pv 1) (pa_cons (pe_call G_many_of (hr.mono (by decide)) (by rfl) T.g_many_of T.F_many_of.kp T.b_many_of .nil pass0 (pa_cons (pv 0) pa_nil)) pa_nil))))) (pw_or1 (pt_cmpR op_eq (pe_callB (r := rLenQ K) (id := "len") call_len_seq (by rfl) T.z_len (by decide +kernel) (pa_cons (pv 1) pa_nil)) pe_int (nomark _))))) (pss_one (ps_ret pe_bl)) pss_nil)
      (pss_one (ps_ret (pe_callB (r := rAll K) (id := "all") (cr_all rfl) (by rfl) T.z_all (by decide +kernel) (pa_cons (pe_lc (own := [("p", 2), ("x", 3)]) (tt := tYes) rfl sc_is_row.nd (RZ.pi_zipA (by rfl) T.z_zip (pa_cons (pv 1) (pa_cons (pe_slice sl_tupA (pv 1) (po_some pe_int) po_none) pa_nil))) (blkOk_by (own := [("p", 2), ("x", 3)]) (N := ["book", "thing", "p", "x"]) (sc := defScope s_is_row) (by decide +kernel)) (fun _ _ _ _ _ => (pg_tupK (K := K) 2 rfl rfl (pgs_cons (pg_name (i := 2) sc_is_row.nd rfl (Or.inl rfl)) (pgs_cons (pg_name (i := 3) sc_is_row.nd rfl (Or.inl rfl)) pgs_nil)))) (fun _ _ _ _ _ => pts_nil) (fun _ _ _ _ _ => (pe_call G_is_one (hr.mono (by decide)) (by rfl) T.g_is_one T.F_is_one.kp T.b_is_one .nil pass0 (pa_cons (pv 0) (pa_cons (pv 3) (pa_cons (pv 2) pa_nil)))))) pa_nil))))), ?_⟩
    tm_at "w"
    refine ⟨l, P, rfl, hl, ?_⟩
    have hlot : lotFrom (P.length : Int) (-1) (natsV q) = true := lot_from hp fun x hx => ⟨by omega, by have := hk x hx; omega⟩
    tm_at "w"
    refine ⟨_, _, _, _, rfl, ty_tup ha, tup_tup, .inr ⟨a, _, rfl, ha, rfl, fun x hx => ?_, ?_⟩⟩
    · obtain ⟨j, hj⟩ := List.mem_iff_getElem?.mp hx
      obtain ⟨n, _, rfl, _⟩ := natsV_here hj
      exact .int _
    · rw [hlot]
      have ql : 0 < q.length := List.length_pos_iff.mpr q0
      tm_at "w"
      rw [natsV_len]
      refine iteI (fun z => absurd z (by omega)) (fun _ => ?_)
      tm_at "w"
      unfold tNoPart
      refine slice_from (i := 1) (m := 1) rfl ha (by rw [natsV_len]; omega) fun p1 H1 s1 hp1 => ?_
      have ed : (natsV q).drop 1 = natsV (q.drop 1) := by unfold natsV; rw [List.map_drop]
      rw [ed] at hp1
      have ha1 := s1 _ _ ha
      tm_at "w"
      refine ⟨_, _, _, _, rfl, .inr ⟨SqT.of ha1, SqT.of hp1, fun D nD => lc_zipTM (n := q.length - 1) (fun _ => some (.bl true)) ha1 hp1 (by rw [natsV_len, natsV_len, List.length_drop]; omega) nD (by omega) ?_ ?_⟩⟩
      · intro i u v Z H3 N M hu hv s3 hZ kN kM
        obtain ⟨a0, h0, rfl, _⟩ := natsV_here hu
        obtain ⟨b0, h1, rfl, _⟩ := natsV_here hv
        rw [List.getElem?_drop] at h1
        obtain ⟨l0, e0⟩ := List.getElem?_eq_some_iff.mp h0
        obtain ⟨l1, e1⟩ := List.getElem?_eq_some_iff.mp h1
        have is' : isA P b0 a0 = true := by
          have := List.pairwise_iff_getElem.mp hc i (1 + i) l0 l1 (by omega)
          rw [e0, e1] at this
          exact this
        have bl := hk b0 (List.mem_of_getElem? h1)
        tm_at "w"
        refine ⟨l, P, b0, a0, rfl, hl.same (Same.trans s1 s3), bl, ?_⟩
        rw [is']
        exact kN _ _ rfl (Same.refl H3)
      · intro H3 s3 hD
        rw [all_true] at hD
        tm_at "w"
        refine ⟨_, _, rfl, SqL.of hD, ?_⟩
        rw [all_id]
        exact k _ (Same.trans s1 s3)
/-! is_dealing -/
theorem shaped_listI (ns : List Int) : SeqAt.shaped (.list (ns.map PyData.int)) = true := by
  have h := deep_ints ns
  have h2 : PyData.depth (.list (ns.map PyData.int)) ≤ 64 := by
    simp only [PyData.depth]
    omega
  exact Bool.and_eq_true_iff.mpr ⟨lay_ints ns, decide_eq_true h2⟩
theorem refl_listI (ns : List Int) : PyData.eqv (.list (ns.map PyData.int)) (.list (ns.map PyData.int)) = true := SeqAt.eqv_refl _ (lay_ints ns)
/-- a scheme that says what is so -/
def SchOk (P : List (List Nat)) (S : List Tr) : Prop := S.length = P.length ∧ (∀ e ∈ S, 0 ≤ e.1 ∧ e.2.2.length ≤ 1000) ∧ ∀ (x p : Nat) ex ep, S[x]? = some ex → S[p]? = some ep → saysB ex ep = isA P x p
/-! ### rows of kinds: a dealing -/
structure Deal (P : List (List Nat)) (m : Nat) (D : List (List Nat)) : Prop where
  full : ∀ q ∈ D, q ≠ []
  chain : ∀ q ∈ D, Chn P q
  asc : ∀ q ∈ D, q.Pairwise (· < ·)
  all : D.flatten.Perm (List.range m)
section
variable {P : List (List Nat)} {m : Nat} {D : List (List Nat)}
theorem Deal.nil : Deal P 0 [] := ⟨(fun q h => by cases h), (fun q h => by cases h), (fun q h => by cases h), List.Perm.refl _⟩
theorem Deal.lt (d : Deal P m D) {q : List Nat} (h : q ∈ D) {k : Nat} (hk : k ∈ q) : k < m := by
  have : k ∈ List.range m := d.all.mem_iff.mp (List.mem_flatten.mpr ⟨q, h, hk⟩)
  exact List.mem_range.mp this
theorem Deal.flat_len (d : Deal P m D) : D.flatten.length = m := by
  rw [d.all.length_eq, List.length_range]
theorem flat_ge : ∀ (D : List (List Nat)), (∀ q ∈ D, q ≠ []) → D.length ≤ D.flatten.length
  | [], _ => Nat.le_refl _
  | q :: r, h => by
    have ih := flat_ge r fun z hz => h z (List.mem_cons_of_mem _ hz)
    have q0 : 0 < q.length := List.length_pos_iff.mpr (h q List.mem_cons_self)
    rw [List.flatten_cons, List.length_append, List.length_cons]
    omega
theorem flat_row : ∀ (D : List (List Nat)) {q : List Nat}, q ∈ D → q.length ≤ D.flatten.length
  | [], q, h => by cases h
  | a :: r, q, h => by
    rw [List.flatten_cons, List.length_append]
    rcases List.mem_cons.mp h with e | h
    · rw [e]; omega
    · have := flat_row r h
      omega
theorem Deal.many (d : Deal P m D) : D.length ≤ m := by
  have := flat_ge D d.full
  rw [d.flat_len] at this
  exact this
theorem Deal.long (d : Deal P m D) {q : List Nat} (h : q ∈ D) : q.length ≤ m := by
  have := flat_row D h
  rw [d.flat_len] at this
  exact this
theorem flat_snoc (x : Nat) : (D ++ [[x]]).flatten = D.flatten ++ [x] := by
  rw [List.flatten_append]
  rfl
theorem Deal.grow (d : Deal P m D) : Deal P (m + 1) (D ++ [[m]]) := by
  refine ⟨fun q h => ?_, fun q h => ?_, fun q h => ?_, ?_⟩
  · rcases List.mem_append.mp h with h | h
    · exact d.full q h
    · rw [List.mem_singleton.mp h]
      exact fun z => nomatch z
  · rcases List.mem_append.mp h with h | h
    · exact d.chain q h
    · rw [List.mem_singleton.mp h]
      exact List.pairwise_singleton _ _
  · rcases List.mem_append.mp h with h | h
    · exact d.asc q h
    · rw [List.mem_singleton.mp h]
      exact List.pairwise_singleton _ _
  · rw [flat_snoc, List.range_succ]
    exact d.all.append_right _
theorem flat_set : ∀ (D : List (List Nat)) {j : Nat} {q : List Nat} (x : Nat), D[j]? = some q → (D.set j (q ++ [x])).flatten.Perm (D.flatten ++ [x])
  | a :: r, 0, q, x, h => by
    have e : a = q := Option.some.inj h
    subst e
    show ((a ++ [x]) :: r).flatten.Perm _
    rw [List.flatten_cons, List.flatten_cons, List.append_assoc, List.append_assoc]
    exact List.Perm.append_left _ List.perm_append_comm
  | a :: r, j + 1, q, x, h => by
    show (a :: r.set j (q ++ [x])).flatten.Perm _
    rw [List.flatten_cons, List.flatten_cons, List.append_assoc]
    exact List.Perm.append_left _ (flat_set r x h)
theorem Deal.push (hR : RtP P) (d : Deal P m D) {j : Nat} {q : List Nat} (h : D[j]? = some q) (hl : isA P m (q.getLastD 0) = true) : Deal P (m + 1) (D.set j (q ++ [m])) := by
  have hq := List.mem_of_getElem? h
  refine ⟨fun z hz => ?_, fun z hz => ?_, fun z hz => ?_, ?_⟩
  · rcases List.mem_or_eq_of_mem_set hz with hz | hz
    · exact d.full z hz
    · rw [hz]
      exact fun w => by simp at w
  · rcases List.mem_or_eq_of_mem_set hz with hz | hz
    · exact d.chain z hz
    · rw [hz]
      exact chn_snoc hR (d.chain q hq) (.inr hl)
  · rcases List.mem_or_eq_of_mem_set hz with hz | hz
    · exact d.asc z hz
    · rw [hz]
      refine List.pairwise_append.mpr ⟨d.asc q hq, List.pairwise_singleton _ _, fun a ha b hb => ?_⟩
      rw [List.mem_singleton.mp hb]
      exact d.lt hq ha
  · rw [List.range_succ]
    exact (flat_set D m h).trans (d.all.append_right _)
/-- where a kind stands -/
theorem Deal.place (d : Deal P m D) {k : Nat} (hk : k < m) : ∃ (s b : Nat) (q : List Nat), D[s]? = some q ∧ q[b]? = some k := by
  have : k ∈ D.flatten := d.all.mem_iff.mpr (List.mem_range.mpr hk)
  obtain ⟨q, hq, hk2⟩ := List.mem_flatten.mp this
  obtain ⟨s, hs⟩ := List.mem_iff_getElem?.mp hq
  obtain ⟨b, hb⟩ := List.mem_iff_getElem?.mp hk2
  exact ⟨s, b, q, hs, hb⟩
theorem flat_one : ∀ (D : List (List Nat)) {s s' : Nat} {q q' : List Nat} {k : Nat}, D.flatten.Nodup → D[s]? = some q → D[s']? = some q' → k ∈ q → k ∈ q' → s = s'
  | [], s, s', q, q', k, _, h, _, _, _ => by simp at h
  | a :: r, 0, 0, q, q', k, _, _, _, _, _ => rfl
  | a :: r, 0, s' + 1, q, q', k, n, h, h', hk, hk' => by
    have e : a = q := Option.some.inj h
    rw [List.flatten_cons, List.nodup_append] at n
    exact absurd rfl (n.2.2 k (e ▸ hk) k (List.mem_flatten.mpr ⟨q', List.mem_of_getElem? (show r[s']? = some q' from h'), hk'⟩))
  | a :: r, s + 1, 0, q, q', k, n, h, h', hk, hk' => by
    have e : a = q' := Option.some.inj h'
    rw [List.flatten_cons, List.nodup_append] at n
    exact absurd rfl (n.2.2 k (e ▸ hk') k (List.mem_flatten.mpr ⟨q, List.mem_of_getElem? (show r[s]? = some q from h), hk⟩))
  | a :: r, s + 1, s' + 1, q, q', k, n, h, h', hk, hk' => by
    rw [List.flatten_cons, List.nodup_append] at n
    rw [flat_one r n.2.1 (show r[s]? = some q from h) (show r[s']? = some q' from h') hk hk']
theorem asc_one {q : List Nat} (h : q.Pairwise (· < ·)) {b b' k : Nat} (h1 : q[b]? = some k) (h2 : q[b']? = some k) : b = b' := by
  obtain ⟨l1, e1⟩ := List.getElem?_eq_some_iff.mp h1
  obtain ⟨l2, e2⟩ := List.getElem?_eq_some_iff.mp h2
  have pw := List.pairwise_iff_getElem.mp h
  rcases Nat.lt_trichotomy b b' with z | z | z
  · have := pw b b' l1 l2 z
    omega
  · exact z
  · have := pw b' b l2 l1 z
    omega
theorem Deal.one (d : Deal P m D) {s s' b b' k : Nat} {q q' : List Nat} (h1 : D[s]? = some q) (h2 : q[b]? = some k) (h3 : D[s']? = some q') (h4 : q'[b']? = some k) : s = s' ∧ q = q' ∧ b = b' := by
  have n : D.flatten.Nodup := d.all.nodup_iff.mpr List.nodup_range
  have e := flat_one D n h1 h3 (List.mem_of_getElem? h2) (List.mem_of_getElem? h4)
  subst e
  have eq : q = q' := Option.some.inj (h1.symm.trans h3)
  subst eq
  exact ⟨rfl, rfl, asc_one (d.asc q (List.mem_of_getElem? h1)) h2 h4⟩
/-- what an entry tells of a row -/
def ownB (P : List (List Nat)) (x : Nat) (q : List Nat) : List Nat := q.filter fun k => isA P x k
def EntOk (P : List (List Nat)) (x : Nat) (q : List Nat) (low step e : Int) : Prop := (ownB P x q = [] ∧ e < low) ∨ ∃ a : Nat, q[a]? = some ((ownB P x q).getLastD 0) ∧ ownB P x q ≠ [] ∧ low + step * (a : Int) ≤ e ∧ e < low + step * ((a : Int) + 1)
theorem ent_tells (hR : RtP P) {x p b : Nat} {q : List Nat} {low step e : Int} (hs : 0 < step) (hc : Chn P q) (ha : q.Pairwise (· < ·)) (hp : q[b]? = some p) (h : EntOk P x q low step e) : decide (low + step * (b : Int) ≤ e) = isA P x p := by
  have hpq := List.mem_of_getElem? hp
  rcases h with ⟨h1, h2⟩ | ⟨a, h1, h0, h2, h3⟩
  · have np : isA P x p = false := by
      cases z : isA P x p with
      | false => rfl
      | true =>
        have : p ∈ ownB P x q := List.mem_filter.mpr ⟨hpq, z⟩
        rw [h1] at this
        cases this
    rw [np]
    refine decide_eq_false fun z => ?_
    have : 0 ≤ step * (b : Int) := Int.mul_nonneg (Int.le_of_lt hs) (Int.natCast_nonneg b)
    omega
  · have el : (ownB P x q).getLastD 0 = (ownB P x q).getLast h0 := by
      rw [List.getLastD_eq_getLast?, List.getLast?_eq_getLast h0]
      rfl
    have lm : (ownB P x q).getLast h0 ∈ ownB P x q := List.getLast_mem h0
    rw [el] at h1
    generalize hg : (ownB P x q).getLast h0 = g at *
    have lx := (List.mem_filter.mp lm).2
    obtain ⟨l1, e1⟩ := List.getElem?_eq_some_iff.mp h1
    obtain ⟨l2, e2⟩ := List.getElem?_eq_some_iff.mp hp
    by_cases hab : b ≤ a
    · have ip : isA P x p = true := by
        by_cases eab : b = a
        · subst eab
          rw [h1] at hp
          rw [← Option.some.inj hp]
          exact lx
        · have := List.pairwise_iff_getElem.mp hc b a l2 l1 (by omega)
          rw [e1, e2] at this
          exact isA_trans hR lx this
      rw [ip]
      refine decide_eq_true ?_
      have : step * (b : Int) ≤ step * (a : Int) := Int.mul_le_mul_of_nonneg_left (by omega) (Int.le_of_lt hs)
      omega
    · have np : isA P x p = false := by
        cases z : isA P x p with
        | false => rfl
        | true =>
          have pm : p ∈ ownB P x q := List.mem_filter.mpr ⟨hpq, z⟩
          have gl := List.pairwise_iff_getElem.mp ha a b l1 l2 (by omega)
          rw [e1, e2] at gl
          have po : (ownB P x q).Pairwise (· < ·) := ha.filter _
          have ed : ownB P x q = (ownB P x q).dropLast ++ [g] := by rw [← hg]; exact (List.dropLast_concat_getLast h0).symm
          rw [ed] at pm po
          rcases List.mem_append.mp pm with pm | pm
          · have := (List.pairwise_append.mp po).2.2 p pm g (List.mem_singleton.mpr rfl)
            omega
          · have := List.mem_singleton.mp pm
            omega
      rw [np]
      refine decide_eq_false fun z => ?_
      have : step * ((a : Int) + 1) ≤ step * (b : Int) := Int.mul_le_mul_of_nonneg_left (by omega) (Int.le_of_lt hs)
      omega
/-- a triple of a scheme by a dealing -/
structure ByDeal (P D : List (List Nat)) (wide : Nat) (low step : Int) (x : Nat) (e : Tr) : Prop where
  place : ∃ (s b : Nat) (q : List Nat), D[s]? = some q ∧ q[b]? = some x ∧ e.1 = ((s * wide : Nat) : Int) ∧ e.2.1 = low + step * (b : Int)
  len : e.2.2.length = D.length * wide
  ents : ∀ (s : Nat) q, D[s]? = some q → ∃ z, e.2.2[s * wide]? = some z ∧ EntOk P x q low step z
theorem deal_ok {S : List Tr} {wide : Nat} {low step : Int} (hR : RtP P) (d : Deal P P.length D) (hs : 0 < step) (hw : 0 < wide) (hw2 : wide ≤ 2) (hn : P.length ≤ 400) (hl : S.length = P.length) (h : ∀ (x : Nat) e, S[x]? = some e → ByDeal P D wide low step x e) : SchOk P S := by
  refine ⟨hl, fun e he => ?_, fun x p ex ep h1 h2 => ?_⟩
  · obtain ⟨x, hx⟩ := List.mem_iff_getElem?.mp he
    have b := h x e hx
    obtain ⟨s, _, q, hs1, _, e1, _⟩ := b.place
    have := d.many
    refine ⟨by omega, ?_⟩
    rw [b.len]
    have : D.length * wide ≤ 400 * 2 := Nat.mul_le_mul (by omega) hw2
    omega
  · have bx := h x ex h1
    obtain ⟨s, b, q, hs1, hb, e1, e2⟩ := (h p ep h2).place
    obtain ⟨z, hz, he⟩ := bx.ents s q hs1
    have hq := List.mem_of_getElem? hs1
    have sl : s * wide < ex.2.2.length := (List.getElem?_eq_some_iff.mp hz).1
    have t := ent_tells hR hs (d.chain q hq) (d.asc q hq) hb he
    unfold saysB
    rw [e1, e2, Int.toNat_natCast, decide_eq_true (by omega), Bool.true_and, List.getD_eq_getElem?_getD, hz]
    exact t
end
def sp_is_dealing (C : Addr) (K : PySem.W.Frag) : Sp := fun vs H Q _ => ∃ (l : Bk) (P : List (List Nat)) (a : Addr) (D : List (List Nat)), vs = [.ref l.b, .ref a] ∧ BookAt C H l P ∧ ParAt H a D ∧ Deal P P.length D ∧ P.length ≤ 400 ∧ ∀ H', Same H H' → Q (.bl true) H'
theorem sc_is_dealing : FnScope ["book", "thing", "found", "row"] ["book", "thing"] (defScope s_is_dealing) := ⟨rfl, rfl, rfl, by decide +kernel, rfl, by decide +kernel, by decide +kernel⟩
theorem ok_is_dealing (T : Top K mg) : FnOk P w K mg base CX0 5 T.f_is_dealing T.fd_is_dealing ["book", "thing"] (sp_is_dealing T.C_Book K) := by
  have G_all_kinds := ok_all_kinds (P := P) (w := w) (base := base) T
  have G_is_row := ok_is_row (P := P) (w := w) (base := base) T
  refine T.F_is_dealing.ok sc_is_dealing (fun vs H Q E h => ?_) (fun cdv A outer s H vs Q E hr h => ?_)
  · obtain ⟨l, P, a, D, rfl, _⟩ := h
    rfl
  · obtain ⟨l, P, a, D, rfl, hl, hD, de, hn, k⟩ := h
    refine ⟨_, (pss_cons (ps_if (PW.pt (pw_or (pt_not (pt_val (pe_callB (r := rIsi K) (id := "isinstance") call_isi (by rfl) T.z_isinstance (by decide +kernel) (pa_cons (pv 1) (pa_cons (pe_bltn (v := .ty "tuple") (u := .type "tuple") (by rfl) T.z_tuple (by decide +kernel) rfl) pa_nil))))) (pw_or1 (pt_not (pt_val (pe_callB (r := rAll K) (id := "all") (cr_all rfl) (by rfl) T.z_all (by decide +kernel) (pa_cons (pe_lc (own := [("row", 3)]) (g := gName 3) (tt := tYes) rfl sc_is_dealing.nd (pi_tup (pv 1)) (blkOk_by (own := [("row", 3)]) (N := ["book", "thing", "found", "row"]) (sc := defScope s_is_dealing) (by decide +kernel)) (fun _ _ _ _ _ => (pg_name (i := 3) sc_is_dealing.nd rfl (Or.inl rfl))) (fun _ _ _ _ _ => pts_nil) (fun _ _ _ _ _ => (pe_call G_is_row hr (by rfl) T.g_is_row T.F_is_row.kp T.b_is_row .nil pass0 (pa_cons (pv 0) (pa_cons (pv 3) pa_nil))))) pa_nil))))))) (pss_one (ps_ret pe_bl)) pss_nil)
      (pss_cons (ps_set (i := 2) sc_is_dealing.nd rfl (Or.inl rfl) (pe_lst pa_nil))
      (pss_cons (ps_for PassesOwn.never rfl (pi_tup (pv 1)) (pg_name (i := 3) sc_is_dealing.nd rfl (Or.inl rfl))
      (pss_one (ps_expr (pe_bm PySem.F.plainAttrs_list PySem.F.slot_list_extend PySem.F.type_list_extend mt_extend (pv 2) (pa_cons (pe_callTy (r := rListQ K) (T := "list") call_list_of (by rfl) T.z_list (by decide +kernel) (pa_cons (pv 3) pa_nil)) pa_nil)))))
      (pss_one (ps_ret (pe_cmpR (op_eqD hr.units) (pe_callB (id := "sorted") cr_sortedI (by rfl) T.z_sorted (by decide +kernel) (pa_cons (pv 2) pa_nil)) (pe_call G_all_kinds (hr.mono (by decide)) (by rfl) T.g_all_kinds T.F_all_kinds.kp T.b_all_kinds .nil pass0 (pa_cons (pv 0) pa_nil)) (nomark _))))))), ?_⟩
    have dm := de.many
    obtain ⟨ws, hws, hwl⟩ := id hD
    have ht := ty_tup (K := K) hws
    have h2 := tup_tup (K := K)
    have wl := hwl.1
    tm_at "w"
    refine ⟨⟨_, SqT.of hws⟩, fun E nE => lc_tupF (fun _ => some (.bl true)) hws nE (by omega) ?_ ?_⟩
    · intro j x H1 N M hx s1 kN kM
      obtain ⟨b, q, rfl, hq, hb⟩ := hwl.here hx
      have qm := List.mem_of_getElem? hq
      tm_at "w"
      exact ⟨l, P, b, q, rfl, hl.same s1, s1 _ _ hb, by omega, de.full q qm, de.chain q qm, de.asc q qm, fun k hk => de.lt qm hk, by have := de.long qm; omega, fun H2 s2 => kN _ _ rfl s2⟩
    · intro H1 s1 hE
      rw [all_true] at hE
      tm_at "w"
      refine ⟨_, _, rfl, SqL.of hE, ?_⟩
      rw [all_id]
      tm_at "w"
      intro fd nfd
      have nfd0 := Same.free s1 nfd
      have s2 : Same H (upd H1 fd (.lst [])) := Same.new s1 nfd
      have hws2 := s2 _ _ hws
      tm_at "w"
      refine ⟨⟨_, SqT.of hws2⟩, for_tup (K := K) (a := a) (xs := ws) (fun j σ H' => ∃ u, σ = [some (.ref l.b), some (.ref a), some (.ref fd), u] ∧ Same H1 H' ∧ H' fd = some (.lst (natsV (D.take j).flatten))) ?_ ?_ ?_ ?_⟩
      · exact ⟨_, rfl, Same.new (Same.refl H1) nfd, upd_same⟩
      · rintro j σ H' _ ⟨_, rfl, s, _⟩
        exact SqT.of (s _ _ (s1 _ _ hws))
      · rintro j x σ H3 hx ⟨u, rfl, s3, hfd⟩
        obtain ⟨b, q, rfl, hq, hb⟩ := hwl.here hx
        have hb3 := s3 _ _ (s1 _ _ hb)
        tm_at "w"
        intro M nM
        have nq : (natsV (D.take j).flatten).length + (natsV q).length ≤ 100000 := by
          rw [natsV_len, natsV_len]
          have h1 := de.long (List.mem_of_getElem? hq)
          have h2 : (D.take j).flatten.length ≤ D.flatten.length := by
            have e : D.flatten = (D.take j).flatten ++ (D.drop j).flatten := by rw [← List.flatten_append, List.take_append_drop]
            rw [e, List.length_append]
            omega
          have h3 := de.flat_len
          omega
        have hfd4 : upd H3 M (.lst (natsV q)) fd = some (.lst (natsV (D.take j).flatten)) := (upd_ne (ne_of_none hfd nM)).trans hfd
        tm_at "w"
        refine ⟨_, _, _, _, rfl, rfl, hfd4, upd_same, Nat.le_of_lt (lt_line nq), ?_⟩
        refine ⟨_, rfl, Same.mut (Same.new s3 nM) nfd, ?_⟩
        rw [upd_same, List.take_add_one, hq, List.flatten_append]
        unfold natsV
        rw [List.map_append]
        simp
      · rintro σ H3 ⟨u, rfl, s3, hfd⟩
        rw [wl, List.take_length] at hfd
        tm_at "w"
        refine ⟨fd, D.flatten.map fun z : Nat => (z : Int), rfl, SqL.of (by rw [List.map_map]; exact hfd), fun ns p hp hs np => ?_⟩
        have ens : ns = (List.range P.length).map fun z : Nat => (z : Int) := by
          refine List.Perm.eq_of_pairwise (le := (· ≤ ·)) (fun a b _ _ h1 h2 => Int.le_antisymm h1 h2) hs ?_ (hp.trans (de.all.map _))
          rw [List.pairwise_map]
          exact List.pairwise_lt_range.imp fun h => by omega
        subst ens
        have s4 := Same.new (o := .lst (((List.range P.length).map fun z : Nat => (z : Int)).map V.int)) (Same.trans s1 s3) np
        tm_at "w"
        refine ⟨l, P, rfl, hl.same s4, by omega, fun p2 H5 s5 hp2 => ?_⟩
        refine ⟨_, _, .lst (SqL.of (s5 _ _ upd_same)) (dp_ints _), .lst (SqL.of hp2) (by rw [show natsV (List.range P.length) = ((List.range P.length).map fun z : Nat => (z : Int)).map V.int by rw [List.map_map]; rfl]; exact dp_ints _), shaped_listI _, shaped_listI _, ?_⟩
        rw [refl_listI]
        exact k _ (Same.trans s4 s5)
/-! is_given -/
def sp_is_given (K : PySem.W.Frag) : Sp := fun vs H Q _ => ∃ (v : V) (e : Tr), vs = [v] ∧ Trip H v e ∧ 0 ≤ e.1 ∧ e.2.2.length ≤ 1000 ∧ ∀ H', Same H H' → Q (.bl true) H'
theorem sc_is_given : FnScope ["thing", "entry"] ["thing"] (defScope s_is_given) := ⟨rfl, rfl, rfl, by decide +kernel, rfl, by decide +kernel, by decide +kernel⟩
theorem ok_is_given (T : Top K mg) : FnOk P w K mg base CX0 2 T.f_is_given T.fd_is_given ["thing"] (sp_is_given K) := by
  have G_is_integer := ok_is_integer (P := P) (w := w) (base := base) T
  have G_is_triple := ok_is_triple (P := P) (w := w) (base := base) T
  refine T.F_is_given.ok sc_is_given (fun vs H Q E h => ?_) (fun cdv A outer s H vs Q E hr h => ?_)
  · obtain ⟨v, e, rfl, _⟩ := h
    rfl
  · obtain ⟨v, ⟨s, n, r⟩, rfl, ⟨p, q, rfl, hp, hq⟩, h0, hl, k⟩ := h
    refine ⟨_, (pss_cons (ps_if (PW.pt (pw_or (pt_not (pt_val (pe_call G_is_triple hr (by rfl) T.g_is_triple T.F_is_triple.kp T.b_is_triple .nil pass0 (pa_cons (pv 0) pa_nil)))) (pw_or (pt_not (pt_val (pe_call G_is_integer hr (by rfl) T.g_is_integer T.F_is_integer.kp T.b_is_integer .nil pass0 (pa_cons (pe_ix (r := rIxT K) ix_tup (pv 0) pe_int (fun _ _ => rfl)) pa_nil)))) (pw_or (pt_cmpR op_lt (pe_ix (r := rIxT K) ix_tup (pv 0) pe_int (fun _ _ => rfl)) pe_int (nomark _)) (pw_or1 (pt_not (pt_val (pe_call G_is_integer hr (by rfl) T.g_is_integer T.F_is_integer.kp T.b_is_integer .nil pass0 (pa_cons (pe_ix (r := rIxT K) ix_tup (pv 0) pe_int (fun _ _ => rfl)) pa_nil))))))))) (pss_one (ps_ret pe_bl)) pss_nil)
      (pss_one (ps_ret (pe_and (pe_callB (r := rIsi K) (id := "isinstance") call_isi (by rfl) T.z_isinstance (by decide +kernel) (pa_cons (pe_ix (r := rIxT K) ix_tup (pv 0) pe_int (fun _ _ => rfl)) (pa_cons (pe_bltn (v := .ty "tuple") (u := .type "tuple") (by rfl) T.z_tuple (by decide +kernel) rfl) pa_nil))) (pe_one (pe_callB (r := rAll K) (id := "all") (cr_all rfl) (by rfl) T.z_all (by decide +kernel) (pa_cons (pe_lc (own := [("entry", 1)]) (g := gName 1) (tt := tYes) rfl sc_is_given.nd (pi_tup (pe_ix (r := rIxT K) ix_tup (pv 0) pe_int (fun _ _ => rfl))) (blkOk_by (own := [("entry", 1)]) (N := ["thing", "entry"]) (sc := defScope s_is_given) (by decide +kernel)) (fun _ _ _ _ _ => (pg_name (i := 1) sc_is_given.nd rfl (Or.inl rfl))) (fun _ _ _ _ _ => pts_nil) (fun _ _ _ _ _ => (pe_call G_is_integer hr (by rfl) T.g_is_integer T.F_is_integer.kp T.b_is_integer .nil pass0 (pa_cons (pv 1) pa_nil)))) pa_nil))))))), ?_⟩
    have ht := ty_tup (K := K) hq
    have h2 := tup_tup (K := K)
    refine ⟨_, rfl, p, _, rfl, hp, true, rfl, ?_⟩
    tm_at "w"
    refine ⟨⟨_, SqT.of hq⟩, fun D nD => lc_tupF (fun _ => some (.bl true)) hq nD (by rw [List.length_map]; exact Nat.le_trans hl (by decide)) ?_ ?_⟩
    · intro i x H' N M hx s1 kN kM
      obtain ⟨z, rfl⟩ : ∃ z, x = V.int z := by
        rw [List.getElem?_map] at hx
        cases e : r[i]? with
        | none => rw [e] at hx; cases hx
        | some z => rw [e] at hx; exact ⟨z, (Option.some.inj hx).symm⟩
      tm_at "w"
      exact kN _ _ rfl (Same.refl H')
    · intro H' s1 hD
      rw [all_true] at hD
      tm_at "w"
      refine ⟨_, _, rfl, SqL.of hD, ?_⟩
      rw [all_id]
      exact k _ s1
/-! has_form -/
def sp_has_form (K : PySem.W.Frag) : Sp := fun vs H Q _ => ∃ (a : Addr) (S : List Tr), vs = [.ref a] ∧ SchAt H a S ∧ (∀ e ∈ S, 0 ≤ e.1 ∧ e.2.2.length ≤ 1000) ∧ S.length ≤ 1000 ∧ ∀ H', Same H H' → Q (.bl true) H'
theorem sc_has_form : FnScope ["thing", "item"] ["thing"] (defScope s_has_form) := ⟨rfl, rfl, rfl, by decide +kernel, rfl, by decide +kernel, by decide +kernel⟩
theorem ok_has_form (T : Top K mg) : FnOk P w K mg base CX0 3 T.f_has_form T.fd_has_form ["thing"] (sp_has_form K) := by
  have G_is_given := ok_is_given (P := P) (w := w) (base := base) T
  refine T.F_has_form.ok sc_has_form (fun vs H Q E h => ?_) (fun cdv A outer s H vs Q E hr h => ?_)
  · obtain ⟨a, S, rfl, _⟩ := h
    rfl
  · obtain ⟨a, S, rfl, ⟨vs, ha, hl, hv⟩, h0, hn, k⟩ := h
    refine ⟨_, (pss_one (ps_ret (pe_and (pe_callB (r := rIsi K) (id := "isinstance") call_isi (by rfl) T.z_isinstance (by decide +kernel) (pa_cons (pv 0) (pa_cons (pe_bltn (v := .ty "tuple") (u := .type "tuple") (by rfl) T.z_tuple (by decide +kernel) rfl) pa_nil))) (pe_one (pe_callB (r := rAll K) (id := "all") (cr_all rfl) (by rfl) T.z_all (by decide +kernel) (pa_cons (pe_lc (own := [("item", 1)]) (g := gName 1) (tt := tYes) rfl sc_has_form.nd (pi_tup (pv 0)) (blkOk_by (own := [("item", 1)]) (N := ["thing", "item"]) (sc := defScope s_has_form) (by decide +kernel)) (fun _ _ _ _ _ => (pg_name (i := 1) sc_has_form.nd rfl (Or.inl rfl))) (fun _ _ _ _ _ => pts_nil) (fun _ _ _ _ _ => (pe_call G_is_given hr (by rfl) T.g_is_given T.F_is_given.kp T.b_is_given .nil pass0 (pa_cons (pv 1) pa_nil)))) pa_nil)))))), ?_⟩
    have ht := ty_tup (K := K) ha
    have h2 := tup_tup (K := K)
    tm_at "w"
    refine ⟨⟨_, SqT.of ha⟩, fun D nD => lc_tupF (fun _ => some (.bl true)) ha nD (by omega) ?_ ?_⟩
    · intro i x H' N M hx s1 kN kM
      have il : i < S.length := by
        have q := (List.getElem?_eq_some_iff.mp hx).1
        omega
      obtain ⟨v, hv1, p, q, rfl, hp, hq⟩ := hv i _ (List.getElem?_eq_getElem il)
      have ev : x = .ref p := Option.some.inj (hx.symm.trans hv1)
      subst ev
      have hm := h0 _ (List.getElem_mem il)
      tm_at "w"
      refine ⟨_, _, rfl, ⟨p, q, rfl, by tm_at "hp", by tm_at "hp"⟩, hm.1, hm.2, fun H2 s2 => kN _ _ rfl s2⟩
    · intro H' s1 hD
      rw [all_true] at hD
      tm_at "w"
      refine ⟨_, _, rfl, SqL.of hD, ?_⟩
      rw [all_id]
      exact k _ s1
/-! check_scheme -/
def sp_check_scheme (K : PySem.W.Frag) : Sp := fun vs H Q _ => ∃ (a : Addr) (S : List Tr), vs = [.ref a] ∧ SchAt H a S ∧ (∀ e ∈ S, 0 ≤ e.1 ∧ e.2.2.length ≤ 1000) ∧ S.length ≤ 1000 ∧ ∀ H', Same H H' → Q .non H'
theorem sc_check_scheme : FnScope ["thing"] ["thing"] (defScope s_check_scheme) := ⟨rfl, rfl, rfl, by decide +kernel, rfl, by decide +kernel, by decide +kernel⟩
theorem ok_check_scheme (T : Top K mg) : FnOk P w K mg base CX0 4 T.f_check_scheme T.fd_check_scheme ["thing"] (sp_check_scheme K) := by
  have G_has_form := ok_has_form (P := P) (w := w) (base := base) T
  refine T.F_check_scheme.ok sc_check_scheme (fun vs H Q E h => ?_) (fun cdv A outer s H vs Q E hr h => ?_)
  · obtain ⟨a, S, rfl, _⟩ := h
    rfl
  · obtain ⟨a, S, rfl, hS, h0, hn, k⟩ := h
    refine ⟨_, (pss_one (ps_if (pt_not (pt_val (pe_call G_has_form hr (by rfl) T.g_has_form T.F_has_form.kp T.b_has_form .nil pass0 (pa_cons (pv 0) pa_nil)))) (pss_one ps_never) pss_nil)), ?_⟩
    refine ⟨_, rfl, a, S, rfl, hS, h0, hn, fun H' s => ?_⟩
    tm_at "w"
    exact k _ s
/-! told -/
def sp_told (K : PySem.W.Frag) : Sp := fun vs H Q _ => ∃ (a : Addr) (S : List Tr) (x p : Nat) (ex ep : Tr), vs = [.ref a, .int x, .int p] ∧ SchAt H a S ∧ S[x]? = some ex ∧ S[p]? = some ep ∧ 0 ≤ ep.1 ∧ Q (.bl (saysB ex ep)) H
theorem sc_told : FnScope ["scheme", "x", "p", "entries", "slot", "number", "row"] ["scheme", "x", "p"] (defScope s_told) := ⟨rfl, rfl, rfl, by decide +kernel, rfl, by decide +kernel, by decide +kernel⟩
theorem ok_told (T : Top K mg) : FnOk P w K mg base CX0 1 T.f_told T.fd_told ["scheme", "x", "p"] (sp_told K) := by
  refine T.F_told.ok sc_told (fun vs H Q E h => ?_) (fun cdv A outer s H vs Q E hr h => ?_)
  · obtain ⟨a, S, x, p, ex, ep, rfl, _⟩ := h
    rfl
  · obtain ⟨a, S, x, p, ⟨s1, n1, r1⟩, ⟨s2, n2, r2⟩, rfl, hS, hx, hp, h0, k⟩ := h
    obtain ⟨vs, px, qx, ha, hl, hvx, hpx, hqx⟩ := hS.at hx
    obtain ⟨vs', pp, qp, ha', hl', hvp, hpp, hqp⟩ := hS.at hp
    have ev : vs = vs' := HO.tup.inj (Option.some.inj (ha.symm.trans ha'))
    subst ev
    refine ⟨_, (pss_cons (ps_asg (pe_ix (r := rIxT K) ix_tup (pv 0) (pv 2) (fun _ _ => rfl)) (pg_tup rfl (pgs_cons (pg_name (i := 4) sc_told.nd rfl (Or.inl rfl)) (pgs_cons (pg_name (i := 5) sc_told.nd rfl (Or.inl rfl)) (pgs_cons (pg_name (i := 6) sc_told.nd rfl (Or.inl rfl)) pgs_nil)))))
      (pss_cons (ps_set (i := 3) sc_told.nd rfl (Or.inl rfl) (pe_ix (r := rIxT K) ix_tup (pe_ix (r := rIxT K) ix_tup (pv 0) (pv 1) (fun _ _ => rfl)) pe_int (fun _ _ => rfl)))
      (pss_one (ps_ret (pe_and (pe_cmpR op_lt (pv 4) (pe_callB (r := rLenQ K) (id := "len") call_len_seq (by rfl) T.z_len (by decide +kernel) (pa_cons (pv 3) pa_nil)) (nomark _)) (pe_one (pe_cmpR op_ge (pe_ix (r := rIxT K) ix_tup (pv 3) (pv 4) (fun _ _ => rfl)) (pv 5) (nomark _)))))))), ?_⟩
    tm_at "w"
    refine iteD (fun h1 => ?_) (fun h1 => ?_)
    · rw [List.length_map] at h1
      tm_at "w"
      refine ⟨_, _, _, _, rfl, rfl, by tm_at "sqt", at_map h0 h1, ?_⟩
      tm_at "w"
      have e : saysB (s1, n1, r1) (s2, n2, r2) = decide (n2 ≤ r1.getD s2.toNat 0) := by
        show (decide (s2 < (r1.length : Int)) && decide (n2 ≤ r1.getD s2.toNat 0)) = _
        rw [decide_eq_true h1, Bool.true_and]
      rw [e] at k
      exact k
    · rw [List.length_map] at h1
      have e : saysB (s1, n1, r1) (s2, n2, r2) = false := by
        show (decide (s2 < (r1.length : Int)) && decide (n2 ≤ r1.getD s2.toNat 0)) = _
        rw [decide_eq_false h1, Bool.false_and]
      rw [e] at k
      exact k
/-! wrong_pair -/
/-! ### range(n) as a value, walked -/
section
open PySem.Spec PyProof.Rows
variable {X : Cx}
theorem cr_range1 : CallR X (.type "range") (fun vs H Q => ∃ j, vs = [V.int j] ∧ ∀ p, H p = none → Q (.ref p) (upd H p (.rng 0 j))) := by
  intro pins s σ H vs us Q I r h
  obtain ⟨j, rfl, q⟩ := h
  cases r with
  | cons r rr =>
    cases rr
    obtain ⟨t, rfl⟩ := r
    refine call_range_1 ⟨.ref s.heap.objs.size, upd H s.heap.objs.size (.rng 0 j), I.laid (t' := s.toks + 2) (fun b o e => Heap.get?_push_of_some _ e) (Nat.le_refl _) ?_, rfl, q _ (I.hok.fresh (Nat.le_refl _))⟩
    exact ⟨_, _, _, Heap.get?_push_size _ rfl⟩
def iRngV (tl : TE) : TI := fun σ H R => tl σ H fun x H1 => ∃ a lo hi, x = .ref a ∧ H1 a = some (.rng lo hi) ∧ (-(2 ^ 62) ≤ lo ∧ lo < 2 ^ 62 ∧ -(2 ^ 62) ≤ hi ∧ hi < 2 ^ 62) ∧ R (Itr lo (hi - lo).toNat) H1
theorem pi_rngV {tg l : Expr} {tl : TE} (hl : PE X l tl) : PI X tg l (iRngV tl) := by
  refine ⟨fun pins s σ H R I h => ?_⟩
  refine thn (hl.run pins s σ H _ I h) fun v s1 ⟨x, H1, I1, r1, q1⟩ => ?_
  obtain ⟨a, lo, hi, e, ha, ⟨b1, b2, b3, b4⟩, q⟩ := q1
  subst e
  cases r1
  obtain ⟨t, u, v, ho⟩ := I1.hok a _ ha
  refine wpAny_pyIter_range (show IsRange s1.heap a lo hi 1 t u v from ho) (small_one b1 b2 b3 b4) ?_
  refine ⟨s1.heap.objs.size, [s1.heap.objs.size], _, _, H1, rfl, I1.kept (t' := s1.toks) fun b o e => Heap.get?_push_of_some _ e, turn_range _ lo (hi - lo).toNat, ?_, fun b hb => ?_, q⟩
  · have e1 : lo + ((0 : Nat) : Int) * 1 = lo := by simp
    have e2 : (((hi - lo).toNat : Nat) : Int) - ((0 : Nat) : Int) = Builtin.Range.rangeSize lo hi 1 := by rw [rangeSize_one]; split <;> omega
    show IsRangeIter _ _ (lo + ((0 : Nat) : Int) * 1) ((((hi - lo).toNat : Nat) : Int) - ((0 : Nat) : Int)) 1
    rw [e1, e2]
    exact Heap.get?_push_size _ rfl
  · have e : b = s1.heap.objs.size := by simpa using hb
    subst e
    exact I1.fpOk (Nat.le_refl _) (I1.hok.fresh (Nat.le_refl _))
end
def saysI (S : List Tr) (x p : Nat) : Bool := match S[x]?, S[p]? with
  | some ex, some ep => saysB ex ep
  | _, _ => false
theorem saysI_at {S : List Tr} {x p : Nat} {ex ep : Tr} (h1 : S[x]? = some ex) (h2 : S[p]? = some ep) : saysI S x p = saysB ex ep := by
  unfold saysI
  rw [h1, h2]
/-- right at all pairs ahead of a pair -/
def rightTo (P : List (List Nat)) (S : List Tr) (x p : Nat) : Prop := ∀ (x' p' : Nat), p' < P.length → (x' < x ∨ (x' = x ∧ p' < p)) → saysI S x' p' = isA P x' p'
def sp_wrong_pair (C : Addr) (K : PySem.W.Frag) : Sp := fun vs H Q _ => ∃ (b : Bk) (P : List (List Nat)) (a : Addr) (S : List Tr), vs = [.ref b.b, .ref a] ∧ BookAt C H b P ∧ SchAt H a S ∧ S.length = P.length ∧ (∀ e ∈ S, 0 ≤ e.1) ∧ P.length ≤ 1000 ∧
  (rightTo P S P.length 0 → ∀ H', Same H H' → Q .non H') ∧ (∀ x p, x < P.length → p < P.length → rightTo P S x p → saysI S x p ≠ isA P x p → ∀ t H', Same H H' → H' t = some (.tup [.int (x : Int), .int (p : Int)]) → Q (.ref t) H')
theorem sc_wrong_pair : FnScope ["book", "scheme", "kinds", "x", "p"] ["book", "scheme"] (defScope s_wrong_pair) := ⟨rfl, rfl, rfl, by decide +kernel, rfl, by decide +kernel, by decide +kernel⟩
theorem ok_wrong_pair (T : Top K mg) : FnOk P w K mg base CX0 2 T.f_wrong_pair T.fd_wrong_pair ["book", "scheme"] (sp_wrong_pair T.C_Book K) := by
  have G_is_one := ok_is_one (P := P) (w := w) (base := base) T
  have G_many_of := ok_many_of (P := P) (w := w) (base := base) T
  have G_told := ok_told (P := P) (w := w) (base := base) T
  refine T.F_wrong_pair.ok sc_wrong_pair (fun vs H Q E h => ?_) (fun cdv A outer s H vs Q E hr h => ?_)
  · obtain ⟨b, P, a, S, rfl, _⟩ := h
    rfl
  · obtain ⟨b, P, a, S, rfl, hb, hS, ol, h0, hn, k, k2⟩ := h
    refine ⟨_, (pss_cons (ps_set (i := 2) sc_wrong_pair.nd rfl (Or.inl rfl) (pe_callTy (T := "range") cr_range1 (by rfl) T.z_range (by decide +kernel) (pa_cons (pe_call G_many_of hr (by rfl) T.g_many_of T.F_many_of.kp T.b_many_of .nil pass0 (pa_cons (pv 0) pa_nil)) pa_nil)))
      (pss_cons (ps_for PassesOwn.never rfl (pi_rngV (pv 2)) (pg_name (i := 3) sc_wrong_pair.nd rfl (Or.inl rfl))
      (pss_one (ps_for PassesOwn.never rfl (pi_rngV (pv 2)) (pg_name (i := 4) sc_wrong_pair.nd rfl (Or.inl rfl))
      (pss_one (ps_if (pt_cmpR op_ne (pe_call G_told hr (by rfl) T.g_told T.F_told.kp T.b_told .nil pass0 (pa_cons (pv 1) (pa_cons (pv 3) (pa_cons (pv 4) pa_nil)))) (pe_call G_is_one hr (by rfl) T.g_is_one T.F_is_one.kp T.b_is_one .nil pass0 (pa_cons (pv 0) (pa_cons (pv 3) (pa_cons (pv 4) pa_nil)))) (nomark _)) (pss_one (ps_ret (pe_tup (pa_cons (pv 3) (pa_cons (pv 4) pa_nil))))) pss_nil)))))
      (pss_one (ps_ret pe_non)))), ?_⟩
    tm_at "w"
    refine ⟨b, P, rfl, hb, ?_⟩
    tm_at "w"
    intro r nr
    have s0 : Same H (upd H r (.rng 0 (P.length : Int))) := Same.new (Same.refl H) nr
    have hr0 : upd H r (.rng 0 (P.length : Int)) r = some (.rng 0 (P.length : Int)) := upd_same
    tm_at "w"
    refine ⟨r, 0, (P.length : Int), rfl, hr0, ⟨by omega, by omega, by omega, by omega⟩, ?_⟩
    refine for_range (lo := 0) (n := ((P.length : Int) - 0).toNat) (fun i σ H' => ∃ u v, σ = [some (.ref b.b), some (.ref a), some (.ref r), u, v] ∧ H' = upd H r (.rng 0 (P.length : Int)) ∧ rightTo P S i 0) ⟨none, none, rfl, rfl, fun x' p' _ h => by omega⟩ ?_ ?_
    · rintro x σ H1 hx ⟨u, v, rfl, rfl, hr⟩
      rw [Int.zero_add]
      tm_at "w"
      refine ⟨r, 0, (P.length : Int), rfl, hr0, ⟨by omega, by omega, by omega, by omega⟩, ?_⟩
      refine for_range (lo := 0) (n := ((P.length : Int) - 0).toNat) (fun i σ H' => ∃ v, σ = [some (.ref b.b), some (.ref a), some (.ref r), some (.int (x : Int)), v] ∧ H' = upd H r (.rng 0 (P.length : Int)) ∧ rightTo P S x i) ⟨_, rfl, rfl, hr⟩ ?_ ?_
      · rintro p σ H2 hp ⟨v, rfl, rfl, hr⟩
        rw [Int.zero_add]
        have hxS : x < S.length := by omega
        have hpS : p < S.length := by omega
        have es := saysI_at (List.getElem?_eq_getElem hxS) (List.getElem?_eq_getElem hpS)
        tm_at "w"
        refine ⟨a, S, x, p, _, _, rfl, hS.tk (Same.tk s0), List.getElem?_eq_getElem hxS, List.getElem?_eq_getElem hpS, h0 _ (List.getElem_mem hpS), ?_⟩
        rw [← es]
        tm_at "w"
        refine ⟨b, P, x, p, rfl, hb.same s0, by omega, ?_⟩
        refine ⟨rfl, _, rfl, ?_⟩
        by_cases e : saysI S x p = isA P x p
        · rw [e]
          refine iteEF (by rw [decide_eq_true rfl]; rfl) ?_
          refine ⟨_, rfl, rfl, fun x' p' h1 h2 => ?_⟩
          rcases h2 with h2 | ⟨h2, h3⟩
          · exact hr x' p' h1 (.inl h2)
          · by_cases e2 : p' = p
            · rw [h2, e2]
              exact e
            · exact hr x' p' h1 (.inr ⟨h2, by omega⟩)
        · refine iteET (by rw [decide_eq_false (fun z => e (V.bl.inj z))]; rfl) ?_
          tm_at "w"
          intro t nt
          exact k2 x p (by omega) (by omega) hr e t _ (Same.new s0 nt) upd_same
      · rintro σ H2 ⟨v, rfl, rfl, hr⟩
        refine ⟨_, _, rfl, rfl, fun x' p' h1 h2 => ?_⟩
        rcases h2 with h2 | ⟨h2, h3⟩
        · by_cases e2 : x' = x
          · exact hr x' p' h1 (.inr ⟨e2, by omega⟩)
          · exact hr x' p' h1 (.inl (by omega))
        · omega
    · rintro σ H1 ⟨u, v, rfl, rfl, hr⟩
      tm_at "w"
      exact k (fun x' p' h1 h2 => hr x' p' h1 (h2.imp (fun z => by omega) fun z => ⟨by omega, z.2⟩)) _ s0
/-! is_scheme -/
def sp_is_scheme (C : Addr) (K : PySem.W.Frag) : Sp := fun vs H Q _ => ∃ (b : Bk) (P : List (List Nat)) (a : Addr) (S : List Tr), vs = [.ref b.b, .ref a] ∧ BookAt C H b P ∧ SchAt H a S ∧ (∀ e ∈ S, 0 ≤ e.1 ∧ e.2.2.length ≤ 1000) ∧ S.length ≤ 1000 ∧ P.length ≤ 1000 ∧
  ((S.length = P.length ∧ rightTo P S P.length 0) → ∀ H', Same H H' → Q (.bl true) H') ∧ ((S.length = P.length → ∃ x p, x < P.length ∧ p < P.length ∧ saysI S x p ≠ isA P x p) → ∀ H', Same H H' → Q (.bl false) H')
theorem sc_is_scheme : FnScope ["book", "thing"] ["book", "thing"] (defScope s_is_scheme) := ⟨rfl, rfl, rfl, by decide +kernel, rfl, by decide +kernel, by decide +kernel⟩
theorem ok_is_scheme (T : Top K mg) : FnOk P w K mg base CX0 4 T.f_is_scheme T.fd_is_scheme ["book", "thing"] (sp_is_scheme T.C_Book K) := by
  have G_has_form := ok_has_form (P := P) (w := w) (base := base) T
  have G_many_of := ok_many_of (P := P) (w := w) (base := base) T
  have G_wrong_pair := ok_wrong_pair (P := P) (w := w) (base := base) T
  refine T.F_is_scheme.ok sc_is_scheme (fun vs H Q E h => ?_) (fun cdv A outer s H vs Q E hr h => ?_)
  · obtain ⟨b, P, a, S, rfl, _⟩ := h
    rfl
  · obtain ⟨b, P, a, S, rfl, hb, hS, h0, hm, hn, k, k2⟩ := h
    refine ⟨_, (pss_one (ps_ret (pe_and (pe_call G_has_form hr (by rfl) T.g_has_form T.F_has_form.kp T.b_has_form .nil pass0 (pa_cons (pv 1) pa_nil)) (pe_and (pe_cmpR op_eq (pe_callB (r := rLenQ K) (id := "len") call_len_seq (by rfl) T.z_len (by decide +kernel) (pa_cons (pv 1) pa_nil)) (pe_call G_many_of (hr.mono (by decide)) (by rfl) T.g_many_of T.F_many_of.kp T.b_many_of .nil pass0 (pa_cons (pv 0) pa_nil)) (nomark _)) (pe_one (pe_cmpR op_isN (pe_call G_wrong_pair (hr.mono (by decide)) (by rfl) T.g_wrong_pair T.F_wrong_pair.kp T.b_wrong_pair .nil pass0 (pa_cons (pv 0) (pa_cons (pv 1) pa_nil))) pe_non (nomark _))))))), ?_⟩
    tm_at "w"
    refine ⟨a, S, rfl, hS, h0, hm, fun H1 s1 => ?_⟩
    obtain ⟨vs, ha, hl, _⟩ := id (hS.tk (Same.tk s1))
    refine ⟨_, rfl, iteT ?_⟩
    tm_at "w"
    refine ⟨b, P, rfl, hb.same s1, ?_⟩
    tm_at "w"
    refine iteI (fun z => ?_) (fun z => ?_)
    · have ol : S.length = P.length := by omega
      tm_at "w"
      refine ⟨b, P, a, S, rfl, hb.same s1, hS.tk (Same.tk s1), ol, fun e he => (h0 e he).1, hn, fun hr H2 s2 => ?_, fun x p hx hp _ hw t H2 s2 ht => ?_⟩
      · tm_at "w"
        exact k ⟨ol, hr⟩ _ (Same.trans s1 s2)
      · tm_at "w"
        exact k2 (fun _ => ⟨x, p, hx, hp, hw⟩) _ (Same.trans s1 s2)
    · tm_at "w"
      exact k2 (fun e => absurd e (by omega)) _ s1
/-! first_wrong -/
def sp_first_wrong (C : Addr) (K : PySem.W.Frag) : Sp := fun vs H Q _ => ∃ (b : Bk) (P : List (List Nat)) (a : Addr) (S : List Tr), vs = [.ref b.b, .ref a] ∧ BookAt C H b P ∧ SchAt H a S ∧ S.length = P.length ∧ (∀ e ∈ S, 0 ≤ e.1 ∧ e.2.2.length ≤ 1000) ∧ P.length ≤ 1000 ∧
  (rightTo P S P.length 0 → ∀ H', Same H H' → Q .non H') ∧ (∀ x p, x < P.length → p < P.length → rightTo P S x p → saysI S x p ≠ isA P x p → ∀ t H', Same H H' → H' t = some (.tup [.int (x : Int), .int (p : Int)]) → Q (.ref t) H')
theorem sc_first_wrong : FnScope ["book", "scheme"] ["book", "scheme"] (defScope s_first_wrong) := ⟨rfl, rfl, rfl, by decide +kernel, rfl, by decide +kernel, by decide +kernel⟩
theorem ok_first_wrong (T : Top K mg) : FnOk P w K mg base CX0 5 T.f_first_wrong T.fd_first_wrong ["book", "scheme"] (sp_first_wrong T.C_Book K) := by
  have G_check_scheme := ok_check_scheme (P := P) (w := w) (base := base) T
  have G_many_of := ok_many_of (P := P) (w := w) (base := base) T
  have G_wrong_pair := ok_wrong_pair (P := P) (w := w) (base := base) T
  refine T.F_first_wrong.ok sc_first_wrong (fun vs H Q E h => ?_) (fun cdv A outer s H vs Q E hr h => ?_)
  · obtain ⟨b, P, a, S, rfl, _⟩ := h
    rfl
  · obtain ⟨b, P, a, S, rfl, hb, hS, ol, h0, hn, k, k2⟩ := h
    refine ⟨_, (pss_cons (ps_expr (pe_call G_check_scheme hr (by rfl) T.g_check_scheme T.F_check_scheme.kp T.b_check_scheme .nil pass0 (pa_cons (pv 1) pa_nil)))
      (pss_cons (ps_if (pt_cmpR op_ne (pe_callB (r := rLenQ K) (id := "len") call_len_seq (by rfl) T.z_len (by decide +kernel) (pa_cons (pv 1) pa_nil)) (pe_call G_many_of (hr.mono (by decide)) (by rfl) T.g_many_of T.F_many_of.kp T.b_many_of .nil pass0 (pa_cons (pv 0) pa_nil)) (nomark _)) (pss_one ps_never) pss_nil)
      (pss_one (ps_ret (pe_call G_wrong_pair (hr.mono (by decide)) (by rfl) T.g_wrong_pair T.F_wrong_pair.kp T.b_wrong_pair .nil pass0 (pa_cons (pv 0) (pa_cons (pv 1) pa_nil))))))), ?_⟩
    tm_at "w"
    refine ⟨a, S, rfl, hS, h0, by omega, fun H1 s1 => ?_⟩
    obtain ⟨vs, ha, hl, _⟩ := id (hS.tk (Same.tk s1))
    tm_at "w"
    refine ⟨b, P, rfl, hb.same s1, ?_⟩
    tm_at "w"
    refine iteEF (by rw [hl, ol, decide_eq_true rfl]; rfl) ?_
    tm_at "w"
    exact ⟨b, P, a, S, rfl, hb.same s1, hS.tk (Same.tk s1), ol, fun e he => (h0 e he).1, hn, fun hr H2 s2 => k hr _ (Same.trans s1 s2), fun x p hx hp hr hw t H2 s2 ht => k2 x p hx hp hr hw t _ (Same.trans s1 s2) ht⟩
/-! slots_of -/
def sp_slots_of (K : PySem.W.Frag) : Sp := fun vs H Q _ => ∃ (a : Addr) (S : List Tr), vs = [.ref a] ∧ SchAt H a S ∧ (∀ e ∈ S, Good e) ∧ S.length ≤ 1000 ∧ ∀ (r : Addr) H', Same H H' → H r = none → H' r = some (.tup ((S.map (·.1)).map V.int)) → Q (.ref r) H'
theorem sc_slots_of : FnScope ["scheme", "item"] ["scheme"] (defScope s_slots_of) := ⟨rfl, rfl, rfl, by decide +kernel, rfl, by decide +kernel, by decide +kernel⟩
theorem ok_slots_of (T : Top K mg) : FnOk P w K mg base CX0 5 T.f_slots_of T.fd_slots_of ["scheme"] (sp_slots_of K) := by
  have G_check_scheme := ok_check_scheme (P := P) (w := w) (base := base) T
  refine T.F_slots_of.ok sc_slots_of (fun vs H Q E h => ?_) (fun cdv A outer s H vs Q E hr h => ?_)
  · obtain ⟨a, S, rfl, _⟩ := h
    rfl
  · obtain ⟨a, S, rfl, hS, hg, hn, k⟩ := h
    refine ⟨_, (pss_cons (ps_expr (pe_call G_check_scheme hr (by rfl) T.g_check_scheme T.F_check_scheme.kp T.b_check_scheme .nil pass0 (pa_cons (pv 0) pa_nil)))
      (pss_one (ps_ret (pe_callTy (r := rTupQ K) (T := "tuple") call_tuple_of (by rfl) T.z_tuple (by decide +kernel) (pa_cons (pe_lc (own := [("item", 1)]) (g := gName 1) (tt := tYes) rfl sc_slots_of.nd (pi_tup (pv 0)) (blkOk_by (own := [("item", 1)]) (N := ["scheme", "item"]) (sc := defScope s_slots_of) (by decide +kernel)) (fun _ _ _ _ _ => (pg_name (i := 1) sc_slots_of.nd rfl (Or.inl rfl))) (fun _ _ _ _ _ => pts_nil) (fun _ _ _ _ _ => (pe_ix (r := rIxT K) ix_tup (pv 1) pe_int (fun _ _ => rfl)))) pa_nil))))), ?_⟩
    refine ⟨_, rfl, a, S, rfl, hS, hg, hn, fun H1 s1 => ?_⟩
    obtain ⟨vs, ha, hl, hv⟩ := hS.tk (Same.tk s1)
    tm_at "w"
    refine ⟨⟨_, SqT.of ha⟩, fun D nD => lc_tupF (fun i => S[i]?.map fun e => V.int e.1) ha nD (by omega) ?_ ?_⟩
    · intro i x H' N M hx s2 kN kM
      have il : i < S.length := by
        have q := (List.getElem?_eq_some_iff.mp hx).1
        omega
      obtain ⟨v, hv1, p, q, rfl, hp, hq⟩ := hv i _ (List.getElem?_eq_getElem il)
      have ev : x = .ref p := Option.some.inj (hx.symm.trans hv1)
      subst ev
      tm_at "w"
      exact kN _ _ (by rw [List.getElem?_eq_getElem il]; rfl) (Same.refl H')
    · intro H' s2 hD
      have e : (List.range vs.length).filterMap (fun i => S[i]?.map fun e => V.int e.1) = (S.map (·.1)).map V.int := by
        rw [hl, List.map_map]
        exact range_items S _
      rw [e] at hD
      tm_at "w"
      intro r nr
      have s3 : Same H H' := Same.trans s1 s2
      exact k r _ (Same.new s3 nr) (s3.free nr) upd_same
/-! many_slots -/
def sp_many_slots (K : PySem.W.Frag) : Sp := fun vs H Q _ => ∃ (a : Addr) (S : List Tr), vs = [.ref a] ∧ SchAt H a S ∧ (∀ e ∈ S, Good e) ∧ S.length ≤ 1000 ∧ ∀ (ks : List Int) H', Same H H' → ks.Nodup → (∀ k, k ∈ ks ↔ k ∈ S.map (·.1)) → Q (.int (ks.length : Nat)) H'
theorem sc_many_slots : FnScope ["scheme"] ["scheme"] (defScope s_many_slots) := ⟨rfl, rfl, rfl, by decide +kernel, rfl, by decide +kernel, by decide +kernel⟩
theorem ok_many_slots (T : Top K mg) : FnOk P w K mg base CX0 6 T.f_many_slots T.fd_many_slots ["scheme"] (sp_many_slots K) := by
  have G_slots_of := ok_slots_of (P := P) (w := w) (base := base) T
  refine T.F_many_slots.ok sc_many_slots (fun vs H Q E h => ?_) (fun cdv A outer s H vs Q E hr h => ?_)
  · obtain ⟨a, S, rfl, _⟩ := h
    rfl
  · obtain ⟨a, S, rfl, hS, hg, hn, k⟩ := h
    refine ⟨_, (pss_one (ps_ret (pe_lenSetU (by rfl) T.z_len (by rfl) T.z_set (pe_call G_slots_of hr (by rfl) T.g_slots_of T.F_slots_of.kp T.b_slots_of .nil pass0 (pa_cons (pv 0) pa_nil))))), ?_⟩
    refine ⟨_, rfl, a, S, rfl, hS, hg, hn, fun r H1 s1 _ hr1 => ?_⟩
    exact ⟨r, _, rfl, SqT.of hr1, by rw [List.length_map]; omega, fun ks nd hm => k ks _ s1 nd hm⟩
/-! scheme_of -/
theorem snoc_at {R : Nat → V → Prop} {acc : List V} {x : V} {i : Nat} (hl : acc.length = i) (h : ∀ (j : Nat) v, acc[j]? = some v → R j v) (hx : R i x) : ∀ (j : Nat) v, (acc ++ [x])[j]? = some v → R j v := fun j v e => by
  by_cases hj : j < acc.length
  · rw [List.getElem?_append_left hj] at e
    exact h j v e
  · rw [List.getElem?_append_right (by omega)] at e
    have q := (List.getElem?_eq_some_iff.mp e).1
    rw [List.length_singleton] at q
    have ej : j = i := by omega
    rw [ej, hl, Nat.sub_self] at e
    rw [ej, ← Option.some.inj e]
    exact hx
theorem inV_nats (k : Nat) (q : List Nat) : inV (.int (k : Int)) (natsV q) = decide (k ∈ q) := by
  have e : natsV q = (q.map fun z : Nat => (z : Int)).map V.int := by unfold natsV; rw [List.map_map]; rfl
  rw [e, inV_int]
  refine decide_eq_decide.mpr ⟨fun h => ?_, fun h => List.mem_map.mpr ⟨k, h, rfl⟩⟩
  obtain ⟨z, hz, ez⟩ := List.mem_map.mp h
  rw [show k = z by omega]
  exact hz
theorem flat_nats (q : List Nat) : (natsV q).all flatV = true := List.all_eq_true.mpr fun v hv => by
  unfold natsV at hv
  obtain ⟨n, _, rfl⟩ := List.mem_map.mp hv
  rfl
theorem at_neg1 {q : List Nat} (h : q ≠ []) : atI (natsV q) (-1) = some (.int ((q.getLastD 0 : Nat) : Int)) := by
  have hl : 0 < q.length := List.length_pos_iff.mpr h
  unfold atI
  have e : ixN (natsV q).length (-1) = some (q.length - 1) := by
    rw [natsV_len]
    unfold ixN
    rw [if_neg (by decide), if_pos (by omega)]
    congr 1
    omega
  rw [e]
  refine natsV_at ?_
  rw [List.getElem?_eq_getElem (by omega), ← List.getLast_eq_getElem h, List.getLastD_eq_getLast?, List.getLast?_eq_getLast h]
  rfl
theorem filter_list (q : List Nat) (c : Nat → Bool) : (List.range (natsV q).length).filterMap (fun i => q[i]?.bind fun s => if c s = true then some (V.int (s : Int)) else none) = natsV (q.filter c) := by
  rw [natsV_len]
  have h1 : (List.range q.length).filterMap (fun i => q[i]?.bind fun s => if c s = true then some (V.int (s : Int)) else none) = q.filterMap fun s => if c s = true then some (V.int (s : Int)) else none := by
    have key : ∀ n, n ≤ q.length → (List.range n).filterMap (fun i => q[i]?.bind fun s => if c s = true then some (V.int (s : Int)) else none) = (q.take n).filterMap fun s => if c s = true then some (V.int (s : Int)) else none := by
      intro n
      induction n with
      | zero => intro _; rfl
      | succ n ih =>
        intro h
        rw [filterMap_range_succ, ih (by omega), List.take_add_one, List.filterMap_append]
        rw [List.getElem?_eq_getElem (show n < q.length by omega)]
        congr 1
    rw [key _ (Nat.le_refl _), List.take_length]
  rw [h1]
  induction q with
  | nil => rfl
  | cons p r ih =>
    have ih2 : r.filterMap (fun s => if c s = true then some (V.int (s : Int)) else none) = natsV (r.filter c) := by
      clear ih h1
      induction r with
      | nil => rfl
      | cons p r ih =>
        rw [List.filterMap_cons, List.filter_cons]
        cases e : c p with
        | true => rw [if_pos rfl, if_pos rfl]; show _ :: _ = V.int (p : Int) :: natsV (r.filter c); rw [ih]
        | false => simp only [Bool.false_eq_true, if_false]; exact ih
    rw [List.filterMap_cons, List.filter_cons]
    cases e : c p with
    | true => rw [if_pos rfl, if_pos rfl]; show _ :: _ = V.int (p : Int) :: natsV (r.filter c); rw [ih2]
    | false => simp only [Bool.false_eq_true, if_false]; exact ih2
theorem cat_any {K : PySem.W.Frag} {H : Hp} {a b : Addr} {xs ys : List V} {Q : VK} (hx : H a = some (.tup xs)) (hy : H b = some (.tup ys)) (hl : xs.length + ys.length ≤ sizeLine)
    (k : ∀ p H', Same H H' → H' p = some (.tup (xs ++ ys)) → Q (.ref p) H') : rCatA K (.ref a) (.ref b) H Q := by
  refine ⟨a, b, xs, ys, rfl, rfl, SqT.of hx, SqT.of hy, hl, fun e => ?_, fun _ e => ?_, fun _ _ p np => ?_⟩
  · exact k b H (Same.refl H) (by rw [hy, e]; rfl)
  · exact k a H (Same.refl H) (by rw [hx, e, List.append_nil])
  · exact k p _ (Same.new (Same.refl H) np) upd_same
theorem TK.mutD {H : Hp} {p : Addr} {o : HO} {kvs : List (Key × V)} (h : H p = some (.dK kvs)) : TK H (upd H p o) := fun a xs e => upd_at (ne_of e h (by intro z; cases z)) e
/-- a dict of places: the slot, the number -/
def PlG (H : Hp) (kvs : List (Key × V)) (D : List (List Nat)) (dom : Nat → Prop) : Prop := ∀ k, dom k → ∃ (t : Addr) (s b : Nat) (q : List Nat), valV kvs (.inl (k : Int)) = some (.ref t) ∧ H t = some (.tup [.int (s : Int), .int ((b : Int) + 1)]) ∧ D[s]? = some q ∧ q[b]? = some k
theorem PlG.tk {H H' : Hp} {kvs : List (Key × V)} {D : List (List Nat)} {dom : Nat → Prop} (h : PlG H kvs D dom) (k : TK H H') : PlG H' kvs D dom := fun x hx => by
  obtain ⟨t, s, b, q, e1, e2, e3⟩ := h x hx
  exact ⟨t, s, b, q, e1, k _ _ e2, e3⟩
theorem PlG.mono {H : Hp} {kvs : List (Key × V)} {D : List (List Nat)} {dom dom' : Nat → Prop} (h : PlG H kvs D dom) (i : ∀ k, dom' k → dom k) : PlG H kvs D dom' := fun x hx => h x (i x hx)
theorem PlG.put {H : Hp} {kvs : List (Key × V)} {D : List (List Nat)} {dom : Nat → Prop} (h : PlG H kvs D dom) {t : Addr} {s b k : Nat} {q : List Nat} (ht : H t = some (.tup [.int (s : Int), .int ((b : Int) + 1)])) (h1 : D[s]? = some q) (h2 : q[b]? = some k) :
    PlG H (putK kvs (.inl (k : Int)) (.ref t)) D (fun x => dom x ∨ x = k) := fun x hx => by
  by_cases e : x = k
  · subst e
    exact ⟨t, s, b, q, by rw [valV_put, if_pos rfl], ht, h1, h2⟩
  · rcases hx with hx | hx
    · obtain ⟨t', s', b', q', e1, e2⟩ := h x hx
      refine ⟨t', s', b', q', ?_, e2⟩
      rw [valV_put, if_neg (fun z => e (by injection z with z; omega))]
      exact e1
    · exact absurd hx e
/-- the triples that stand in a list -/
theorem sch_pick {H : Hp} {R : Nat → Tr → Prop} {acc : List V} (h : ∀ (j : Nat) v, acc[j]? = some v → ∃ e, R j e ∧ Trip H v e) : ∃ S : List Tr, ScL H acc S ∧ ∀ (j : Nat) e, S[j]? = some e → R j e := by
  obtain ⟨f, hf⟩ := Classical.axiomOfChoice (r := fun (j : Nat) (e : Tr) => j < acc.length → ∃ v, acc[j]? = some v ∧ R j e ∧ Trip H v e) (fun j => by
    by_cases hj : j < acc.length
    · obtain ⟨e, h1, h2⟩ := h j _ (List.getElem?_eq_getElem hj)
      exact ⟨e, fun _ => ⟨_, List.getElem?_eq_getElem hj, h1, h2⟩⟩
    · exact ⟨(0, 0, []), fun z => absurd z hj⟩)
  have at' : ∀ (j : Nat) e, ((List.range acc.length).map f)[j]? = some e → j < acc.length ∧ e = f j := fun j e he => by
    have hj := (List.getElem?_eq_some_iff.mp he).1
    rw [List.length_map, List.length_range] at hj
    rw [List.getElem?_map, List.getElem?_range hj] at he
    exact ⟨hj, (Option.some.inj he).symm⟩
  refine ⟨(List.range acc.length).map f, ⟨by rw [List.length_map, List.length_range], fun j e he => ?_⟩, fun j e he => ?_⟩
  · obtain ⟨hj, rfl⟩ := at' j e he
    obtain ⟨v, h1, h2, h3⟩ := hf j hj
    exact ⟨v, h1, h3⟩
  · obtain ⟨hj, rfl⟩ := at' j e he
    obtain ⟨v, h1, h2, h3⟩ := hf j hj
    exact h2
/-- the triple that the document names, by a dealing -/
def DueR (P D : List (List Nat)) (x : Nat) (e : Tr) : Prop := ∃ (s b : Nat) (q : List Nat), D[s]? = some q ∧ q[b]? = some x ∧ e = ((s : Int), (b : Int) + 1, D.map fun row => ((ownB P x row).length : Int))
section
variable {P D : List (List Nat)} {m : Nat}
theorem due_one (d : Deal P m D) {x : Nat} {e e' : Tr} (h : DueR P D x e) (h' : DueR P D x e') : e = e' := by
  obtain ⟨s, b, q, h1, h2, rfl⟩ := h
  obtain ⟨s', b', q', h3, h4, rfl⟩ := h'
  obtain ⟨rfl, rfl, rfl⟩ := d.one h1 h2 h3 h4
  rfl
theorem due_all (d : Deal P m D) {S S' : List Tr} (hl : S.length = S'.length) (h : ∀ (x : Nat) e, S[x]? = some e → DueR P D x e) (h' : ∀ (x : Nat) e, S'[x]? = some e → DueR P D x e) : S = S' := by
  refine List.ext_getElem? fun j => ?_
  by_cases hj : j < S.length
  · have e1 := List.getElem?_eq_getElem hj
    have e2 := List.getElem?_eq_getElem (show j < S'.length by omega)
    rw [e1, e2, due_one d (h j _ e1) (h' j _ e2)]
  · rw [List.getElem?_eq_none (by omega), List.getElem?_eq_none (by omega)]
theorem due_ok {S : List Tr} (hR : RtP P) (d : Deal P P.length D) (hn : P.length ≤ 400) (hl : S.length = P.length) (h : ∀ (x : Nat) e, S[x]? = some e → DueR P D x e) : SchOk P S := by
  refine ⟨hl, fun e he => ?_, fun x p ex ep h1 h2 => ?_⟩
  · obtain ⟨x, hx⟩ := List.mem_iff_getElem?.mp he
    obtain ⟨s, b, q, _, _, rfl⟩ := h x e hx
    have := d.many
    refine ⟨Int.natCast_nonneg _, ?_⟩
    show (D.map _).length ≤ 1000
    rw [List.length_map]
    omega
  · obtain ⟨s', b', q', _, _, rfl⟩ := h x ex h1
    obtain ⟨s, b, q, hs, hb, rfl⟩ := h p ep h2
    have sl := (List.getElem?_eq_some_iff.mp hs).1
    have t := chn_count hR x (d.chain q (List.mem_of_getElem? hs)) hb
    unfold saysB
    show (decide ((s : Int) < ((D.map fun row => ((ownB P x row).length : Int)).length : Int)) && decide ((b : Int) + 1 ≤ (D.map fun row => ((ownB P x row).length : Int)).getD ((s : Int)).toNat 0)) = _
    rw [Int.toNat_natCast, List.length_map, decide_eq_true (by omega), Bool.true_and, List.getD_eq_getElem?_getD, List.getElem?_map, hs]
    show decide ((b : Int) + 1 ≤ ((ownB P x q).length : Int)) = _
    rw [Bool.eq_iff_iff, decide_eq_true_eq, ← t]
    show (b : Int) + 1 ≤ ((q.filter fun k => isA P x k).length : Int) ↔ _
    omega
theorem Deal.perm (d : Deal P m D) {D' : List (List Nat)} (p : D'.Perm D) : Deal P m D' :=
  ⟨fun q h => d.full q (p.mem_iff.mp h), fun q h => d.chain q (p.mem_iff.mp h), fun q h => d.asc q (p.mem_iff.mp h), p.flatten.trans d.all⟩
end
def sp_scheme_of (C : Addr) (K : PySem.W.Frag) : Sp := fun vs H Q _ => ∃ (l : Bk) (P : List (List Nat)) (a : Addr) (D : List (List Nat)), vs = [.ref l.b, .ref a] ∧ BookAt C H l P ∧ ParAt H a D ∧ Deal P P.length D ∧ RtP P ∧ P.length ≤ 400 ∧ ∀ t S H', Same H H' → SchAt H' t S → S.length = P.length → (∀ (x : Nat) e, S[x]? = some e → DueR P D x e) → Q (.ref t) H'
theorem sc_scheme_of : FnScope ["book", "dealing", "place", "found", "x", "slot", "row", "entries", "number", "kind"] ["book", "dealing"] (defScope s_scheme_of) := ⟨rfl, rfl, rfl, by decide +kernel, rfl, by decide +kernel, by decide +kernel⟩
theorem ok_scheme_of (T : Top K mg) : FnOk P w K mg base CX0 6 T.f_scheme_of T.fd_scheme_of ["book", "dealing"] (sp_scheme_of T.C_Book K) := by
  have G_is_dealing := ok_is_dealing (P := P) (w := w) (base := base) T
  have G_is_one := ok_is_one (P := P) (w := w) (base := base) T
  have G_many_of := ok_many_of (P := P) (w := w) (base := base) T
  refine T.F_scheme_of.ok sc_scheme_of (fun vs H Q E h => ?_) (fun cdv A outer s H vs Q E hr h => ?_)
  · obtain ⟨l, P, a, D, rfl, _⟩ := h
    rfl
  · obtain ⟨l, P, a, D, rfl, hl, hD, de, hR, hn, k⟩ := h
    refine ⟨_, (pss_cons (ps_if (pt_not (pt_val (pe_call G_is_dealing hr (by rfl) T.g_is_dealing T.F_is_dealing.kp T.b_is_dealing .nil pass0 (pa_cons (pv 0) (pa_cons (pv 1) pa_nil))))) (pss_one ps_never) pss_nil)
      (pss_cons (ps_set (i := 2) sc_scheme_of.nd rfl (Or.inl rfl) pe_dnewK)
      (pss_cons (ps_for PassesOwn.never rfl (pi_enumT (by rfl) T.z_enumerate (pa_cons (pv 1) pa_nil)) (pg_tup rfl (pgs_cons (pg_name (i := 5) sc_scheme_of.nd rfl (Or.inl rfl)) (pgs_cons (pg_name (i := 6) sc_scheme_of.nd rfl (Or.inl rfl)) pgs_nil)))
      (pss_one (ps_for PassesOwn.never rfl (pi_enumT (by rfl) T.z_enumerate (pa_cons (pv 6) pa_nil)) (pg_tup rfl (pgs_cons (pg_name (i := 8) sc_scheme_of.nd rfl (Or.inl rfl)) (pgs_cons (pg_name (i := 9) sc_scheme_of.nd rfl (Or.inl rfl)) pgs_nil)))
      (pss_one (ps_dput (Nat.lt_of_le_of_lt (Nat.add_le_add_left (by decide) _) hr.units) (pv 2) (pv 9) (pe_tup (pa_cons (pv 5) (pa_cons (pe_op op_add (pv 8) pe_int) pa_nil))) rfl)))))
      (pss_cons (ps_set (i := 3) sc_scheme_of.nd rfl (Or.inl rfl) (pe_lst pa_nil))
      (pss_cons (ps_for PassesOwn.never rfl (pi_range1 rfl T.z_range (pa_cons (pe_call G_many_of (hr.mono (by decide)) (by rfl) T.g_many_of T.F_many_of.kp T.b_many_of .nil pass0 (pa_cons (pv 0) pa_nil)) pa_nil)) (pg_name (i := 4) sc_scheme_of.nd rfl (Or.inr rfl))
      (pss_cons (ps_setLc (i := 7) (own := [("row", 6)]) (g := gName 6) (tt := tYes) rfl sc_scheme_of.nd rfl rfl (sw_true rfl rfl rfl (by decide +kernel)) (pi_tup (pv 1)) (blkOk_by (own := [("row", 6)]) (N := ["book", "dealing", "place", "found", "x", "slot", "row", "entries", "number", "kind"]) (sc := defScope s_scheme_of) (by decide +kernel)) (fun _ _ _ _ _ => (pg_name (i := 6) sc_scheme_of.nd rfl (Or.inl rfl))) (fun _ _ _ _ _ => pts_nil) (fun _ _ _ _ _ => (pe_callB (r := rLenQ K) (id := "len") call_len_seq (by rfl) T.z_len (by decide +kernel) (pa_cons (by exact (pe_lc (own := [("kind", 9)]) (g := gName 9) rfl sc_scheme_of.nd (pi_tupK (K := K) rfl (pv 6)) (blk_in (own := [("kind", 9)]) (N := ["book", "dealing", "place", "found", "x", "slot", "row", "entries", "number", "kind"]) (sc1 := defScope s_scheme_of) rfl rfl (by decide +kernel)) (fun _ _ _ _ _ => (pg_name (i := 9) sc_scheme_of.nd rfl (Or.inl rfl))) (fun _ _ _ _ _ => (pts_one (pt_val (pe_call G_is_one (hr.mono (by decide)) (by rfl) T.g_is_one T.F_is_one.kp T.b_is_one .nil pass0 (pa_cons (pv 0) (pa_cons (pv 4) (pa_cons (pv 9) pa_nil))))))) (fun _ _ _ _ _ => (pv 9)))) pa_nil))))
      (pss_one (ps_expr (pe_bm PySem.F.plainAttrs_list PySem.F.slot_list_append PySem.F.type_list_append mt_append (pv 3) (pa_cons (pe_op op_catA (pe_dget (Nat.lt_of_le_of_lt (Nat.add_le_add_left (by decide) _) hr.units) (pv 2) (pv 4) (fun _ _ => rfl)) (pe_tup (pa_cons (pe_callTy (r := rTupQ K) (T := "tuple") call_tuple_of (by rfl) T.z_tuple (by decide +kernel) (pa_cons (pv 7) pa_nil)) pa_nil))) pa_nil))))))
      (pss_one (ps_ret (pe_callTy (r := rTupQ K) (T := "tuple") call_tuple_of (by rfl) T.z_tuple (by decide +kernel) (pa_cons (pv 3) pa_nil))))))))), ?_⟩
    have dm := de.many
    tm_at "w"
    refine ⟨l, P, a, D, rfl, hl, hD, de, hn, fun H1 s1 => ?_⟩
    tm_at "w"
    intro pl npl
    have s2 : Same H (upd H1 pl (.dK [])) := Same.new s1 npl
    obtain ⟨ws, hws, hwl, hwi⟩ := id (hD.tk (Same.tk s1))
    have hD2 := (Same.new (o := .dK []) (Same.refl H1) npl) _ _ hws
    tm_at "w"
    refine ⟨_, _, rfl, SqT.of hD2, for_enumT (K := K) (a := a) (xs := ws) (fun i σ H' => ∃ u5 u6 u8 u9, σ = [some (.ref l.b), some (.ref a), some (.ref pl), none, none, u5, u6, none, u8, u9] ∧ Same H1 H' ∧ ∃ kvs, H' pl = some (.dK kvs) ∧ kvs.length ≤ (D.take i).flatten.length ∧ PlG H' kvs D (fun k => ∃ s q, s < i ∧ D[s]? = some q ∧ k ∈ q)) ?_ ?_ ?_ ?_⟩
    · exact ⟨_, _, _, _, rfl, Same.new (Same.refl H1) npl, [], upd_same, Nat.zero_le _, fun k ⟨s, q, h, _⟩ => absurd h (Nat.not_lt_zero s)⟩
    · rintro i σ H' ⟨_, _, _, _, rfl, s, _⟩
      exact SqT.of (s _ _ hws)
    · rintro i x t σ H6 hx ⟨u5, u6, u8, u9, rfl, s6, kvs, hpl, hkl, hpo⟩ nt
      obtain ⟨ai, q, rfl, qi, hai⟩ := ParL.here ⟨hwl, hwi⟩ hx
      have il := (List.getElem?_eq_some_iff.mp qi).1
      have qm := List.mem_of_getElem? qi
      have ql := de.long qm
      have s7 : Same H1 (upd H6 t (.tup [.int (i : Int), .ref ai])) := Same.new s6 nt
      have hai7 := s7 _ _ hai
      tm_at "w"
      refine ⟨_, _, rfl, SqT.of hai7, for_enumT (K := K) (a := ai) (xs := natsV q) (fun j σ H' => ∃ u8 u9, σ = [some (.ref l.b), some (.ref a), some (.ref pl), none, none, some (.int (i : Int)), some (.ref ai), none, u8, u9] ∧ Same H1 H' ∧ ∃ kvs, H' pl = some (.dK kvs) ∧ kvs.length ≤ (D.take i).flatten.length + j ∧ PlG H' kvs D (fun k => (∃ s q, s < i ∧ D[s]? = some q ∧ k ∈ q) ∨ k ∈ q.take j)) ?_ ?_ ?_ ?_⟩
      · refine ⟨_, _, rfl, s7, kvs, (Same.new (Same.refl _) nt) _ _ hpl, by omega, (hpo.tk (TK.new nt)).mono fun k hk => ?_⟩
        rcases hk with hk | hk
        · exact hk
        · simp at hk
      · rintro j σ H' ⟨_, _, rfl, s, _⟩
        exact SqT.of (s _ _ hai)
      · rintro j v t2 σ H8 hv ⟨u8, u9, rfl, s8, kvs, hpl, hkl, hpo⟩ nt2
        obtain ⟨kd, hkd, rfl, jl⟩ := natsV_here hv
        tm_at "w"
        intro p np
        have hpl9 : ∀ o, upd (upd H8 t2 (.tup [.int (j : Int), .int (kd : Int)])) p o pl = some (.dK kvs) := fun o => (Same.new (Same.new (Same.refl H8) nt2) np) _ _ hpl
        have lk : kvs.length ≤ 100000 := by
          have h2 : (D.take i).flatten.length ≤ D.flatten.length := by
            have e : D.flatten = (D.take i).flatten ++ (D.drop i).flatten := by rw [← List.flatten_append, List.take_append_drop]
            rw [e, List.length_append]
            omega
          have h3 := de.flat_len
          omega
        tm_at "w"
        refine ⟨pl, _, rfl, .inl ⟨kvs, .inl (kd : Int), hpl9 _, rfl, lt_line lk, rfl⟩, ?_⟩
        have lp := length_putK kvs (.inl (kd : Int) : Key) (.ref p)
        refine ⟨_, _, rfl, Same.mut (Same.new (Same.new s8 nt2) np) npl, _, upd_same, by omega, ((((hpo.tk (TK.new nt2)).tk (TK.new np)).put upd_same qi hkd).tk (TK.mutD (hpl9 _))).mono fun x hx => ?_⟩
        rw [List.take_add_one, hkd] at hx
        rcases hx with hx | hx
        · exact .inl (.inl hx)
        · rcases List.mem_append.mp hx with hx | hx
          · exact .inl (.inr hx)
          · exact .inr (List.mem_singleton.mp hx)
      · rintro σ H8 ⟨u8, u9, rfl, s8, kvs, hpl, hkl, hpo⟩
        rw [natsV_len] at hkl hpo
        refine ⟨_, _, _, _, rfl, s8, kvs, hpl, by rw [List.take_add_one, qi, List.flatten_append, List.length_append]; simpa using hkl, hpo.mono fun k hk => ?_⟩
        obtain ⟨s, q', z1, z2, z3⟩ := hk
        by_cases e : s = i
        · subst e
          rw [qi] at z2
          exact .inr (by rw [List.take_length, Option.some.inj z2]; exact z3)
        · exact .inl ⟨s, q', by omega, z2, z3⟩
    · rintro σ H6 ⟨u5, u6, u8, u9, rfl, s6, kvs, hpl, hkl, hpo⟩
      rw [hwl] at hpo
      have hpo : PlG H6 kvs D (fun k => k < P.length) := hpo.mono fun k hk => by
        obtain ⟨s, b, q, h1, h2⟩ := de.place hk
        exact ⟨s, q, (List.getElem?_eq_some_iff.mp h1).1, h1, List.mem_of_getElem? h2⟩
      have hl6 := (hl.same s1).same s6
      tm_at "w"
      intro fd nfd
      have nfd6 := Same.free s6 nfd
      have hl7 := hl6.same (Same.new (o := .lst []) (Same.refl H6) nfd)
      tm_at "w"
      refine ⟨l, P, rfl, hl7, ?_⟩
      tm_at "w"
      refine for_range (lo := 0) (n := (P.length : Int).toNat) (fun i σ H' => ∃ u4 u7, σ = [some (.ref l.b), some (.ref a), some (.ref pl), some (.ref fd), u4, u5, u6, u7, u8, u9] ∧ Same H6 H' ∧ ∃ acc, H' fd = some (.lst acc) ∧ acc.length = i ∧ ∀ (j : Nat) v, acc[j]? = some v → ∃ e, DueR P D j e ∧ Trip H' v e) ?_ ?_ ?_
      · exact ⟨_, _, rfl, Same.new (Same.refl H6) nfd, [], upd_same, rfl, fun j v e => by simp at e⟩
      · rintro i σ H8 hi ⟨u4, u7, rfl, s8, acc, hfd, hal, hacc⟩
        rw [Int.zero_add]
        have il : i < P.length := by omega
        have hws8 := s8 _ _ (s6 _ _ hws)
        have hl8 := hl6.same s8
        tm_at "w"
        refine ⟨⟨_, SqT.of hws8⟩, fun E nE => lc_tupF (fun j => D[j]?.map fun row => V.int ((ownB P i row).length : Int)) hws8 nE (by omega) ?_ ?_⟩
        · intro j y H9 N M hy s9 kN kM
          obtain ⟨aj, q, rfl, hq, haj⟩ := ParL.here ⟨hwl, hwi⟩ hy
          have haj9 := s9 _ _ (s8 _ _ (s6 _ _ haj))
          have ql := de.long (List.mem_of_getElem? hq)
          have hl9 := hl8.same s9
          tm_at "w"
          refine ⟨⟨_, SqT.of haj9⟩, fun O nO => lc_tupF (fun j => q[j]?.bind fun k => if isA P i k = true then some (V.int (k : Int)) else none) haj9 nO (by rw [natsV_len]; omega) ?_ ?_⟩
          · intro z y2 H12 N2 M2 hy2 s12 kN2 kM2
            obtain ⟨kd, hkd, rfl, jl⟩ := natsV_here hy2
            tm_at "w"
            refine ⟨l, P, i, kd, rfl, hl9.same s12, il, ?_⟩
            refine ⟨_, rfl, ?_⟩
            refine iteB (fun e => ?_) (fun e => ?_)
            · tm_at "w"
              exact kN2 _ _ (by rw [hkd]; show (if isA P i kd = true then _ else _) = _; rw [if_pos e]) (Same.refl H12)
            · exact kM2 _ (by rw [hkd]; show (if isA P i kd = true then _ else _) = _; rw [e, if_neg (by decide)]) (Same.refl H12)
          · intro H12 s12 hO
            rw [filter_list] at hO
            have hO : H12 O = some (.lst (natsV (ownB P i q))) := hO
            tm_at "w"
            rw [natsV_len]
            exact kN _ _ (by rw [hq]; rfl) s12
        · intro H9 s9 hE
          have eE : (List.range ws.length).filterMap (fun j => D[j]?.map fun row => V.int ((ownB P i row).length : Int)) = (D.map fun row => ((ownB P i row).length : Int)).map V.int := by
            rw [hwl, List.map_map]
            exact range_items D _
          rw [eE] at hE
          have hpl9 := s9 _ _ (s8 _ _ hpl)
          have hfd9 := s9 _ _ hfd
          obtain ⟨t0, s0, b1, q1, e1, e2, e3, e4⟩ := hpo i il
          have e29 := s9 _ _ (s8 _ _ e2)
          tm_at "w"
          refine ⟨pl, _, rfl, .inl ⟨kvs, .inl _, .inl hpl9, rfl, e1.symm⟩, ?_⟩
          tm_at "w"
          intro te nte
          have s11 : Same H9 (upd H9 te (.tup ((D.map fun row => ((ownB P i row).length : Int)).map V.int))) := Same.new (Same.refl H9) nte
          tm_at "w"
          intro p1 np1
          have s12 : Same H9 (upd (upd H9 te (.tup ((D.map fun row => ((ownB P i row).length : Int)).map V.int))) p1 (.tup [.ref te])) := Same.new s11 np1
          refine cat_any (s12 _ _ e29) upd_same (by show 2 + 1 ≤ sizeLine; decide) fun p3 H14 s14 hp3 => ?_
          have s914 := Same.trans s12 s14
          have hfd14 := s914 _ _ hfd9
          have s614 : Same H6 H14 := Same.trans s8 (Same.trans s9 s914)
          have hte14 : H14 te = some (.tup ((D.map fun row => ((ownB P i row).length : Int)).map V.int)) := s14 _ _ ((Same.new (o := .tup [V.ref te]) (Same.refl _) np1) _ _ upd_same)
          have tk : TK H14 (upd H14 fd (.lst (acc ++ [.ref p3]))) := TK.mut hfd14
          have tk8 : TK H8 (upd H14 fd (.lst (acc ++ [.ref p3]))) := TK.trans (Same.tk s9) (TK.trans (Same.tk s914) tk)
          tm_at "w"
          refine ⟨_, _, rfl, Same.mut s614 nfd, acc ++ [.ref p3], upd_same, len_app hal, snoc_at hal (fun j v e => ?_) ⟨_, ⟨s0, b1, q1, e3, e4, rfl⟩, ⟨p3, te, rfl, ?_, tk _ _ hte14⟩⟩⟩
          · obtain ⟨e', h1, h2⟩ := hacc j v e
            exact ⟨e', h1, h2.tk tk8⟩
          · exact tk _ _ hp3
      · rintro σ H8 ⟨u4, u7, rfl, s8, acc, hfd, hal, hacc⟩
        obtain ⟨S, hS, hb⟩ := sch_pick hacc
        have hSl := hS.len
        tm_at "w"
        intro t nt
        refine k t S _ (Same.new (Same.trans s1 (Same.trans s6 s8)) nt) ((hS.tk (TK.new nt)).sch upd_same) (by omega) hb
/-! _law_tape -/
def sp__law_tape (K : PySem.W.Frag) : Sp := fun vs H Q _ => ∃ (a : Addr) (ns : List Int), vs = [.ref a] ∧ SqL K H a (ns.map V.int) ∧ ∀ (τ : Tp) (H' : Hp), τ.ns = ns → Same H H' → H τ.t = none → Tape τ H' → Q (.ref τ.t) H'
theorem sc__law_tape : FnScope ["_law_script"] ["_law_script"] (defScope s__law_tape) := ⟨rfl, rfl, rfl, by decide +kernel, rfl, by decide +kernel, by decide +kernel⟩
theorem ok__law_tape (T : Top K mg) : FnOk P w K mg base CX0 1 T.f__law_tape T.fd__law_tape ["_law_script"] (sp__law_tape K) := by
  refine T.F__law_tape.ok sc__law_tape (fun vs H Q E h => ?_) (fun cdv A outer s H vs Q E hr h => ?_)
  · obtain ⟨a, ns, rfl, _⟩ := h
    rfl
  · obtain ⟨a, ns, rfl, hS, k⟩ := h
    refine ⟨_, (pss_one (ps_ret (pe_lst (pa_cons (pe_callTy (r := rListQ K) (T := "list") call_list_of (by rfl) T.z_list (by decide +kernel) (pa_cons (pv 0) pa_nil)) (pa_cons pe_int (pa_cons pe_int (pa_cons pe_int (pa_cons pe_int pa_nil)))))))), ?_⟩
    refine ⟨_, rfl, a, _, rfl, .inl hS, fun l nl => ⟨by show 5 ≤ sizeLine; decide, fun t nt => ?_⟩⟩
    have wt : Nw _ t := ⟨nt⟩
    have ntl : l ≠ t := ne_of_none upd_same nt
    have s1 : Same H (upd H l (.lst (ns.map V.int))) := Same.new (Same.refl H) nl
    exact k ⟨t, l, ns⟩ _ rfl (Same.new s1 nt) (s1.free nt) ⟨by tm_at "hp", ntl, 0, 0, 1, 0, upd_same, by decide⟩
/-! _law_pick -/
section
open PySem.Spec PyProof.Rows
variable {X : Cx}
/-- // by a positive divisor below 2 ^ 256 -/
theorem op_fdivW : OpR X (binaryOp .FloorDiv) (rI (fun _ j => 0 < j ∧ j < 2 ^ 256) fun i j => .int (i.fdiv j)) := opI fun _ j _ _ _ _ _ hc q => by
  have h1 : (0 : Int) < j := hc.1
  have h2 : j < 2 ^ 256 := hc.2
  refine floordiv_int (by omega) q (.inl (PyProof.noPylong_of_log2 ?_))
  have n0 : j.natAbs ≠ 0 := by omega
  have : j.natAbs.log2 < 256 := (Nat.log2_lt n0).mpr (by omega)
  omega
end
theorem lt_pow {n : Int} (h : n < 2 ^ 64) : n < 2 ^ 256 := Int.lt_of_lt_of_le h (by decide)
def sp__law_pick (K : PySem.W.Frag) : Sp := fun vs H Q _ => ∃ (τ : Tp) (m : Int), vs = [.ref τ.t, .int m] ∧ Tape τ H ∧ 0 < m ∧ m < 2 ^ 256 ∧ ∀ (r : Int) (H' : Hp), Mv τ H H' → 0 ≤ r → r < m → Q (.int r) H'
theorem sc__law_pick : FnScope ["_law_tape_here", "_law_many", "_law_cell", "_law_mixed", "_law_digit"] ["_law_tape_here", "_law_many"] (defScope s__law_pick) := ⟨rfl, rfl, rfl, by decide +kernel, rfl, by decide +kernel, by decide +kernel⟩
theorem ok__law_pick (T : Top K mg) : FnOk P w K mg base CX0 1 T.f__law_pick T.fd__law_pick ["_law_tape_here", "_law_many"] (sp__law_pick K) := by
  refine T.F__law_pick.ok sc__law_pick (fun vs H Q E h => ?_) (fun cdv A outer s H vs Q E hr h => ?_)
  · obtain ⟨τ, m, rfl, _⟩ := h
    rfl
  · obtain ⟨τ, m, rfl, m0, hm, hm2, k⟩ := h
    refine ⟨_, (pss_cons (ps_if (pt_cmpR op_gt (pe_ix (r := rIxL K) ix_list (pv 0) pe_int (fun _ _ => rfl)) pe_int (nomark _)) (pss_cons (ps_set (i := 4) sc__law_pick.nd rfl (Or.inl rfl) (pe_op op_modN (pe_callTy (T := "int") call_int1 (by rfl) T.z_int (by decide +kernel) (pa_cons (pe_ix (r := rIxL K) ix_list (pv 0) pe_int (fun _ _ => rfl)) pa_nil)) (pv 1)))
      (pss_cons (ps_asg (pe_op op_fdivW (pe_ix (r := rIxL K) ix_list (pv 0) pe_int (fun _ _ => rfl)) (pv 1)) (pg_sub (pv 0) pe_int set_list))
      (pss_one (ps_ret (pv 4))))) pss_nil)
      (pss_cons (ps_asg (pe_op op_add (pe_ix (r := rIxL K) ix_list (pv 0) pe_int (fun _ _ => rfl)) pe_int) (pg_sub (pv 0) pe_int set_list))
      (pss_cons (ps_set (i := 2) sc__law_pick.nd rfl (Or.inl rfl) pe_int)
      (C8.pss_cut (ps_if (pt_cmpR op_lt (pe_ix (r := rIxL K) ix_list (pv 0) pe_int (fun _ _ => rfl)) (pe_callB (r := rLenQ K) (id := "len") call_len_seq (by rfl) T.z_len (by decide +kernel) (pa_cons (pe_ix (r := rIxL K) ix_list (pv 0) pe_int (fun _ _ => rfl)) pa_nil)) (nomark _)) (pss_cons (ps_set (i := 2) sc__law_pick.nd rfl (Or.inl rfl) (pe_ix (r := rIxL K) ix_list (pe_ix (r := rIxL K) ix_list (pv 0) pe_int (fun _ _ => rfl)) (pe_ix (r := rIxL K) ix_list (pv 0) pe_int (fun _ _ => rfl)) (fun _ _ => rfl)))
      (pss_one (ps_asg (pe_op op_add (pe_ix (r := rIxL K) ix_list (pv 0) pe_int (fun _ _ => rfl)) pe_int) (pg_sub (pv 0) pe_int set_list)))) pss_nil)
      (pss_cons (ps_if (pt_cmpR op_ge (pv 2) (pe_op op_pow pe_int pe_int) (nomark _)) (pss_cons (ps_asg (pe_op op_fdivW (pv 2) (pv 1)) (pg_sub (pv 0) pe_int set_list))
      (pss_one (ps_ret (pe_op op_modN (pe_callTy (T := "int") call_int1 (by rfl) T.z_int (by decide +kernel) (pa_cons (pv 2) pa_nil)) (pv 1))))) pss_nil)
      (pss_cons (ps_set (i := 3) sc__law_pick.nd rfl (Or.inl rfl) (pe_op op_modN (pe_callTy (T := "int") call_int1 (by rfl) T.z_int (by decide +kernel) (pa_cons (pe_op op_add (pe_op op_add (pe_op op_mul (pe_ix (r := rIxL K) ix_list (pv 0) pe_int (fun _ _ => rfl)) pe_int) (pe_op op_modN (pe_callTy (T := "int") call_int1 (by rfl) T.z_int (by decide +kernel) (pa_cons (pv 2) pa_nil)) pe_int)) (pe_op op_mul (pe_ix (r := rIxL K) ix_list (pv 0) pe_int (fun _ _ => rfl)) pe_int)) pa_nil)) pe_int))
      (pss_cons (ps_set (i := 3) sc__law_pick.nd rfl (Or.inl rfl) (pe_op op_modN (pe_callTy (T := "int") call_int1 (by rfl) T.z_int (by decide +kernel) (pa_cons (pe_op op_mul (pv 3) (pe_op op_add (pe_op op_fdivN (pv 3) pe_int) pe_int)) pa_nil)) pe_int))
      (pss_cons (ps_asg (pv 3) (pg_sub (pv 0) pe_int set_list))
      (pss_one (ps_ret (pe_op op_modN (pe_callTy (T := "int") call_int1 (by rfl) T.z_int (by decide +kernel) (pa_cons (pe_op op_fdivN (pv 3) pe_int) pa_nil)) (pv 1)))))))))))), ?_⟩
    obtain ⟨hl, nlt, i, c, s, n, ht, hi⟩ := id m0
    tm_at "w"
    refine iteD (fun hc => ?_) (fun hc => ?_)
    · tm_at "w"
      exact k _ _ (m0.mv.put rfl hi) (fmod_in hm).1 (fmod_in hm).2
    · tm_at "w"
      refine ⟨fun σ H' => ∃ v : Int, σ = [some (.ref τ.t), some (.int m), some (.int v), none, none] ∧ Mv τ H H', ?_, ?_⟩
      · tm_at "w"
        refine iteD (fun hc => ?_) (fun hc => ?_)
        · tm_at "w"
          obtain ⟨v, hv⟩ := at_ints hi hc
          refine ⟨_, _, _, _, rfl, rfl, by tm_at "sq", hv, ?_⟩
          tm_at "w"
          exact (m0.mv.put rfl hi).put rfl (by omega)
        · exact ⟨_, rfl, m0.mv.put rfl hi⟩
      · rintro σ H' ⟨v, rfl, m1⟩
        obtain ⟨hl, nlt, i, c, s, n, ht, hi⟩ := m1.now
        tm_at "w"
        refine iteD (fun hc => ?_) (fun hc => ?_)
        · tm_at "w"
          exact k _ _ (m1.put rfl hi) (fmod_in hm).1 (fmod_in hm).2
        · tm_at "w"
          exact k _ _ (m1.put rfl hi) (fmod_in hm).1 (fmod_in hm).2
/-! _law_great -/
theorem ten8 : (10 : Int) ^ Int.toNat 8 = 100000000 := by decide
theorem pow10_mono {a b : Nat} (h : a ≤ b) : (10 : Int) ^ a ≤ (10 : Int) ^ b := by
  have : (10 : Nat) ^ a ≤ 10 ^ b := Nat.pow_le_pow_right (by decide) h
  have e : ∀ n : Nat, (10 : Int) ^ n = ((10 ^ n : Nat) : Int) := fun n => by rw [Int.natCast_pow]; rfl
  rw [e, e]
  exact Int.ofNat_le.mpr this
def sp__law_great (K : PySem.W.Frag) : Sp := fun vs H Q _ => ∃ (τ : Tp), vs = [.ref τ.t] ∧ Tape τ H ∧ ∀ (r : Int) (H' : Hp), Mv τ H H' → r.natAbs < 2 ^ 240 → Q (.int r) H'
theorem sc__law_great : FnScope ["_law_tape_here", "_law_found", "_law_again"] ["_law_tape_here"] (defScope s__law_great) := ⟨rfl, rfl, rfl, by decide +kernel, rfl, by decide +kernel, by decide +kernel⟩
theorem ok__law_great (T : Top K mg) : FnOk P w K mg base CX0 2 T.f__law_great T.fd__law_great ["_law_tape_here"] (sp__law_great K) := by
  have G__law_pick := ok__law_pick (P := P) (w := w) (base := base) T
  refine T.F__law_great.ok sc__law_great (fun vs H Q E h => ?_) (fun cdv A outer s H vs Q E hr h => ?_)
  · obtain ⟨τ, rfl, _⟩ := h
    rfl
  · obtain ⟨τ, rfl, m0, k⟩ := h
    refine ⟨_, (pss_cons (ps_if (pt_cmpR op_gt (pe_call G__law_pick hr (by rfl) T.g__law_pick T.F__law_pick.kp T.b__law_pick .nil pass0 (pa_cons (pv 0) (pa_cons pe_int pa_nil))) pe_int (nomark _)) (pss_one (ps_ret (pe_op op_sub (pe_call G__law_pick hr (by rfl) T.g__law_pick T.F__law_pick.kp T.b__law_pick .nil pass0 (pa_cons (pv 0) (pa_cons pe_int pa_nil))) pe_int))) pss_nil)
      (pss_cons (ps_set (i := 1) sc__law_great.nd rfl (Or.inl rfl) pe_int)
      (pss_cons (ps_for PassesOwn.never rfl (pi_range1 rfl T.z_range (pa_cons (pe_op op_add pe_int (pe_call G__law_pick hr (by rfl) T.g__law_pick T.F__law_pick.kp T.b__law_pick .nil pass0 (pa_cons (pv 0) (pa_cons pe_int pa_nil)))) pa_nil)) (pg_name (i := 2) sc__law_great.nd rfl (Or.inl rfl))
      (pss_one (ps_set (i := 1) sc__law_great.nd rfl (Or.inl rfl) (pe_op op_add (pe_op op_mul (pv 1) (pe_op op_pow pe_int pe_int)) (pe_call G__law_pick hr (by rfl) T.g__law_pick T.F__law_pick.kp T.b__law_pick .nil pass0 (pa_cons (pv 0) (pa_cons (pe_op op_pow pe_int pe_int) pa_nil)))))))
      (pss_one (ps_ret (pe_op op_mul (pv 1) (pe_op op_sub pe_int (pe_op op_mul pe_int (pe_call G__law_pick hr (by rfl) T.g__law_pick T.F__law_pick.kp T.b__law_pick .nil pass0 (pa_cons (pv 0) (pa_cons pe_int pa_nil))))))))))), ?_⟩
    tm_at "w"
    refine ⟨τ, _, rfl, m0, by decide, by decide, fun r1 H1 m1 r0 r2 => ?_⟩
    tm_at "w"
    refine iteD (fun h1 => ?_) (fun h1 => ?_)
    · tm_at "w"
      refine ⟨τ, _, rfl, m1.now, by decide, by decide, fun r3 H2 m2 _ _ => ?_⟩
      tm_at "w"
      exact k _ _ (m1.trans m2) (by omega)
    · tm_at "w"
      refine ⟨τ, _, rfl, m1.now, by decide, by decide, fun r3 H2 m2 _ _ => ?_⟩
      tm_at "w"
      refine for_range (lo := 0) (n := (1 + r3).toNat) (fun i σ H' => ∃ (f : Int) (v : Option V), σ = [some (.ref τ.t), some (.int f), v] ∧ Mv τ H H' ∧ 0 ≤ f ∧ f < (10 : Int) ^ (8 * i)) ⟨0, none, rfl, m1.trans m2, by decide, by decide⟩ ?_ ?_
      · rintro i σ H' hi ⟨f, v, rfl, m, f0, f1⟩
        tm_at "w"
        refine ⟨τ, _, rfl, m.now, by decide, by decide, fun r4 H3 m3 p0 p1 => ?_⟩
        tm_at "w"
        refine ⟨_, _, rfl, m.trans m3, ?_, ?_⟩
        · rw [ten8]
          omega
        · rw [ten8, show 8 * (i + 1) = 8 * i + 8 by omega, Int.pow_add, show (10 : Int) ^ 8 = 100000000 by decide]
          rw [ten8] at p1
          generalize (10 : Int) ^ (8 * i) = z at *
          omega
      · rintro σ H' ⟨f, v, rfl, m, f0, f1⟩
        tm_at "w"
        refine ⟨τ, _, rfl, m.now, by decide, by decide, fun r4 H3 m3 q0 q1 => ?_⟩
        tm_at "w"
        refine k _ _ (m.trans m3) ?_
        have f2 : f < 2 ^ 240 := by
          refine Int.lt_of_lt_of_le f1 (Int.le_trans (pow10_mono (show 8 * (1 + r3).toNat ≤ 72 by omega)) (by decide))
        have : r4 = 0 ∨ r4 = 1 := by omega
        rcases this with rfl | rfl
        · rw [show (1 : Int) - 2 * 0 = 1 by decide, Int.mul_one]
          omega
        · rw [show (1 : Int) - 2 * 1 = -1 by decide]
          omega
/-! _law_parents -/
def sp__law_parents (K : PySem.W.Frag) : Sp := fun vs H Q _ => ∃ (τ : Tp) (n k : Nat), vs = [.ref τ.t, .int n, .int k] ∧ Tape τ H ∧ n ≤ 1000 ∧ k < 5 ∧
  ∀ a q H', Mv τ H H' → H' a = some (.tup (natsV q)) → OkL q n → Nw H a → Q (.ref a) H'
theorem sc__law_parents : FnScope ["_law_tape_here", "_law_number", "_law_kind", "_law_most", "_law_low", "_law_found", "_law_again"] ["_law_tape_here", "_law_number", "_law_kind"] (defScope s__law_parents) := ⟨rfl, rfl, rfl, by decide +kernel, rfl, by decide +kernel, by decide +kernel⟩
theorem ok__law_parents (T : Top K mg) : FnOk P w K mg base CX0 2 T.f__law_parents T.fd__law_parents ["_law_tape_here", "_law_number", "_law_kind"] (sp__law_parents K) := by
  have G__law_pick := ok__law_pick (P := P) (w := w) (base := base) T
  refine T.F__law_parents.ok sc__law_parents (fun vs H Q E h => ?_) (fun cdv A outer s H vs Q E hr h => ?_)
  · obtain ⟨τ, n, k, rfl, _⟩ := h
    rfl
  · obtain ⟨τ, n, k, rfl, m0, hn, hk, kk⟩ := h
    refine ⟨_, (pss_cons (ps_set (i := 3) sc__law_parents.nd rfl (Or.inl rfl) (pe_ix (r := rIxL K) ix_list (pe_lst (pa_cons pe_int (pa_cons pe_int (pa_cons pe_int (pa_cons pe_int (pa_cons pe_int pa_nil)))))) (pv 2) (fun _ _ => rfl)))
      (pss_cons (ps_set (i := 4) sc__law_parents.nd rfl (Or.inl rfl) (pe_callB (id := "max") (call_max2 rfl) (by rfl) T.z_max (by decide +kernel) (pa_cons pe_int (pa_cons (pe_op op_sub (pv 1) (pe_ix (r := rIxL K) ix_list (pe_lst (pa_cons (pv 1) (pa_cons (pv 1) (pa_cons pe_int (pa_cons (pv 1) (pa_cons (pv 1) pa_nil)))))) (pv 2) (fun _ _ => rfl))) pa_nil))))
      (pss_cons (ps_set (i := 5) sc__law_parents.nd rfl (Or.inl rfl) (pe_lst pa_nil))
      (pss_cons (ps_for PassesOwn.never rfl (pi_range1 rfl T.z_range (pa_cons (pe_call G__law_pick hr (by rfl) T.g__law_pick T.F__law_pick.kp T.b__law_pick .nil pass0 (pa_cons (pv 0) (pa_cons (pe_op op_add (pv 3) pe_int) pa_nil))) pa_nil)) (pg_name (i := 6) sc__law_parents.nd rfl (Or.inl rfl))
      (pss_one (ps_if (pt_cmpR op_gt (pv 1) (pv 4) (nomark _)) (pss_one (ps_expr (pe_bm PySem.F.plainAttrs_list PySem.F.slot_list_append PySem.F.type_list_append mt_append (pv 5) (pa_cons (pe_op op_add (pv 4) (pe_call G__law_pick hr (by rfl) T.g__law_pick T.F__law_pick.kp T.b__law_pick .nil pass0 (pa_cons (pv 0) (pa_cons (pe_op op_sub (pv 1) (pv 4)) pa_nil)))) pa_nil)))) pss_nil)))
      (pss_one (ps_ret (pe_callTy (r := rTupQ K) (T := "tuple") call_tuple_of (by rfl) T.z_tuple (by decide +kernel) (pa_cons (pe_callB (id := "sorted") (cr_sortedSet rfl) (by rfl) T.z_sorted (by decide +kernel) (pa_cons (pe_callTy (T := "set") (cr_setL rfl) (by rfl) T.z_set (by decide +kernel) (pa_cons (pv 5) pa_nil)) pa_nil)) pa_nil)))))))), ?_⟩
    tm_at "w"
    intro p1 np1
    obtain ⟨m, hm, em⟩ : ∃ m : Nat, m ≤ 6 ∧ atI [V.int 1, V.int 2, V.int 2, V.int 6, V.int 3] (k : Int) = some (.int (m : Int)) := by
      rcases (show k = 0 ∨ k = 1 ∨ k = 2 ∨ k = 3 ∨ k = 4 by omega) with rfl | rfl | rfl | rfl | rfl
      · exact ⟨1, by decide, rfl⟩
      · exact ⟨2, by decide, rfl⟩
      · exact ⟨2, by decide, rfl⟩
      · exact ⟨6, by decide, rfl⟩
      · exact ⟨3, by decide, rfl⟩
    refine ⟨_, rfl, _, _, _, _, rfl, rfl, SqL.of upd_same, em, ?_⟩
    tm_at "w"
    intro p2 np2
    obtain ⟨d, hd, ed⟩ : ∃ d : Int, 0 ≤ d ∧ atI [V.int (n : Int), V.int (n : Int), V.int 4, V.int (n : Int), V.int (n : Int)] (k : Int) = some (.int d) := by
      rcases (show k = 0 ∨ k = 1 ∨ k = 2 ∨ k = 3 ∨ k = 4 by omega) with rfl | rfl | rfl | rfl | rfl
      · exact ⟨n, by omega, rfl⟩
      · exact ⟨n, by omega, rfl⟩
      · exact ⟨4, by omega, rfl⟩
      · exact ⟨n, by omega, rfl⟩
      · exact ⟨n, by omega, rfl⟩
    refine ⟨_, rfl, _, _, _, _, rfl, rfl, SqL.of upd_same, ed, ?_⟩
    obtain ⟨lo, hlo, elo⟩ : ∃ lo : Nat, lo ≤ n ∧ (if (n : Int) - d > 0 then (n : Int) - d else 0) = (lo : Int) := by
      by_cases z : (n : Int) - d > 0
      · exact ⟨((n : Int) - d).toNat, by omega, by rw [if_pos z]; omega⟩
      · exact ⟨0, by omega, by rw [if_neg z]; rfl⟩
    tm_at "w"
    refine ⟨_, _, rfl, ?_⟩
    rw [elo]
    tm_at "w"
    intro D nD
    have m1 := (m0.mv.new np1).new (p := p2) (o := .lst [V.int (n : Int), V.int (n : Int), V.int 4, V.int (n : Int), V.int (n : Int)]) np2
    have nD0 := m1.free nD
    have m2 := m1.new (o := .lst []) nD
    tm_at "w"
    refine ⟨τ, _, rfl, m2.now, by omega, by omega, fun r H1 m3 h0 h1 => ?_⟩
    tm_at "w"
    refine for_range (lo := 0) (n := r.toNat) (fun i σ H' => ∃ x, σ = [some (.ref τ.t), some (.int (n : Int)), some (.int (k : Int)), some (.int (m : Int)), some (.int (lo : Int)), some (.ref D), x] ∧ Mv τ H H' ∧ ∃ q : List Nat, H' D = some (.lst (natsV q)) ∧ q.length ≤ i ∧ ∀ x ∈ q, x < n) ?_ ?_ ?_
    · exact ⟨none, rfl, m2.trans m3, [], m3.keep _ _ (m1.neN nD) upd_same, Nat.le_refl _, fun x hx => by cases hx⟩
    · rintro i σ H' hi ⟨x, rfl, m4, q, hD, hql, hqn⟩
      tm_at "w"
      refine iteD (fun z => ?_) (fun z => ?_)
      · tm_at "w"
        refine ⟨τ, _, rfl, m4.now, by omega, by omega, fun r2 H2 m5 h2 h3 => ?_⟩
        obtain ⟨r2, rfl⟩ : ∃ n : Nat, r2 = n := ⟨r2.toNat, by omega⟩
        have hD2 := m5.keep _ _ (m1.neN nD) hD
        tm_at "w"
        refine ⟨_, _, _, rfl, rfl, hD2, lt_line (by rw [natsV_len]; omega), ?_⟩
        refine ⟨_, rfl, (m4.trans m5).mut nD0, q ++ [lo + r2], ?_, by rw [List.length_append]; show q.length + 1 ≤ i + 1; omega, fun x hx => ?_⟩
        · rw [upd_same, ← natsV_snoc, show ((lo + r2 : Nat) : Int) = (lo : Int) + (r2 : Int) by omega]
        · rcases List.mem_append.mp hx with hx | hx
          · exact hqn x hx
          · rw [List.mem_singleton.mp hx]
            omega
      · exact ⟨_, rfl, m4, q, hD, by omega, hqn⟩
    · rintro σ H' ⟨x, rfl, m4, q, hD, hql, hqn⟩
      tm_at "w"
      refine ⟨_, q.map fun z : Nat => (z : Int), rfl, SqL.of (by rw [List.map_map]; exact hD), by rw [List.length_map]; omega, fun S c hc _ nS => ?_⟩
      rw [List.length_map] at hc
      refine ⟨S, _, _, rfl, upd_same, by omega, fun ns p hs hmem hlen np => ?_⟩
      obtain ⟨ks, rfl, hks, hkp⟩ := nats_of hs (n := n) fun x hx => by
        have := of_decide_eq_true ((hmem x).mp hx)
        obtain ⟨z, hz, e⟩ := List.mem_map.mp this
        exact ⟨z, hqn z hz, e.symm⟩
      rw [List.length_map] at hlen
      tm_at "w"
      intro t nt
      have m5 := (m4.new nS).new (p := p) (o := .lst ((ks.map fun z : Nat => (z : Int)).map V.int)) np
      refine kk t ks _ (m5.new nt) ?_ ⟨hkp, hks, by omega⟩ ⟨m5.free nt⟩
      rw [upd_same, List.map_map]
      rfl
/-! _law_rows -/
def sp__law_rows (K : PySem.W.Frag) : Sp := fun vs H Q _ => ∃ (τ : Tp) (n : Nat), vs = [.ref τ.t, .int n] ∧ Tape τ H ∧ n ≤ 400 ∧
  ∀ a P H', Mv τ H H' → ParAt H' a P → OkP P → P.length = n → Q (.ref a) H'
theorem sc__law_rows : FnScope ["_law_tape_here", "_law_many", "_law_kind", "_law_number"] ["_law_tape_here", "_law_many"] (defScope s__law_rows) := ⟨rfl, rfl, rfl, by decide +kernel, rfl, by decide +kernel, by decide +kernel⟩
theorem ok__law_rows (T : Top K mg) : FnOk P w K mg base CX0 3 T.f__law_rows T.fd__law_rows ["_law_tape_here", "_law_many"] (sp__law_rows K) := by
  have G__law_parents := ok__law_parents (P := P) (w := w) (base := base) T
  have G__law_pick := ok__law_pick (P := P) (w := w) (base := base) T
  refine T.F__law_rows.ok sc__law_rows (fun vs H Q E h => ?_) (fun cdv A outer s H vs Q E hr h => ?_)
  · obtain ⟨τ, n, rfl, _⟩ := h
    rfl
  · obtain ⟨τ, n, rfl, m0, hn, kk⟩ := h
    refine ⟨_, (pss_cons (ps_set (i := 2) sc__law_rows.nd rfl (Or.inr rfl) (pe_call G__law_pick (hr.mono (by decide)) (by rfl) T.g__law_pick T.F__law_pick.kp T.b__law_pick .nil pass0 (pa_cons (pv 0) (pa_cons pe_int pa_nil))))
      (pss_one (ps_ret (pe_callTy (r := rTupQ K) (T := "tuple") call_tuple_of (by rfl) T.z_tuple (by decide +kernel) (pa_cons (pe_lc (own := [("_law_number", 3)]) (g := gName 3) (tt := tYes) rfl sc__law_rows.nd (pi_range1 rfl T.z_range (pa_cons (pv 1) pa_nil)) (blkOk_by (own := [("_law_number", 3)]) (N := ["_law_tape_here", "_law_many", "_law_kind", "_law_number"]) (sc := defScope s__law_rows) (by decide +kernel)) (fun _ _ _ _ _ => (pg_name (i := 3) sc__law_rows.nd rfl (Or.inl rfl))) (fun _ _ _ _ _ => pts_nil) (fun _ _ _ _ _ => (pe_call G__law_parents hr (by rfl) T.g__law_parents T.F__law_parents.kp T.b__law_parents .nil pass0 (pa_cons (pv 0) (pa_cons (pv 3) (pa_cons (pv 2) pa_nil)))))) pa_nil))))), ?_⟩
    tm_at "w"
    refine ⟨τ, _, rfl, m0, by decide, by decide, fun r H1 m1 h0 h5 => ?_⟩
    obtain ⟨k, rfl⟩ : ∃ n : Nat, r = n := ⟨r.toNat, by omega⟩
    tm_at "w"
    intro D nD
    refine lc_rangeM (τ := τ) RowR (fun _ _ _ _ => RowR.tk) m1.now nD (by omega) ?_ ?_
    · intro i H2 N M hi m2 kN
      rw [Int.zero_add]
      tm_at "w"
      exact ⟨τ, i, k, rfl, m2.now, by omega, by omega, fun a q H3 m3 ha ok _ => kN _ _ m3 ⟨a, q, rfl, ha, ok⟩⟩
    · intro H2 acc m2 hD hlen hR
      rw [Int.toNat_natCast] at hlen
      obtain ⟨P, hP, ok, hPl⟩ := rows_of hn hlen hR
      tm_at "w"
      intro t nt
      exact kk t P _ ((m1.trans m2).new nt) ⟨acc, upd_same, hP.tk (TK.new nt)⟩ ok hPl
/-! _law_above -/
/-- the flags of one kind; of all -/
def rowF (P : List (List Nat)) (x : Nat) : List V := (List.range P.length).map fun p => V.bl (isA P x p)
def FlagsL (H : Hp) (vs : List V) (P : List (List Nat)) (l : Addr) : Prop := ∀ (j : Nat) v, vs[j]? = some v → ∃ a, v = .ref a ∧ H a = some (.lst (rowF P j)) ∧ a ≠ l
def FlagsAt (H : Hp) (l : Addr) (P : List (List Nat)) : Prop := ∃ vs, H l = some (.lst vs) ∧ vs.length = P.length ∧ FlagsL H vs P l
theorem FlagsAt.same {H H' : Hp} {l : Addr} {P : List (List Nat)} (h : FlagsAt H l P) (s : Same H H') : FlagsAt H' l P := by
  obtain ⟨vs, h1, h2, h3⟩ := h
  refine ⟨vs, s _ _ h1, h2, fun j v e => ?_⟩
  obtain ⟨a, e1, e2, e3⟩ := h3 j v e
  exact ⟨a, e1, s _ _ e2, e3⟩
theorem FlagsAt.at {H : Hp} {l : Addr} {P : List (List Nat)} (h : FlagsAt H l P) {x : Nat} (hx : x < P.length) : ∃ vs a, H l = some (.lst vs) ∧ vs[x]? = some (.ref a) ∧ H a = some (.lst (rowF P x)) := by
  obtain ⟨vs, h1, h2, h3⟩ := h
  obtain ⟨a, e1, e2, e3⟩ := h3 x _ (List.getElem?_eq_getElem (by omega))
  exact ⟨vs, a, h1, by rw [List.getElem?_eq_getElem (by omega), e1], e2⟩
theorem rowF_at {P : List (List Nat)} {x p : Nat} (h : p < P.length) : (rowF P x)[p]? = some (.bl (isA P x p)) := by
  unfold rowF
  rw [List.getElem?_map, List.getElem?_range h]
  rfl
theorem rowF_len (P : List (List Nat)) (x : Nat) : (rowF P x).length = P.length := by unfold rowF; rw [List.length_map, List.length_range]
theorem flat_rep {α : Type} (x : α) : ∀ n : Nat, (List.replicate n [x]).flatten = (List.range n).map fun _ => x
  | 0 => rfl
  | n + 1 => by
    rw [List.replicate_succ', List.flatten_append, flat_rep x n, List.range_succ, List.map_append]
    rfl
theorem set_flag {n i : Nat} (h : i < n) : ((List.range n).map fun _ => V.bl false).set i (.bl true) = (List.range n).map fun c => V.bl (decide (i = c)) := by
  refine List.ext_getElem? fun j => ?_
  rw [List.getElem?_set, List.getElem?_map, List.getElem?_map, List.length_map, List.length_range]
  by_cases e : i = j
  · rw [if_pos e, if_pos h, ← e, List.getElem?_range h]
    show _ = some (V.bl (decide (i = i)))
    rw [decide_eq_true rfl]
  · rw [if_neg e]
    by_cases hj : j < n
    · rw [List.getElem?_range hj]
      show some (V.bl false) = some (V.bl (decide (i = j)))
      rw [decide_eq_false e]
    · rw [List.getElem?_eq_none (by rw [List.length_range]; omega)]
      rfl
theorem filterMap_lt {α : Type} (f : Nat → α) (n : Nat) : (List.range n).filterMap (fun c => if c < n then some (f c) else none) = (List.range n).map f := by
  have key : ∀ m, m ≤ n → (List.range m).filterMap (fun c => if c < n then some (f c) else none) = (List.range m).map f := by
    intro m
    induction m with
    | zero => intro _; rfl
    | succ m ih =>
      intro h
      rw [filterMap_range_succ, ih (by omega), List.range_succ, List.map_append, if_pos (by omega)]
      rfl
  exact key n (Nat.le_refl _)
def sp__law_above (K : PySem.W.Frag) : Sp := fun vs H Q _ => ∃ (a : Addr) (P : List (List Nat)), vs = [.ref a] ∧ ParAt H a P ∧ RtP P ∧ P.length ≤ 1000 ∧
  ∀ l H', Same H H' → FlagsAt H' l P → Q (.ref l) H'
theorem sc__law_above : FnScope ["_law_rows_here", "_law_found", "_law_number", "_law_parents_here", "_law_flags", "_law_parent", "_law_one", "_law_other"] ["_law_rows_here"] (defScope s__law_above) := ⟨rfl, rfl, rfl, by decide +kernel, rfl, by decide +kernel, by decide +kernel⟩
theorem ok__law_above (T : Top K mg) : FnOk P w K mg base CX0 1 T.f__law_above T.fd__law_above ["_law_rows_here"] (sp__law_above K) := by
  refine T.F__law_above.ok sc__law_above (fun vs H Q E h => ?_) (fun cdv A outer s H vs Q E hr h => ?_)
  · obtain ⟨a, P, rfl, _⟩ := h
    rfl
  · obtain ⟨a, P, rfl, hP, hR, hn, k⟩ := h
    refine ⟨_, (pss_cons (ps_set (i := 1) sc__law_above.nd rfl (Or.inl rfl) (pe_lst pa_nil))
      (pss_cons (ps_for PassesOwn.never rfl (pi_enumT (by rfl) T.z_enumerate (pa_cons (pv 0) pa_nil)) (pg_tup rfl (pgs_cons (pg_name (i := 2) sc__law_above.nd rfl (Or.inl rfl)) (pgs_cons (pg_name (i := 3) sc__law_above.nd rfl (Or.inl rfl)) pgs_nil)))
      (pss_cons (ps_set (i := 4) sc__law_above.nd rfl (Or.inl rfl) (pe_op op_rep (pe_lst (pa_cons pe_bl pa_nil)) (pe_callB (r := rLenQ K) (id := "len") call_len_seq (by rfl) T.z_len (by decide +kernel) (pa_cons (pv 0) pa_nil))))
      (pss_cons (ps_asg pe_bl (pg_sub (pv 4) (pv 2) set_list))
      (pss_cons (ps_for PassesOwn.never rfl (pi_tup (pv 3)) (pg_name (i := 5) sc__law_above.nd rfl (Or.inl rfl))
      (pss_one (ps_setLc (i := 4) (own := [("_law_one", 6), ("_law_other", 7)]) (tt := tYes) rfl sc__law_above.nd rfl rfl (sw_true rfl rfl rfl (by decide +kernel)) (RZ.pi_zipA (by rfl) T.z_zip (pa_cons (pv 4) (pa_cons (pe_ix (r := rIxL K) ix_list (pv 1) (pv 5) (fun _ _ => rfl)) pa_nil))) (blkOk_by (own := [("_law_one", 6), ("_law_other", 7)]) (N := ["_law_rows_here", "_law_found", "_law_number", "_law_parents_here", "_law_flags", "_law_parent", "_law_one", "_law_other"]) (sc := defScope s__law_above) (by decide +kernel)) (fun _ _ _ _ _ => (pg_tupK (K := K) 2 rfl rfl (pgs_cons (pg_name (i := 6) sc__law_above.nd rfl (Or.inl rfl)) (pgs_cons (pg_name (i := 7) sc__law_above.nd rfl (Or.inl rfl)) pgs_nil)))) (fun _ _ _ _ _ => pts_nil) (fun _ _ _ _ _ => (pe_or (pv 6) (pe_one (pv 7)))))))
      (pss_one (ps_expr (pe_bm PySem.F.plainAttrs_list PySem.F.slot_list_append PySem.F.type_list_append mt_append (pv 1) (pa_cons (pv 4) pa_nil))))))))
      (pss_one (ps_ret (pv 1))))), ?_⟩
    obtain ⟨vsP, hpa, hlen, hit⟩ := id hP
    tm_at "w"
    intro l nl
    have hpa1 : upd H l (.lst []) a = some (.tup vsP) := (Same.new (Same.refl H) nl) _ _ hpa
    tm_at "w"
    refine ⟨_, _, rfl, SqT.of hpa1, for_enumT (K := K) (a := a) (xs := vsP) (fun i σ H' => ∃ x y z w u v, σ = [some (.ref a), some (.ref l), x, y, z, w, u, v] ∧ Same H H' ∧ ∃ vs, H' l = some (.lst vs) ∧ vs.length = i ∧ FlagsL H' vs P l) ?_ ?_ ?_ ?_⟩
    · exact ⟨_, _, _, _, _, _, rfl, Same.new (Same.refl H) nl, [], upd_same, rfl, fun j v e => by simp at e⟩
    · rintro i σ H' ⟨_, _, _, _, _, _, rfl, s1, _⟩
      exact SqT.of (s1 _ _ hpa)
    · rintro i x t σ H' hx ⟨x0, y0, z0, w0, u0, v0, rfl, s1, vs, hl1, hvl, hfl⟩ nt
      obtain ⟨ai, p, rfl, hp, hai⟩ := ParL.here ⟨hlen, hit⟩ hx
      have il := (List.getElem?_eq_some_iff.mp hp).1
      have s2 : Same H' (upd H' t (.tup [V.int (i : Int), V.ref ai])) := Same.new (Same.refl H') nt
      have hai2 := s2 _ _ (s1 _ _ hai)
      have hpa2 := s2 _ _ (s1 _ _ hpa)
      tm_at "w"
      intro p1 np1
      have hpa3 := (Same.new (o := .lst [V.bl false]) (Same.refl _) np1) _ _ hpa2
      tm_at "w"
      refine ⟨_, _, _, rfl, rfl, upd_same, by omega, by omega, ?_, fun F nF => ?_⟩
      · rw [Int.toNat_natCast]
        show 1 * vsP.length ≤ sizeLine
        have := lt_line (n := vsP.length) (by omega)
        omega
      rw [Int.toNat_natCast, flat_rep]
      have s3 := Same.new (o := .lst [V.bl false]) s2 np1
      have s4 := Same.new (o := .lst ((List.range vsP.length).map fun _ => V.bl false)) s3 nF
      have nF0 : H' F = none := Same.free s3 nF
      tm_at "w"
      refine ⟨_, _, _, i, rfl, rfl, upd_same, ixn_nat (by rw [List.length_map, List.length_range]; omega), ?_⟩
      have s5 := Same.mut (o := .lst (((List.range vsP.length).map fun _ => V.bl false).set i (.bl true))) s4 nF0
      rw [set_flag (show i < vsP.length by omega)] at s5 ⊢
      have hai5 := s5 _ _ (s1 _ _ hai)
      tm_at "w"
      refine ⟨⟨_, SqT.of hai5⟩, for_tup (K := K) (a := ai) (xs := natsV p) (fun j σ H2 => ∃ F u, σ = [some (.ref a), some (.ref l), some (.int (i : Int)), some (.ref ai), some (.ref F), u, u0, v0] ∧ Same H' H2 ∧ H' F = none ∧ H2 F = some (.lst ((List.range vsP.length).map fun c => V.bl (decide (i = c) || (p.take j).any fun q => isA P q c)))) ?_ ?_ ?_ ?_⟩
      · refine ⟨F, w0, rfl, s5, nF0, ?_⟩
        rw [upd_same]
        simp
      · rintro j σ H2 _ ⟨_, _, rfl, s6, _⟩
        exact SqT.of (s6 _ _ (s1 _ _ hai))
      · rintro j y σ H2 hy ⟨F2, u2, rfl, s6, nF2, hF2⟩
        obtain ⟨q, hq, rfl, _⟩ := natsV_here hy
        have ql := hR i p hp q (List.mem_of_getElem? hq)
        obtain ⟨aq, e1, e2, e3⟩ := hfl q _ (List.getElem?_eq_getElem (by omega))
        have hl6 := s6 _ _ hl1
        have hq6 := s6 _ _ e2
        have hvq : vs[q]? = some (.ref aq) := by rw [List.getElem?_eq_getElem (by omega), e1]
        tm_at "w"
        refine ⟨_, _, _, _, rfl, .inl ⟨SqL.of hF2, SqL.of hq6, fun D nD => lc_zipLF (fun c => if c < vsP.length then some (V.bl ((decide (i = c) || (p.take j).any fun q => isA P q c) || isA P q c)) else none) hF2 hq6 (by rw [rowF_len, List.length_map, List.length_range]; exact hlen) nD (by rw [List.length_map, List.length_range]; omega) ?_ ?_⟩⟩
        · intro c x y Z H3 N M hx hy s7 hZ kN kM
          obtain ⟨ex, hc⟩ : x = V.bl (decide (i = c) || (p.take j).any fun q => isA P q c) ∧ c < vsP.length := by
            have q1 := (List.getElem?_eq_some_iff.mp hx).1
            rw [List.length_map, List.length_range] at q1
            rw [List.getElem?_map, List.getElem?_range q1] at hx
            exact ⟨(Option.some.inj hx).symm, q1⟩
          have ey : y = V.bl (isA P q c) := by
            rw [rowF_at (by omega)] at hy
            exact (Option.some.inj hy).symm
          subst ex ey
          tm_at "w"
          refine iteB (fun e => ?_) (fun e => ?_)
          · refine kN _ _ ?_ (Same.refl H3)
            rw [if_pos hc, e]
            rfl
          · tm_at "w"
            refine kN _ _ ?_ (Same.refl H3)
            rw [if_pos hc, e]
            rfl
        · intro H3 s7 hD
          rw [List.length_map, List.length_range, filterMap_lt] at hD
          refine ⟨D, _, rfl, Same.trans s6 s7, Same.free s6 nD, ?_⟩
          rw [hD, List.take_add_one, hq]
          congr 2
          refine List.map_congr_left fun c _ => ?_
          rw [List.any_append]
          simp [Bool.or_assoc]
      · rintro σ H2 ⟨F2, u2, rfl, s6, nF2, hF2⟩
        rw [natsV_len, List.take_length] at hF2
        have hl6 := s6 _ _ hl1
        tm_at "w"
        have nl2 : F2 ≠ l := fun e => by rw [e, hl1] at nF2; cases nF2
        refine ⟨_, _, _, _, _, _, rfl, Same.mut (Same.trans s1 s6) nl, vs ++ [.ref F2], upd_same, by rw [List.length_append, hvl]; rfl, fun j v e => ?_⟩
        by_cases hj : j < vs.length
        · rw [List.getElem?_append_left hj] at e
          obtain ⟨aj, f1, f2, f3⟩ := hfl j v e
          exact ⟨aj, f1, (upd_ne f3).trans (s6 _ _ f2), f3⟩
        · rw [List.getElem?_append_right (by omega)] at e
          have q := (List.getElem?_eq_some_iff.mp e).1
          rw [List.length_singleton] at q
          have ej : j = i := by omega
          rw [ej, hvl, Nat.sub_self] at e
          refine ⟨F2, (Option.some.inj e).symm, ?_, nl2⟩
          rw [ej, upd_ne nl2, hF2]
          unfold rowF
          rw [hlen]
          congr 2
          refine List.map_congr_left fun c _ => ?_
          rw [isA_rec hR hp]
    · rintro σ H' ⟨x0, y0, z0, w0, u0, v0, rfl, s1, vs, hl1, hvl, hfl⟩
      tm_at "w"
      exact k l _ s1 ⟨vs, hl1, by omega, hfl⟩
/-! _law_lines -/
theorem Tape.neL {τ : Tp} {H : Hp} (t : Tape τ H) {a : Addr} {xs : List V} (h : H a = some (.lst xs)) (n : ∀ i c s n : Int, xs ≠ [.ref τ.l, .int i, .int c, .int s, .int n]) : a ≠ τ.t := fun e => by
  obtain ⟨_, _, i, c, s, m, z, _⟩ := t
  rw [e, z] at h
  injection h with h
  injection h with h
  exact n i c s m h.symm
theorem FlagsAt.mv {τ : Tp} {H H' : Hp} {l : Addr} {P : List (List Nat)} (h : FlagsAt H l P) (m : Mv τ H H') : FlagsAt H' l P := by
  obtain ⟨vs, h1, h2, h3⟩ := h
  refine ⟨vs, m.keep _ _ (m.was.neL h1 fun i c s n e => ?_) h1, h2, fun j v e => ?_⟩
  · obtain ⟨a, e1, _⟩ := h3 1 (.int i) (by rw [e]; rfl)
    cases e1
  · obtain ⟨a, e1, e2, e3⟩ := h3 j v e
    refine ⟨a, e1, m.keep _ _ (m.was.neL e2 fun i c s n z => ?_) e2, e3⟩
    have : (rowF P j)[0]? = some (.ref τ.l) := by rw [z]; rfl
    unfold rowF at this
    rw [List.getElem?_map] at this
    cases q : (List.range P.length)[0]? with
    | none => rw [q] at this; cases this
    | some w => rw [q] at this; cases this
theorem range_snoc {F : Nat → Addr} {e : Addr} (n : Nat) : ((List.range n).map fun j => V.ref (F j)) ++ [V.ref e] = (List.range (n + 1)).map fun j => V.ref (if j = n then e else F j) := by
  rw [List.range_succ, List.map_append]
  congr 1
  · refine List.map_congr_left fun j hj => ?_
    rw [List.mem_range] at hj
    rw [if_neg (by omega)]
  · show [V.ref e] = [V.ref (if n = n then e else F n)]
    rw [if_pos rfl]
def lastD (D : List (List Nat)) (s : Nat) : Nat := (D.getD s []).getLastD 0
theorem getD_some {l : List (List Nat)} {i : Nat} {v : List Nat} (h : l[i]? = some v) : l.getD i [] = v := by
  rw [List.getD_eq_getElem?_getD, h]
  rfl
/-! ### one list of lists of numbers that changes -/
structure DF (H0 H : Hp) (l : Addr) (D : List (List Nat)) (F : Nat → Addr) : Prop where
  list : H l = some (.lst ((List.range D.length).map fun j => V.ref (F j)))
  rows : ∀ (j : Nat) q, D[j]? = some q → H (F j) = some (.lst (natsV q))
  inj : ∀ (i j : Nat), i < D.length → j < D.length → F i = F j → i = j
  apart : ∀ (j : Nat), j < D.length → F j ≠ l
  newL : H0 l = none
  newF : ∀ (j : Nat), j < D.length → H0 (F j) = none
def DL (H0 H : Hp) (l : Addr) (D : List (List Nat)) : Prop := ∃ F, DF H0 H l D F
section
variable {H0 H H' : Hp} {l : Addr} {D : List (List Nat)} {τ : Tp}
theorem DL.init (n : H0 l = none) (h : H l = some (.lst [])) : DL H0 H l [] := ⟨fun _ => l, h, fun j q e => by simp at e, fun i j e => absurd e (Nat.not_lt_zero _), fun j e => absurd e (Nat.not_lt_zero _), n, fun j e => absurd e (Nat.not_lt_zero _)⟩
theorem DL.same (g : DL H0 H l D) (s : Same H H') : DL H0 H' l D := by
  obtain ⟨F, f⟩ := g
  exact ⟨F, s _ _ f.list, fun j q e => s _ _ (f.rows j q e), f.inj, f.apart, f.newL, f.newF⟩
theorem DL.mv (g : DL H0 H l D) (m0 : Mv τ H0 H) (m : Mv τ H H') : DL H0 H' l D := by
  obtain ⟨F, f⟩ := g
  exact ⟨F, m.keep _ _ (m0.neF f.newL) f.list, fun j q e => m.keep _ _ (m0.neF (f.newF j (List.getElem?_eq_some_iff.mp e).1)) (f.rows j q e), f.inj, f.apart, f.newL, f.newF⟩
theorem DL.mut (g : DL H0 H l D) {a : Addr} {o : HO} (n : a ≠ l) (nF : ∀ F, DF H0 H l D F → ∀ (j : Nat), j < D.length → F j ≠ a) : DL H0 (upd H a o) l D := by
  obtain ⟨F, f⟩ := g
  exact ⟨F, (upd_ne n.symm).trans f.list, fun j q e => (upd_ne (nF F f j (List.getElem?_eq_some_iff.mp e).1)).trans (f.rows j q e), f.inj, f.apart, f.newL, f.newF⟩
/-- what a reader sees -/
def refsV (n : Nat) (F : Nat → Addr) : List V := (List.range n).map fun j => V.ref (F j)
theorem refsV_len (n : Nat) (F : Nat → Addr) : (refsV n F).length = n := by
  unfold refsV
  rw [List.length_map, List.length_range]
theorem refsV_at {n : Nat} {F : Nat → Addr} {j : Nat} (h : j < n) : (refsV n F)[j]? = some (.ref (F j)) := by
  unfold refsV
  rw [List.getElem?_map, List.getElem?_range h]
  rfl
theorem refsV_here {n : Nat} {F : Nat → Addr} {j : Nat} {x : V} (h : (refsV n F)[j]? = some x) : j < n ∧ x = .ref (F j) := by
  have hj := (List.getElem?_eq_some_iff.mp h).1
  rw [refsV_len] at hj
  rw [refsV_at hj] at h
  exact ⟨hj, (Option.some.inj h).symm⟩
theorem refsV_filter (n : Nat) (F : Nat → Addr) (c : Nat → Bool) : (List.range n).filterMap (fun j => if c j = true then some (V.ref (F j)) else none) = ((List.range n).filter c).map fun j => V.ref (F j) := by
  induction List.range n with
  | nil => rfl
  | cons a r ih =>
    rw [List.filterMap_cons, List.filter_cons]
    cases c a with
    | true => rw [if_pos rfl, if_pos rfl, List.map_cons, ih]
    | false => rw [if_neg (by decide), if_neg (by decide), ih]
structure RowsL (H : Hp) (l : Addr) (D : List (List Nat)) (F : Nat → Addr) : Prop where
  list : H l = some (.lst (refsV D.length F))
  row : ∀ (j : Nat) q, D[j]? = some q → H (F j) = some (.lst (natsV q))
theorem DL.at (g : DL H0 H l D) : ∃ F, RowsL H l D F := by
  obtain ⟨F, f⟩ := g
  exact ⟨F, f.list, f.rows⟩
theorem RowsL.same {F : Nat → Addr} (g : RowsL H l D F) (s : Same H H') : RowsL H' l D F := ⟨s _ _ g.list, fun j q e => s _ _ (g.row j q e)⟩
theorem DL.new (g : DL H0 H l D) {e : Addr} {o : HO} (n : H e = none) : DL H0 (upd H e o) l D := g.same (Same.new (Same.refl H) n)
theorem DL.grow (g : DL H0 H l D) {e : Addr} {x : Nat} {xs : List V} (ne : H e = none) (ne0 : H0 e = none) (hx : H l = some (.lst xs)) : DL H0 (upd (upd H e (.lst [.int (x : Int)])) l (.lst (xs ++ [.ref e]))) l (D ++ [[x]]) := by
  obtain ⟨F, f⟩ := g
  have ex : xs = (List.range D.length).map fun j => V.ref (F j) := by
    have := f.list
    rw [hx] at this
    injection this with this
    injection this
  have nF : ∀ (j : Nat), j < D.length → F j ≠ e := fun j hj => ne_of_none (f.rows j _ (List.getElem?_eq_getElem hj)) ne
  have nl : l ≠ e := ne_of_none f.list ne
  refine ⟨fun j => if j = D.length then e else F j, ?_, fun j q hq => ?_, fun i j hi hj h => ?_, fun j hj => ?_, f.newL, fun j hj => ?_⟩
  · rw [upd_same, ex, List.length_append, List.length_singleton, range_snoc]
  · by_cases hj : j < D.length
    · rw [List.getElem?_append_left hj] at hq
      simp only [if_neg (Nat.ne_of_lt hj)]
      rw [upd_ne (f.apart j hj), upd_ne (nF j hj)]
      exact f.rows j q hq
    · rw [List.getElem?_append_right (by omega)] at hq
      have ll := (List.getElem?_eq_some_iff.mp hq).1
      rw [List.length_singleton] at ll
      have ej : j = D.length := by omega
      rw [ej, Nat.sub_self] at hq
      simp only [if_pos ej]
      rw [upd_ne nl.symm, upd_same, ← Option.some.inj hq]
      rfl
  · rw [List.length_append, List.length_singleton] at hi hj
    by_cases c1 : i = D.length
    · by_cases c2 : j = D.length
      · rw [c1, c2]
      · simp only [if_pos c1, if_neg c2] at h
        exact absurd h.symm (nF j (by omega))
    · by_cases c2 : j = D.length
      · simp only [if_neg c1, if_pos c2] at h
        exact absurd h (nF i (by omega))
      · simp only [if_neg c1, if_neg c2] at h
        exact f.inj i j (by omega) (by omega) h
  · rw [List.length_append, List.length_singleton] at hj
    by_cases c : j = D.length
    · simp only [if_pos c]
      exact nl.symm
    · simp only [if_neg c]
      exact f.apart j (by omega)
  · rw [List.length_append, List.length_singleton] at hj
    by_cases c : j = D.length
    · simp only [if_pos c]
      exact ne0
    · simp only [if_neg c]
      exact f.newF j (by omega)
theorem DL.push (g : DL H0 H l D) {j : Nat} {q q' : List Nat} {a : Addr} {xs : List V} (hq : D[j]? = some q) (hx : H l = some (.lst xs)) (ha : xs[j]? = some (.ref a)) : H0 a = none ∧ DL H0 (upd H a (.lst (natsV q'))) l (D.set j q') := by
  obtain ⟨F, f⟩ := g
  have hj := (List.getElem?_eq_some_iff.mp hq).1
  have ea : a = F j := by
    have := f.list
    rw [hx] at this
    injection this with this
    injection this with this
    rw [this, List.getElem?_map, List.getElem?_range hj] at ha
    injection ha with ha
    injection ha with ha
    exact ha.symm
  subst ea
  refine ⟨f.newF j hj, F, ?_, fun i r hr => ?_, ?_, ?_, f.newL, ?_⟩
  · rw [upd_ne (f.apart j hj).symm, List.length_set]
    exact f.list
  · have hi := (List.getElem?_eq_some_iff.mp hr).1
    rw [List.length_set] at hi
    rw [List.getElem?_set] at hr
    by_cases e : j = i
    · subst e
      rw [if_pos rfl, if_pos hj] at hr
      rw [upd_same, Option.some.inj hr]
    · rw [if_neg e] at hr
      rw [upd_ne (fun z => e (f.inj i j hi hj z).symm)]
      exact f.rows i r hr
  · rw [List.length_set]
    exact f.inj
  · rw [List.length_set]
    exact f.apart
  · rw [List.length_set]
    exact f.newF
end
def sp__law_lines (K : PySem.W.Frag) : Sp := fun vs H Q _ => ∃ (τ : Tp) (l : Addr) (P : List (List Nat)), vs = [.ref τ.t, .ref l] ∧ Tape τ H ∧ FlagsAt H l P ∧ RtP P ∧ P.length ≤ 400 ∧
  ∀ r D H', Mv τ H H' → DL H H' r D → Deal P P.length D → Q (.ref r) H'
theorem sc__law_lines : FnScope ["_law_tape_here", "_law_above_here", "_law_lines_here", "_law_x", "_law_fits", "_law_at"] ["_law_tape_here", "_law_above_here"] (defScope s__law_lines) := ⟨rfl, rfl, rfl, by decide +kernel, rfl, by decide +kernel, by decide +kernel⟩
theorem ok__law_lines (T : Top K mg) : FnOk P w K mg base CX0 2 T.f__law_lines T.fd__law_lines ["_law_tape_here", "_law_above_here"] (sp__law_lines K) := by
  have G__law_pick := ok__law_pick (P := P) (w := w) (base := base) T
  refine T.F__law_lines.ok sc__law_lines (fun vs H Q E h => ?_) (fun cdv A outer s H vs Q E hr h => ?_)
  · obtain ⟨τ, l, P, rfl, _⟩ := h
    rfl
  · obtain ⟨τ, l, P, rfl, m0, hF, hR, h63, k⟩ := h
    refine ⟨_, (pss_cons (ps_set (i := 2) sc__law_lines.nd rfl (Or.inr rfl) (pe_lst pa_nil))
      (pss_cons (ps_for PassesOwn.never rfl (pi_range1 rfl T.z_range (pa_cons (pe_callB (r := rLenQ K) (id := "len") call_len_seq (by rfl) T.z_len (by decide +kernel) (pa_cons (pv 1) pa_nil)) pa_nil)) (pg_name (i := 3) sc__law_lines.nd rfl (Or.inr rfl))
      (pss_cons (ps_setLc (i := 4) (own := [("_law_at", 5)]) (g := gName 5) rfl sc__law_lines.nd rfl rfl (sw_true rfl rfl rfl (by decide +kernel)) (pi_range1 rfl T.z_range (pa_cons (pe_callB (r := rLenQ K) (id := "len") call_len_seq (by rfl) T.z_len (by decide +kernel) (pa_cons (pv 2) pa_nil)) pa_nil)) (blkOk_by (own := [("_law_at", 5)]) (N := ["_law_tape_here", "_law_above_here", "_law_lines_here", "_law_x", "_law_fits", "_law_at"]) (sc := defScope s__law_lines) (by decide +kernel)) (fun _ _ _ _ _ => (pg_name (i := 5) sc__law_lines.nd rfl (Or.inl rfl))) (fun _ _ _ _ _ => (pts_one (pt_val (pe_ix (r := rIxL K) ix_list (pe_ix (r := rIxL K) ix_list (pv 1) (pv 3) (fun _ _ => rfl)) (pe_ix (r := rIxL K) ix_list (pe_ix (r := rIxL K) ix_list (pv 2) (pv 5) (fun _ _ => rfl)) (pe_un un_neg pe_int) (fun _ _ => rfl)) (fun _ _ => rfl))))) (fun _ _ _ _ _ => (pv 5)))
      (pss_one (ps_if (PW.pt (pw_and (pt_cmpR op_gt (pe_callB (r := rLenQ K) (id := "len") call_len_seq (by rfl) T.z_len (by decide +kernel) (pa_cons (pv 4) pa_nil)) pe_int (nomark _)) (pw_and1 (pt_cmpR op_gt (pe_call G__law_pick hr (by rfl) T.g__law_pick T.F__law_pick.kp T.b__law_pick .nil pass0 (pa_cons (pv 0) (pa_cons pe_int pa_nil))) pe_int (nomark _))))) (pss_one (ps_expr (pe_bm PySem.F.plainAttrs_list PySem.F.slot_list_append PySem.F.type_list_append mt_append (pe_ix (r := rIxL K) ix_list (pv 2) (pe_ix (r := rIxL K) ix_list (pv 4) (pe_call G__law_pick hr (by rfl) T.g__law_pick T.F__law_pick.kp T.b__law_pick .nil pass0 (pa_cons (pv 0) (pa_cons (pe_callB (r := rLenQ K) (id := "len") call_len_seq (by rfl) T.z_len (by decide +kernel) (pa_cons (pv 4) pa_nil)) pa_nil))) (fun _ _ => rfl)) (fun _ _ => rfl)) (pa_cons (pv 3) pa_nil)))) (pss_one (ps_expr (pe_bm PySem.F.plainAttrs_list PySem.F.slot_list_append PySem.F.type_list_append mt_append (pv 2) (pa_cons (pe_lst (pa_cons (pv 3) pa_nil)) pa_nil))))))))
      (pss_one (ps_ret (pv 2))))), ?_⟩
    obtain ⟨svs, hsv, hsl, _⟩ := id hF
    tm_at "w"
    intro R nR
    have nRt := m0.mv.neN nR
    have hsv1 := (Same.new (o := .lst []) (Same.refl H) nR) _ _ hsv
    tm_at "w"
    refine for_range (lo := 0) (n := (svs.length : Int).toNat) (fun i σ H' => ∃ x y z, σ = [some (.ref τ.t), some (.ref l), some (.ref R), x, y, z] ∧ Mv τ H H' ∧ ∃ D, DL H H' R D ∧ Deal P i D) ?_ ?_ ?_
    · exact ⟨none, none, none, rfl, m0.mv.new nR, [], DL.init nR upd_same, Deal.nil⟩
    · rintro i σ H1 hi ⟨x0, y0, z0, rfl, m1, D, dl, de⟩
      rw [Int.zero_add]
      have il : i < P.length := by omega
      obtain ⟨F, f⟩ := id dl
      have hF1 := hF.mv m1
      have hD1 : H1 R = some (.lst (refsV D.length F)) := f.list
      have dm := de.many
      have fin : ∀ H3, Mv τ H H3 → DL H H3 R D → H3 R = some (.lst (refsV D.length F)) → ∀ e, H3 e = none → DL H (upd (upd H3 e (.lst [.int (i : Int)])) R (.lst (refsV D.length F ++ [.ref e]))) R (D ++ [[i]]) ∧ Deal P (i + 1) (D ++ [[i]]) ∧ Mv τ H (upd (upd H3 e (.lst [.int (i : Int)])) R (.lst (refsV D.length F ++ [.ref e]))) ∧ upd H3 e (.lst [.int (i : Int)]) R = some (.lst (refsV D.length F)) :=
        fun H3 m3 d3 h3 e ne => ⟨d3.grow ne (m3.free ne) h3, de.grow, (m3.new ne).mut nR, (upd_ne (ne_of_none h3 ne)).trans h3⟩
      tm_at "w"
      rw [refsV_len]
      refine And.intro (by omega) ?_
      intro E nE
      refine lc_rangeF (fun j => if isA P i (lastD D j) = true then some (V.int (j : Int)) else none) nE (by omega) ?_ ?_
      · intro j H2 N M hj s2 kN kM
        have jl : j < D.length := by omega
        have c1 := s2 _ _ (f.rows j _ (List.getElem?_eq_getElem jl))
        have dne := de.full _ (List.getElem_mem jl)
        have el : lastD D j = (D[j]).getLastD 0 := by
          unfold lastD
          rw [getD_some (List.getElem?_eq_getElem jl)]
        have hD2 := s2 _ _ hD1
        have rj := refsV_at (F := F) jl
        have lx : ((D[j]).getLastD 0) < i := by
          have m : (D[j]).getLastD 0 ∈ D[j] := by
            rw [List.getLastD_eq_getLast?, List.getLast?_eq_getLast dne]
            exact List.getLast_mem dne
          exact de.lt (List.getElem_mem jl) m
        obtain ⟨fs, ax, f1, f2, f3⟩ := (hF1.same s2).at il
        have f4 := rowF_at (P := P) (x := i) (p := (D[j]).getLastD 0) (by omega)
        rw [Int.zero_add]
        tm_at "w"
        refine ⟨_, _, _, _, rfl, rfl, SqL.of c1, at_neg1 dne, ?_⟩
        tm_at "w"
        rw [show isA P i ((D[j]).getLastD 0) = isA P i (lastD D j) by rw [el]]
        refine iteB (fun e => ?_) (fun e => ?_)
        · tm_at "w"
          exact kN _ _ (by rw [e]; rfl) (Same.refl H2)
        · exact kM _ (by rw [e]; rfl) (Same.refl H2)
      · intro H2 s2 hE
        rw [Int.toNat_natCast, filter_nats] at hE
        have hJ : ∀ z ∈ (List.range D.length).filter (fun j => isA P i (lastD D j)), z < D.length ∧ isA P i (lastD D z) = true := fun z hz => ⟨List.mem_range.mp (List.mem_filter.mp hz).1, (List.mem_filter.mp hz).2⟩
        have hJl : ((List.range D.length).filter (fun j => isA P i (lastD D j))).length ≤ D.length := by
          have := List.length_filter_le (fun j => isA P i (lastD D j)) (List.range D.length)
          rw [List.length_range] at this
          exact this
        generalize hJJ : (List.range D.length).filter (fun j => isA P i (lastD D j)) = J at *
        have nEt := m1.neN nE
        tm_at "w"
        rw [natsV_len]
        refine iteD (fun z => ?_) (fun z => ?_)
        · tm_at "w"
          refine ⟨τ, _, rfl, m1.now.same s2, by decide, by decide, fun r3 H3 m3 a0 a1 => ?_⟩
          have m23 : Mv τ H1 H3 := (m1.now.mv.same s2).trans m3
          have hE3 := m3.keep _ _ nEt hE
          tm_at "w"
          refine iteD (fun z2 => ?_) (fun z2 => ?_)
          · tm_at "w"
            refine ⟨τ, _, rfl, m3.now, by rw [natsV_len]; omega, by rw [natsV_len]; omega, fun r4 H4 m4 b0 b1 => ?_⟩
            rw [natsV_len] at b1
            obtain ⟨r, rfl⟩ : ∃ n : Nat, r4 = n := ⟨r4.toNat, by omega⟩
            have rJ : r < J.length := by omega
            obtain ⟨jl, ji⟩ := hJ _ (List.getElem_mem rJ)
            have m14 : Mv τ H1 H4 := m23.trans m4
            have dl4 := dl.mv m1 m14
            have hE4 := m4.keep _ _ nEt hE3
            have hR4 := m14.keep _ _ (m1.neF f.newL) hD1
            have qj := List.getElem?_eq_getElem jl
            have hF4 := m14.keep _ _ (m1.neF (f.newF _ jl)) (f.rows _ _ qj)
            tm_at "w"
            refine ⟨_, _, _, _, rfl, rfl, SqL.of hE4, at_of (j := r) rfl (natsV_at (List.getElem?_eq_getElem rJ)), ?_⟩
            refine ⟨_, _, _, _, rfl, rfl, SqL.of hR4, at_of (j := J[r]) rfl (refsV_at jl), ?_⟩
            tm_at "w"
            refine ⟨_, _, _, rfl, rfl, hF4, lt_line (by rw [natsV_len]; have := de.long (List.getElem_mem jl); omega), ?_⟩
            obtain ⟨n0, dl5⟩ := dl4.push (q' := D[J[r]] ++ [i]) qj hR4 (refsV_at jl)
            have ji2 : isA P i ((D[J[r]]).getLastD 0) = true := by
              have e : lastD D J[r] = (D[J[r]]).getLastD 0 := by
                unfold lastD
                rw [getD_some qj]
              rw [← e]
              exact ji
            refine ⟨_, _, _, rfl, (m1.trans m14).mut n0, _, ?_, de.push hR qj ji2⟩
            rw [← natsV_snoc] at dl5
            exact dl5
          · have hR3 := m23.keep _ _ (m1.neF f.newL) hD1
            tm_at "w"
            intro e ne
            obtain ⟨f1, f2, f3, f4⟩ := fin H3 (m1.trans m23) (dl.mv m1 m23) hR3 e ne
            tm_at "w"
            refine ⟨_, _, _, rfl, rfl, f4, lt_line (by rw [refsV_len]; omega), ?_⟩
            exact ⟨_, _, _, rfl, f3, _, f1, f2⟩
        · have hR3 := s2 _ _ hD1
          refine iteF ?_
          tm_at "w"
          intro e ne
          obtain ⟨f1, f2, f3, f4⟩ := fin H2 (m1.same s2) (dl.same s2) hR3 e ne
          tm_at "w"
          refine ⟨_, _, _, rfl, rfl, f4, lt_line (by rw [refsV_len]; omega), ?_⟩
          exact ⟨_, _, _, rfl, f3, _, f1, f2⟩
    · rintro σ H1 ⟨x0, y0, z0, rfl, m1, D, dl, de⟩
      tm_at "w"
      exact k R D _ m1 dl (by rw [show P.length = (svs.length : Int).toNat by omega]; exact de)
/-! _law_numbers -/
theorem RowsL.mv {τ : Tp} {H H' : Hp} {l : Addr} {D : List (List Nat)} {F : Nat → Addr} (g : RowsL H l D F) (m : Mv τ H H') : RowsL H' l D F := by
  refine ⟨m.keep _ _ (m.was.neL g.list fun i c s n e => ?_) g.list, fun j q e => m.keep _ _ (m.was.neL (g.row j q e) fun i c s n z => ?_) (g.row j q e)⟩
  · obtain ⟨_, h⟩ := refsV_here (n := D.length) (F := F) (j := 1) (x := .int i) (by rw [e]; rfl)
    cases h
  · obtain ⟨w, _, h, _⟩ := natsV_here (q := q) (i := 0) (x := .ref τ.l) (by rw [z]; rfl)
    cases h
def absI (i : Int) : Int := (i.natAbs : Int)
/-- for each kind a number, rising in each row -/
def Rising (ns : List Int) (q : List Nat) : Prop := q.Pairwise fun a b => ns.getD a 0 < ns.getD b 0
theorem getD_set_ne {ns : List Int} {a x : Nat} {v : Int} (h : a ≠ x) : (ns.set x v).getD a 0 = ns.getD a 0 := by
  rw [List.getD_eq_getElem?_getD, List.getD_eq_getElem?_getD, List.getElem?_set, if_neg (fun e => h e.symm)]
theorem getD_set_eq {ns : List Int} {x : Nat} {v : Int} (h : x < ns.length) : (ns.set x v).getD x 0 = v := by
  rw [List.getD_eq_getElem?_getD, List.getElem?_set, if_pos rfl, if_pos h]
  rfl
theorem Rising.set {ns : List Int} {q : List Nat} (r : Rising ns q) {x : Nat} {v : Int} (h : x ∉ q) : Rising (ns.set x v) q :=
  List.Pairwise.imp_of_mem (fun {a b} ha hb z => by
    have na : a ≠ x := fun e => by rw [e] at ha; exact h ha
    have nb : b ≠ x := fun e => by rw [e] at hb; exact h hb
    rw [getD_set_ne na, getD_set_ne nb]
    exact z) r
def sp__law_numbers (K : PySem.W.Frag) : Sp := fun vs H Q _ => ∃ (τ : Tp) (r m : Nat) (P D : List (List Nat)) (F : Nat → Addr), vs = [.ref τ.t, .ref r, .int m] ∧ Tape τ H ∧ RowsL H r D F ∧ Deal P m D ∧ m ≤ 63 ∧
  ∀ l ns H', Mv τ H H' → H' l = some (.lst (ns.map V.int)) → ns.length = m → (∀ q ∈ D, Rising ns q) → (∀ n ∈ ns, n.natAbs < 2 ^ 250) → Q (.ref l) H'
theorem sc__law_numbers : FnScope ["_law_tape_here", "_law_lines_here", "_law_many", "_law_numbers_here", "_law_line", "_law_number", "_law_x"] ["_law_tape_here", "_law_lines_here", "_law_many"] (defScope s__law_numbers) := ⟨rfl, rfl, rfl, by decide +kernel, rfl, by decide +kernel, by decide +kernel⟩
theorem ok__law_numbers (T : Top K mg) : FnOk P w K mg base CX0 3 T.f__law_numbers T.fd__law_numbers ["_law_tape_here", "_law_lines_here", "_law_many"] (sp__law_numbers K) := by
  have G__law_great := ok__law_great (P := P) (w := w) (base := base) T
  refine T.F__law_numbers.ok sc__law_numbers (fun vs H Q E h => ?_) (fun cdv A outer s H vs Q E hr h => ?_)
  · obtain ⟨τ, r, m, P, D, F, rfl, _⟩ := h
    rfl
  · obtain ⟨τ, r, m, P, D, F, rfl, m0, rl, de, hm, k⟩ := h
    refine ⟨_, (pss_cons (ps_set (i := 3) sc__law_numbers.nd rfl (Or.inl rfl) (pe_op op_rep (pe_lst (pa_cons pe_int pa_nil)) (pv 2)))
      (pss_cons (ps_for PassesOwn.never rfl (pi_list (pv 1)) (pg_name (i := 4) sc__law_numbers.nd rfl (Or.inl rfl))
      (pss_cons (ps_set (i := 5) sc__law_numbers.nd rfl (Or.inl rfl) (pe_call G__law_great hr (by rfl) T.g__law_great T.F__law_great.kp T.b__law_great .nil pass0 (pa_cons (pv 0) pa_nil)))
      (pss_one (ps_for PassesOwn.never rfl (pi_list (pv 4)) (pg_name (i := 6) sc__law_numbers.nd rfl (Or.inl rfl))
      (pss_cons (ps_asg (pv 5) (pg_sub (pv 3) (pv 6) set_list))
      (pss_one (ps_set (i := 5) sc__law_numbers.nd rfl (Or.inl rfl) (pe_op op_add (pe_op op_add (pv 5) pe_int) (pe_callB (id := "abs") call_abs (by rfl) T.z_abs (by decide +kernel) (pa_cons (pe_call G__law_great hr (by rfl) T.g__law_great T.F__law_great.kp T.b__law_great .nil pass0 (pa_cons (pv 0) pa_nil)) pa_nil))))))))))
      (pss_one (ps_ret (pv 3))))), ?_⟩
    have dm := de.many
    have hD := rl.list
    tm_at "w"
    intro p0 np0
    have s1 : Same H (upd H p0 (.lst [.int 0])) := Same.new (Same.refl H) np0
    tm_at "w"
    refine ⟨_, _, _, rfl, rfl, upd_same, by omega, by omega, ?_, fun N nN => ?_⟩
    · rw [Int.toNat_natCast]
      show 1 * m ≤ sizeLine
      have := lt_line (n := 1000) (by decide)
      omega
    rw [Int.toNat_natCast, flat_rep]
    have e0 : ((List.range m).map fun _ => V.int 0) = ((List.range m).map fun _ => (0 : Int)).map V.int := by rw [List.map_map]; rfl
    rw [e0]
    have s2 : Same H (upd (upd H p0 (.lst [.int 0])) N (.lst (((List.range m).map fun _ => (0 : Int)).map V.int))) := Same.new s1 nN
    have m2 : Mv τ H (upd (upd H p0 (.lst [.int 0])) N (.lst (((List.range m).map fun _ => (0 : Int)).map V.int))) := m0.mv.same s2
    have nN0 := Same.free s1 nN
    have hN2 : (upd (upd H p0 (.lst [.int 0])) N (.lst (((List.range m).map fun _ => (0 : Int)).map V.int))) N = some (.lst (((List.range m).map fun _ => (0 : Int)).map V.int)) := upd_same
    generalize (upd (upd H p0 (.lst [.int 0])) N (.lst (((List.range m).map fun _ => (0 : Int)).map V.int))) = H2 at *
    have hD2 := s2 _ _ hD
    tm_at "w"
    refine ⟨⟨_, SqL.of hD2⟩, for_list (K := K) (a := r) (xs := refsV D.length F) (fun i σ H' => ∃ u4 u5 u6, σ = [some (.ref τ.t), some (.ref r), some (.int (m : Int)), some (.ref N), u4, u5, u6] ∧ Mv τ H H' ∧ ∃ ns : List Int, H' N = some (.lst (ns.map V.int)) ∧ ns.length = m ∧ (∀ n ∈ ns, n.natAbs < 2 ^ 250) ∧ ∀ (j : Nat) q, j < i → D[j]? = some q → Rising ns q) ?_ ?_ ?_ ?_⟩
    · refine ⟨none, none, none, rfl, m2, _, hN2, by rw [List.length_map, List.length_range], fun n hn => ?_, fun j q h => absurd h (Nat.not_lt_zero _)⟩
      obtain ⟨_, _, rfl⟩ := List.mem_map.mp hn
      decide
    · rintro i σ H' _ ⟨_, _, _, rfl, m', _⟩
      exact SqL.of (rl.mv m').list
    · rintro i x σ H3 hx ⟨u4, u5, u6, rfl, m3, ns, hN3, nsl, nsb, hr⟩
      obtain ⟨il, rfl⟩ := refsV_here hx
      have qi := List.getElem?_eq_getElem il
      have qm := List.getElem_mem il
      have ql := de.long qm
      have asc := de.asc _ qm
      have hlt : ∀ k ∈ D[i], k < m := fun k hk => de.lt qm hk
      have hone : ∀ (j : Nat) q, j < i → D[j]? = some q → ∀ k ∈ D[i], k ∉ q := fun j q hj hq k hk hk2 => by
        obtain ⟨b1, h1⟩ := List.mem_iff_getElem?.mp hk
        obtain ⟨b2, h2⟩ := List.mem_iff_getElem?.mp hk2
        have := (de.one qi h1 hq h2).1
        omega
      generalize hq : D[i] = q at *
      tm_at "w"
      refine ⟨m3.now, fun g H4 m4 gb => ?_⟩
      have hN4 := m4.keep _ _ (m3.neF nN0) hN3
      have m34 := m3.trans m4
      have hF4 := (rl.mv m34).row i _ qi
      tm_at "w"
      refine ⟨⟨_, SqL.of hF4⟩, for_list (K := K) (a := F i) (xs := natsV q) (fun j σ H' => ∃ (z : Int) (u6 : Option V), σ = [some (.ref τ.t), some (.ref r), some (.int (m : Int)), some (.ref N), some (.ref (F i)), some (.int z), u6] ∧ Mv τ H H' ∧ z.natAbs ≤ (j + 1) * 2 ^ 242 ∧ ∃ ns : List Int, H' N = some (.lst (ns.map V.int)) ∧ ns.length = m ∧ (∀ n ∈ ns, n.natAbs < 2 ^ 250) ∧ (∀ (j : Nat) q, j < i → D[j]? = some q → Rising ns q) ∧ Rising ns (q.take j) ∧ ∀ k ∈ q.take j, ns.getD k 0 < z) ?_ ?_ ?_ ?_⟩
      · exact ⟨g, _, rfl, m34, by omega, ns, hN4, nsl, nsb, hr, List.Pairwise.nil, fun k hk => by simp at hk⟩
      · rintro j σ H' _ ⟨_, _, rfl, m', _⟩
        exact SqL.of ((rl.mv m').row i _ qi)
      · rintro j v σ H5 hv ⟨z, u6, rfl, m5, zb, ns, hN5, nsl, nsb, hr, hr2, hz⟩
        obtain ⟨kd, hkd, rfl, jl⟩ := natsV_here hv
        have kq := List.mem_of_getElem? hkd
        have kl := hlt kd kq
        have zb2 : z.natAbs < 2 ^ 250 := by
          have : (j + 1) * 2 ^ 242 ≤ 64 * 2 ^ 242 := Nat.mul_le_mul_right _ (by omega)
          omega
        tm_at "w"
        refine ⟨_, _, _, kd, rfl, rfl, hN5, ixn_nat (by rw [List.length_map]; omega), ?_⟩
        have m6 : Mv τ H (upd H5 N (.lst ((ns.map V.int).set kd (.int z)))) := m5.mut nN0
        have hN6 : (upd H5 N (.lst ((ns.map V.int).set kd (.int z)))) N = some (.lst ((ns.set kd z).map V.int)) := by rw [upd_same, List.map_set]
        generalize (upd H5 N (.lst ((ns.map V.int).set kd (.int z)))) = H6 at *
        tm_at "w"
        refine ⟨m6.now, fun g2 H7 m7 gb2 => ?_⟩
        have hN7 := m7.keep _ _ (m6.neF nN0) hN6
        tm_at "w"
        have knt : kd ∉ q.take j := fun h => by
          obtain ⟨b, hb⟩ := List.mem_iff_getElem?.mp h
          have bj : b < j := by
            have := (List.getElem?_eq_some_iff.mp hb).1
            rw [List.length_take] at this
            omega
          rw [List.getElem?_take_of_lt bj] at hb
          have := asc_one asc hb hkd
          omega
        have kset : (ns.set kd z).getD kd 0 = z := getD_set_eq (by omega)
        have ktake : q.take (j + 1) = q.take j ++ [kd] := by rw [List.take_add_one, hkd]; rfl
        have grow : ∀ k' ∈ q.take (j + 1), (ns.set kd z).getD k' 0 < z + 1 := fun k' hk' => by
          rw [ktake] at hk'
          rcases List.mem_append.mp hk' with h | h
          · have ne : k' ≠ kd := fun e => by rw [e] at h; exact knt h
            rw [getD_set_ne ne]
            have := hz k' h
            omega
          · rw [List.mem_singleton.mp h, kset]
            omega
        refine ⟨_, _, rfl, m6.trans m7, ?_, ns.set kd z, hN7, by rw [List.length_set]; exact nsl, fun n hn => ?_, fun j' q' hj hq' => (hr j' q' hj hq').set (hone j' q' hj hq' kd kq), ?_, fun k' hk' => ?_⟩
        · have e : ∀ B : Nat, (j + 1 + 1) * B = (j + 1) * B + B := fun B => Nat.succ_mul _ _
          rw [e]
          generalize (j + 1) * 2 ^ 242 = w at *
          omega
        · rcases List.mem_or_eq_of_mem_set hn with h | h
          · exact nsb n h
          · rw [h]
            exact zb2
        · rw [ktake]
          refine List.pairwise_append.mpr ⟨Rising.set hr2 knt, List.pairwise_singleton _ _, fun a ha b hb => ?_⟩
          have ne : a ≠ kd := fun e => by rw [e] at ha; exact knt ha
          rw [List.mem_singleton.mp hb, kset, getD_set_ne ne]
          exact hz a ha
        · have := grow k' hk'
          omega
      · rintro σ H5 ⟨z, u6, rfl, m5, zb, ns, hN5, nsl, nsb, hr, hr2, hz⟩
        rw [natsV_len, List.take_length] at hr2
        refine ⟨_, _, _, rfl, m5, ns, hN5, nsl, nsb, fun j q' hj hq' => ?_⟩
        by_cases e : j = i
        · subst e
          rw [qi] at hq'
          rw [← Option.some.inj hq']
          exact hr2
        · exact hr j q' (by omega) hq'
    · rintro σ H3 ⟨u4, u5, u6, rfl, m3, ns, hN3, nsl, nsb, hr⟩
      rw [refsV_len] at hr
      tm_at "w"
      exact k N ns _ m3 hN3 nsl (fun q hq => by
        obtain ⟨j, hj⟩ := List.mem_iff_getElem?.mp hq
        exact hr j q (List.getElem?_eq_some_iff.mp hj).1 hj) nsb
/-! _law_entry -/
/-- an entry that tells just which kinds of a row one is -/
def EntN (P : List (List Nat)) (x : Nat) (q : List Nat) (ns : List Int) (e : Int) : Prop := ∀ (b p : Nat), q[b]? = some p → (ns.getD p 0 ≤ e ↔ isA P x p = true)
theorem ns_at {ns : List Int} {k : Nat} (h : k < ns.length) : (ns.map V.int)[k]? = some (.int (ns.getD k 0)) := by
  rw [List.getElem?_map, List.getD_eq_getElem?_getD, List.getElem?_eq_getElem h]
  rfl
theorem rise_le {ns : List Int} {q : List Nat} (r : Rising ns q) {b b' p p' : Nat} (h1 : q[b]? = some p) (h2 : q[b']? = some p') (h : b ≤ b') : ns.getD p 0 ≤ ns.getD p' 0 := by
  by_cases e : b = b'
  · subst e
    rw [h1] at h2
    rw [Option.some.inj h2]
    exact Int.le_refl _
  · obtain ⟨l1, e1⟩ := List.getElem?_eq_some_iff.mp h1
    obtain ⟨l2, e2⟩ := List.getElem?_eq_some_iff.mp h2
    have := List.pairwise_iff_getElem.mp r b b' l1 l2 (by omega)
    rw [e1, e2] at this
    exact Int.le_of_lt this
theorem rise_lt {ns : List Int} {q : List Nat} (r : Rising ns q) {b b' p p' : Nat} (h1 : q[b]? = some p) (h2 : q[b']? = some p') (h : b < b') : ns.getD p 0 < ns.getD p' 0 := by
  obtain ⟨l1, e1⟩ := List.getElem?_eq_some_iff.mp h1
  obtain ⟨l2, e2⟩ := List.getElem?_eq_some_iff.mp h2
  have := List.pairwise_iff_getElem.mp r b b' l1 l2 h
  rw [e1, e2] at this
  exact this
theorem own_iff {P : List (List Nat)} (hR : RtP P) {x b p : Nat} {q : List Nat} (hc : Chn P q) (h : q[b]? = some p) : b < (q.filter fun k => isA P x k).length ↔ isA P x p = true := chn_count hR x hc h
def sp__law_entry (K : PySem.W.Frag) : Sp := fun vs H Q _ => ∃ (τ : Tp) (a n f x : Nat) (P : List (List Nat)) (q : List Nat) (ns : List Int), vs = [.ref τ.t, .ref a, .ref n, .ref f] ∧ Tape τ H ∧ H a = some (.lst (natsV q)) ∧ H n = some (.lst (ns.map V.int)) ∧ H f = some (.lst (rowF P x)) ∧
  q ≠ [] ∧ Chn P q ∧ Rising ns q ∧ RtP P ∧ (∀ k ∈ q, k < ns.length ∧ k < P.length) ∧ (∀ z ∈ ns, z.natAbs < 2 ^ 250) ∧ q.length ≤ 1000 ∧ ∀ (e : Int) H', Mv τ H H' → EntN P x q ns e → Q (.int e) H'
theorem sc__law_entry : FnScope ["_law_tape_here", "_law_line", "_law_numbers_here", "_law_flags", "_law_among", "_law_least", "_law_kind"] ["_law_tape_here", "_law_line", "_law_numbers_here", "_law_flags"] (defScope s__law_entry) := ⟨rfl, rfl, rfl, by decide +kernel, rfl, by decide +kernel, by decide +kernel⟩
theorem ok__law_entry (T : Top K mg) : FnOk P w K mg base CX0 3 T.f__law_entry T.fd__law_entry ["_law_tape_here", "_law_line", "_law_numbers_here", "_law_flags"] (sp__law_entry K) := by
  have G__law_great := ok__law_great (P := P) (w := w) (base := base) T
  have G__law_pick := ok__law_pick (P := P) (w := w) (base := base) T
  refine T.F__law_entry.ok sc__law_entry (fun vs H Q E h => ?_) (fun cdv A outer s H vs Q E hr h => ?_)
  · obtain ⟨τ, a, n, f, x, P, q, ns, rfl, _⟩ := h
    rfl
  · obtain ⟨τ, a, n, f, x, P, q, ns, rfl, m0, ha, hn, hf, q0, hc, hri, hR, hq, nb, q1000, k⟩ := h
    refine ⟨_, (pss_cons (ps_set (i := 4) sc__law_entry.nd rfl (Or.inl rfl) (pe_callB (r := rLenQ K) (id := "len") call_len_seq (by rfl) T.z_len (by decide +kernel) (pa_cons (pe_lc (own := [("_law_kind", 6)]) (g := gName 6) rfl sc__law_entry.nd (pi_list (pv 1)) (blkOk_by (own := [("_law_kind", 6)]) (N := ["_law_tape_here", "_law_line", "_law_numbers_here", "_law_flags", "_law_among", "_law_least", "_law_kind"]) (sc := defScope s__law_entry) (by decide +kernel)) (fun _ _ _ _ _ => (pg_name (i := 6) sc__law_entry.nd rfl (Or.inl rfl))) (fun _ _ _ _ _ => (pts_one (pt_val (pe_ix (r := rIxL K) ix_list (pv 3) (pv 6) (fun _ _ => rfl))))) (fun _ _ _ _ _ => (pv 6))) pa_nil)))
      (pss_cons (ps_if (pt_cmpR op_eq (pv 4) pe_int (nomark _)) (pss_one (ps_ret (pe_op op_sub (pe_op op_sub (pe_ix (r := rIxL K) ix_list (pv 2) (pe_ix (r := rIxL K) ix_list (pv 1) pe_int (fun _ _ => rfl)) (fun _ _ => rfl)) pe_int) (pe_callB (id := "abs") call_abs (by rfl) T.z_abs (by decide +kernel) (pa_cons (pe_call G__law_great hr (by rfl) T.g__law_great T.F__law_great.kp T.b__law_great .nil pass0 (pa_cons (pv 0) pa_nil)) pa_nil))))) pss_nil)
      (pss_cons (ps_if (pt_cmpR op_eq (pv 4) (pe_callB (r := rLenQ K) (id := "len") call_len_seq (by rfl) T.z_len (by decide +kernel) (pa_cons (pv 1) pa_nil)) (nomark _)) (pss_one (ps_ret (pe_op op_add (pe_ix (r := rIxL K) ix_list (pv 2) (pe_ix (r := rIxL K) ix_list (pv 1) (pe_un un_neg pe_int) (fun _ _ => rfl)) (fun _ _ => rfl)) (pe_callB (id := "abs") call_abs (by rfl) T.z_abs (by decide +kernel) (pa_cons (pe_call G__law_great hr (by rfl) T.g__law_great T.F__law_great.kp T.b__law_great .nil pass0 (pa_cons (pv 0) pa_nil)) pa_nil))))) pss_nil)
      (pss_cons (ps_set (i := 5) sc__law_entry.nd rfl (Or.inl rfl) (pe_ix (r := rIxL K) ix_list (pv 2) (pe_ix (r := rIxL K) ix_list (pv 1) (pe_op op_sub (pv 4) pe_int) (fun _ _ => rfl)) (fun _ _ => rfl)))
      (pss_one (ps_ret (pe_op op_add (pv 5) (pe_call G__law_pick (hr.mono (by decide)) (by rfl) T.g__law_pick T.F__law_pick.kp T.b__law_pick .nil pass0 (pa_cons (pv 0) (pa_cons (pe_op op_sub (pe_ix (r := rIxL K) ix_list (pv 2) (pe_ix (r := rIxL K) ix_list (pv 1) (pv 4) (fun _ _ => rfl)) (fun _ _ => rfl)) (pv 5)) pa_nil)))))))))), ?_⟩
    have nat : a ≠ τ.t := m0.neL ha fun i c s n e => by
      obtain ⟨w, _, h, _⟩ := natsV_here (q := q) (i := 0) (x := .ref τ.l) (by rw [e]; rfl)
      cases h
    have nnt : n ≠ τ.t := m0.neL hn fun i c s n e => by
      obtain ⟨w, _, h, _⟩ := int_here (ns := ns) (i := 0) (x := .ref τ.l) (by rw [e]; rfl)
      cases h
    have ql : 0 < q.length := List.length_pos_iff.mpr q0
    have nsb : ∀ k, (ns.getD k 0).natAbs < 2 ^ 250 := fun k => by
      rw [List.getD_eq_getElem?_getD]
      cases e : ns[k]? with
      | none => decide
      | some z => exact nb z (List.mem_of_getElem? e)
    tm_at "w"
    refine ⟨⟨_, SqL.of ha⟩, fun E nE => lc_listF (fun j => q[j]?.bind fun k => if isA P x k = true then some (V.int (k : Int)) else none) ha nE (by rw [natsV_len]; omega) ?_ ?_⟩
    · intro j y H2 N M hy s2 kN kM
      obtain ⟨kd, hkd, rfl, jl⟩ := natsV_here hy
      have kl := (hq kd (List.mem_of_getElem? hkd)).2
      have rk := rowF_at (P := P) (x := x) (p := kd) kl
      have hf2 := s2 _ _ hf
      tm_at "w"
      refine iteB (fun e => ?_) (fun e => ?_)
      · tm_at "w"
        exact kN _ _ (by rw [hkd]; show (if isA P x kd = true then _ else _) = _; rw [if_pos e]) (Same.refl H2)
      · exact kM _ (by rw [hkd]; show (if isA P x kd = true then _ else _) = _; rw [e, if_neg (by decide)]) (Same.refl H2)
    · intro H2 s2 hE
      rw [filter_list] at hE
      have own : ∀ (b p : Nat), q[b]? = some p → (b < (q.filter (isA P x)).length ↔ isA P x p = true) := fun b p h => own_iff hR hc h
      have cl : (q.filter (isA P x)).length ≤ q.length := List.length_filter_le _ _
      have m2 := m0.mv.same s2
      have ha2 := s2 _ _ ha
      have hn2 := s2 _ _ hn
      generalize hcc : (q.filter (isA P x)).length = c at *
      tm_at "w"
      rw [natsV_len, hcc]
      refine iteI (fun z => ?_) (fun z => ?_)
      · obtain ⟨p0, hp0⟩ : ∃ p0, q[0]? = some p0 := ⟨_, List.getElem?_eq_getElem ql⟩
        have p0l := (hq p0 (List.mem_of_getElem? hp0)).1
        tm_at "w"
        refine ⟨_, _, _, _, rfl, rfl, SqL.of ha2, at_of (j := 0) rfl (natsV_at hp0), ?_⟩
        refine ⟨_, _, _, _, rfl, rfl, SqL.of hn2, at_of (j := p0) rfl (ns_at p0l), ?_⟩
        tm_at "w"
        refine ⟨m2.now, fun g H3 m3 gb => ?_⟩
        tm_at "w"
        refine k _ _ (m2.trans m3) fun b p hb => ⟨fun h => ?_, fun h => ?_⟩
        · have := rise_le hri hp0 hb (Nat.zero_le _)
          exfalso
          split at h <;> omega
        · have := (own b p hb).mpr h
          omega
      · tm_at "w"
        rw [natsV_len]
        refine iteI (fun z2 => ?_) (fun z2 => ?_)
        · obtain ⟨p1, hp1⟩ : ∃ p1, q[q.length - 1]? = some p1 := ⟨_, List.getElem?_eq_getElem (by omega)⟩
          have el : q.getLastD 0 = p1 := by
            rw [List.getLastD_eq_getLast?, List.getLast?_eq_getElem?, hp1]
            rfl
          have p1l := (hq p1 (List.mem_of_getElem? hp1)).1
          have a1 := at_neg1 q0
          rw [el] at a1
          tm_at "w"
          refine ⟨_, _, _, _, rfl, rfl, SqL.of ha2, a1, ?_⟩
          refine ⟨_, _, _, _, rfl, rfl, SqL.of hn2, at_of (j := p1) rfl (ns_at p1l), ?_⟩
          tm_at "w"
          refine ⟨m2.now, fun g H3 m3 gb => ?_⟩
          tm_at "w"
          refine k _ _ (m2.trans m3) fun b p hb => ⟨fun h => (own b p hb).mp ?_, fun h => ?_⟩
          · have := (List.getElem?_eq_some_iff.mp hb).1
            omega
          · have bl := (List.getElem?_eq_some_iff.mp hb).1
            have := rise_le hri hb hp1 (by omega)
            split <;> omega
        · obtain ⟨p1, hp1⟩ : ∃ p1, q[c - 1]? = some p1 := ⟨_, List.getElem?_eq_getElem (by omega)⟩
          obtain ⟨p2, hp2⟩ : ∃ p2, q[c]? = some p2 := ⟨_, List.getElem?_eq_getElem (by omega)⟩
          have p1l := (hq p1 (List.mem_of_getElem? hp1)).1
          have p2l := (hq p2 (List.mem_of_getElem? hp2)).1
          have lt12 := rise_lt hri hp1 hp2 (by omega)
          have b1 := nsb p1
          have b2 := nsb p2
          tm_at "w"
          refine ⟨_, _, _, _, rfl, rfl, SqL.of ha2, at_of (j := c - 1) (by omega) (natsV_at hp1), ?_⟩
          refine ⟨_, _, _, _, rfl, rfl, SqL.of hn2, at_of (j := p1) rfl (ns_at p1l), ?_⟩
          tm_at "w"
          refine ⟨_, _, _, _, rfl, rfl, SqL.of ha2, at_of (j := c) rfl (natsV_at hp2), ?_⟩
          refine ⟨_, _, _, _, rfl, rfl, SqL.of hn2, at_of (j := p2) rfl (ns_at p2l), ?_⟩
          tm_at "w"
          refine ⟨τ, _, rfl, m2.now, by omega, by omega, fun r3 H3 m3 r0 r1 => ?_⟩
          tm_at "w"
          refine k _ _ (m2.trans m3) fun b p hb => ⟨fun h => (own b p hb).mp ?_, fun h => ?_⟩
          · refine Nat.lt_of_not_le fun z3 => ?_
            have := rise_le hri hp2 hb z3
            omega
          · have bc := (own b p hb).mpr h
            have := rise_le hri hb hp1 (by omega)
            omega
/-! _law_right -/
theorem take_list {xs : List V} {k : Nat} (h : k ≤ xs.length) : cutV xs none (some (k : Int)) = xs.take k := by
  unfold cutV
  rw [show HT.sIx xs.length 0 none = 0 from rfl, HT.sIx_nat, List.drop_zero]
  congr 1
  omega
theorem drop_list {xs : List V} {k : Nat} (h : k ≤ xs.length) : cutV xs (some (k : Int)) none = xs.drop k := by
  unfold cutV
  rw [show HT.sIx xs.length xs.length none = xs.length from rfl, HT.sIx_nat, show min k xs.length = k by omega]
  exact List.take_of_length_le (by rw [List.length_drop]; omega)
theorem for_enumL {K : PySem.W.Frag} {a : Addr} {xs : List V} {g : TG} {tb : TS} {D : Ends} {σ : L2.St} {H : Hp} (Pv : Nat → L2.St → Hp → Prop) (h0 : Pv 0 σ H) (hq : ∀ i σ H, Pv i σ H → SqL K H a xs)
    (hs : ∀ (i : Nat) (x : V) (t : Addr) (σ : L2.St) (H : Hp), xs[i]? = some x → Pv i σ H → H t = none → g (.ref t) σ (upd H t (.tup [.int (i : Nat), x])) fun σ2 H2 => tb { D with nx := Pv (i + 1), ct := Pv (i + 1), bk := D.nx } σ2 H2)
    (hd : ∀ σ H, Pv xs.length σ H → D.nx σ H) : ∃ W : Nat → Nat → L2.St → Hp → Prop, (∃ m, W 0 m σ H) ∧ ∀ i m σ H, W i m σ H →
      ((Ite K a).stop i H ∧ D.nx σ H) ∨ ((Ite K a).go i H ∧ ∃ N : L2.St → Hp → Prop, (∀ σ' H', N σ' H' → ∃ m', m' < m ∧ W (i + 1) m' σ' H') ∧ ∀ v H', (Ite K a).yld i H v H' → g v σ H' fun σ2 H2 => tb { D with nx := N, ct := N, bk := D.nx } σ2 H2) := by
  refine ⟨fun i m σ H => m = xs.length - i ∧ i ≤ xs.length ∧ Pv i σ H, ⟨_, rfl, Nat.zero_le _, h0⟩, ?_⟩
  rintro i m σ H ⟨rfl, hi, p⟩
  have q := hq i σ H p
  by_cases lt : i < xs.length
  · refine .inr ⟨⟨xs, _, q, List.getElem?_eq_getElem lt⟩, Pv (i + 1), fun σ' H' p2 => ⟨_, by omega, rfl, lt, p2⟩, fun v H' y => ?_⟩
    obtain ⟨t, x, rfl, nt, rfl, f⟩ := y
    exact hs i x t σ H (f xs q) p nt
  · have e : i = xs.length := by omega
    subst e
    exact .inl ⟨⟨xs, q, Nat.le_refl _⟩, hd σ H p⟩
theorem lc_enumLF {K : PySem.W.Frag} {a : Addr} {xs : List V} {g : TG} {tt : TT} {te : TE} {vs : List Nat} {σ : St} {H1 : Hp} {D : Addr} {Qd : Hp → Prop} (f : Nat → Option V) (hx : H1 a = some (.lst xs)) (nD : H1 D = none) (hn : xs.length ≤ 100000)
    (hs : ∀ (i : Nat) (x : V) (Z : Addr) (H : Hp) (N : V → Hp → Prop) (M : Hp → Prop), xs[i]? = some x → Same H1 H → H Z = some (.tup [.int (i : Nat), x]) → (∀ v H4, f i = some v → Same H H4 → N v H4) → (∀ H4, f i = none → Same H H4 → M H4) → g (.ref Z) (wipe σ vs) H fun σ2 H2 => wipe σ2 vs = wipe σ vs ∧ tt σ2 H2 fun b H3 => if b = true then te σ2 H3 N else M H3)
    (hd : ∀ H, Same H1 H → H D = some (.lst ((List.range xs.length).filterMap f)) → Qd H) : ∃ W : Nat → Nat → Hp → Prop, (∃ m, W 0 m (upd H1 D (.lst []))) ∧ ∀ i m H, W i m H →
      ((Ite K a).stop i H ∧ Qd H) ∨ ((Ite K a).go i H ∧ ∃ Nx : Hp → Prop, (∀ H', Nx H' → ∃ m', m' < m ∧ W (i + 1) m' H') ∧ ∀ x H', (Ite K a).yld i H x H' → g x (wipe σ vs) H' fun σ2 H2 => wipe σ2 vs = wipe σ vs ∧ tt σ2 H2 fun b H3 =>
        if b = true then te σ2 H3 fun y H4 => ∃ acc, H4 D = some (.lst acc) ∧ acc.length < sizeLine ∧ Nx (upd H4 D (.lst (acc ++ [y]))) else Nx H3) := by
  refine ⟨fun i m H => m = xs.length - i ∧ i ≤ xs.length ∧ Same H1 H ∧ H D = some (.lst ((List.range i).filterMap f)), ⟨xs.length, rfl, Nat.zero_le _, Same.new (Same.refl H1) nD, upd_same⟩, ?_⟩
  rintro i m H ⟨rfl, hi, s, hD⟩
  have qx : SqL K H a xs := SqL.of (s _ _ hx)
  have hz := filterMap_range_len f i
  by_cases hlt : i < xs.length
  · have ex : xs[i]? = some xs[i] := List.getElem?_eq_getElem hlt
    refine .inr ⟨⟨xs, _, qx, ex⟩, fun H => i < xs.length ∧ Same H1 H ∧ H D = some (.lst ((List.range (i + 1)).filterMap f)), fun H' p' => ⟨xs.length - (i + 1), by omega, rfl, hlt, p'.2⟩, fun v H' y => ?_⟩
    obtain ⟨Z, x', rfl, hZ, rfl, f1⟩ := y
    have s1 : Same H (upd H Z (.tup [.int (i : Nat), x'])) := Same.new (Same.refl H) hZ
    refine hs i x' Z _ _ _ (f1 xs qx) (s.trans s1) upd_same (fun v H4 e s4 => ⟨_, s4 _ _ (s1 _ _ hD), lt_line (by omega), hlt, ?_, ?_⟩) (fun H4 e s4 => ⟨hlt, ?_, ?_⟩)
    · exact Same.mut ((s.trans s1).trans s4) nD
    · rw [filterMap_range_succ, e]
      exact upd_same
    · exact (s.trans s1).trans s4
    · rw [filterMap_range_succ, e, s4 _ _ (s1 _ _ hD)]
      simp
  · have e : i = xs.length := by omega
    subst e
    exact .inl ⟨⟨xs, qx, Nat.le_refl _⟩, hd H s hD⟩
structure RightR (P D : List (List Nat)) (ns : List Int) (gap lift : Nat) (x : Nat) (e : Tr) : Prop where
  place : ∃ (s b : Nat) (q : List Nat), D[s]? = some q ∧ q[b]? = some x ∧ e.1 = ((lift + gap * s : Nat) : Int)
  num : e.2.1 = ns.getD x 0
  len : e.2.2.length ≤ 300 ∧ e.1 ≤ 300
  ents : ∀ (s : Nat) q, D[s]? = some q → (∃ z, e.2.2[lift + gap * s]? = some z ∧ EntN P x q ns z) ∨ (e.2.2.length ≤ lift + gap * s ∧ ∀ p ∈ q, isA P x p = false)
theorem right_ok {P D : List (List Nat)} {ns : List Int} {gap lift : Nat} {S : List Tr} (hl : S.length = P.length) (h : ∀ (x : Nat) e, S[x]? = some e → RightR P D ns gap lift x e) : SchOk P S := by
  refine ⟨hl, fun e he => ?_, fun x p ex ep h1 h2 => ?_⟩
  · obtain ⟨x, hx⟩ := List.mem_iff_getElem?.mp he
    have r := h x e hx
    obtain ⟨s, b, q, _, _, e1⟩ := r.place
    exact ⟨by rw [e1]; exact Int.natCast_nonneg _, Nat.le_trans r.len.1 (by decide)⟩
  · have rx := h x ex h1
    have rp := h p ep h2
    obtain ⟨s, b, q, hs, hb, e1⟩ := rp.place
    unfold saysB
    rw [e1, rp.num, Int.toNat_natCast]
    rcases rx.ents s q hs with ⟨z, hz, en⟩ | ⟨hl2, no⟩
    · have lt := (List.getElem?_eq_some_iff.mp hz).1
      have e2 : ex.2.2.getD (lift + gap * s) 0 = z := by rw [List.getD_eq_getElem?_getD, hz]; rfl
      rw [decide_eq_true (by omega), Bool.true_and, e2, Bool.eq_iff_iff, decide_eq_true_eq]
      exact en b p hb
    · rw [decide_eq_false (by omega), Bool.false_and, no p (List.mem_of_getElem? hb)]
def sp__law_right (K : PySem.W.Frag) : Sp := fun vs H Q _ => ∃ (τ : Tp) (f r : Addr) (P D : List (List Nat)) (F : Nat → Addr), vs = [.ref τ.t, .ref f, .ref r] ∧ Tape τ H ∧ FlagsAt H f P ∧ RowsL H r D F ∧ Deal P P.length D ∧ RtP P ∧ P.length ≤ 63 ∧
  ∀ l vs S H', Mv τ H H' → H l = none → H' l = some (.lst vs) → ScL H' vs S → SchOk P S → (∀ e ∈ S, e.2.2.length ≤ 300 ∧ e.1 ≤ 300) → Q (.ref l) H'
theorem sc__law_right : FnScope ["_law_tape_here", "_law_above_here", "_law_lines_here", "_law_numbers_here", "_law_found", "_law_gap", "_law_lift", "_law_x", "_law_flags", "_law_row", "_law_slot", "_law_needed", "_law_at", "_law_line", "_law_again"] ["_law_tape_here", "_law_above_here", "_law_lines_here"] (defScope s__law_right) := ⟨rfl, rfl, rfl, by decide +kernel, rfl, by decide +kernel, by decide +kernel⟩
theorem ok__law_right (T : Top K mg) : FnOk P w K mg base CX0 4 T.f__law_right T.fd__law_right ["_law_tape_here", "_law_above_here", "_law_lines_here"] (sp__law_right K) := by
  have G__law_entry := ok__law_entry (P := P) (w := w) (base := base) T
  have G__law_great := ok__law_great (P := P) (w := w) (base := base) T
  have G__law_numbers := ok__law_numbers (P := P) (w := w) (base := base) T
  have G__law_pick := ok__law_pick (P := P) (w := w) (base := base) T
  refine T.F__law_right.ok sc__law_right (fun vs H Q E h => ?_) (fun cdv A outer s H vs Q E hr h => ?_)
  · obtain ⟨τ, f, r, P, D, F, rfl, _⟩ := h
    rfl
  · obtain ⟨τ, f, r, P, D, F, rfl, m0, hF, rl, de, hR, h63, k⟩ := h
    refine ⟨_, (pss_cons (ps_par (i := 5) (j := 6) (by rfl) sc__law_right.nd rfl rfl (by decide) rfl rfl (pa_cons (pe_op op_add pe_int (pe_call G__law_pick (hr.mono (by decide)) (by rfl) T.g__law_pick T.F__law_pick.kp T.b__law_pick .nil pass0 (pa_cons (pv 0) (pa_cons pe_int pa_nil)))) (pa_cons (pe_call G__law_pick (hr.mono (by decide)) (by rfl) T.g__law_pick T.F__law_pick.kp T.b__law_pick .nil pass0 (pa_cons (pv 0) (pa_cons pe_int pa_nil))) pa_nil)) (by rfl))
      (pss_cons (ps_set (i := 3) sc__law_right.nd rfl (Or.inl rfl) (pe_call G__law_numbers hr (by rfl) T.g__law_numbers T.F__law_numbers.kp T.b__law_numbers .nil pass0 (pa_cons (pv 0) (pa_cons (pv 2) (pa_cons (pe_callB (r := rLenQ K) (id := "len") call_len_seq (by rfl) T.z_len (by decide +kernel) (pa_cons (pv 1) pa_nil)) pa_nil)))))
      (pss_cons (ps_set (i := 4) sc__law_right.nd rfl (Or.inl rfl) (pe_lst pa_nil))
      (pss_cons (ps_for PassesOwn.never rfl (pi_enum (by rfl) T.z_enumerate (pa_cons (pv 1) pa_nil)) (pg_tup rfl (pgs_cons (pg_name (i := 7) sc__law_right.nd rfl (Or.inl rfl)) (pgs_cons (pg_name (i := 8) sc__law_right.nd rfl (Or.inl rfl)) pgs_nil)))
      (pss_cons (ps_setLc (i := 9) (own := [("_law_again", 14)]) (g := gName 14) (tt := tYes) rfl sc__law_right.nd rfl rfl (sw_true rfl rfl rfl (by decide +kernel)) (pi_range1 rfl T.z_range (pa_cons (pe_op op_add (pv 6) (pe_op op_mul (pv 5) (pe_callB (r := rLenQ K) (id := "len") call_len_seq (by rfl) T.z_len (by decide +kernel) (pa_cons (pv 2) pa_nil)))) pa_nil)) (blkOk_by (own := [("_law_again", 14)]) (N := ["_law_tape_here", "_law_above_here", "_law_lines_here", "_law_numbers_here", "_law_found", "_law_gap", "_law_lift", "_law_x", "_law_flags", "_law_row", "_law_slot", "_law_needed", "_law_at", "_law_line", "_law_again"]) (sc := defScope s__law_right) (by decide +kernel)) (fun _ _ _ _ _ => (pg_name (i := 14) sc__law_right.nd rfl (Or.inl rfl))) (fun _ _ _ _ _ => pts_nil) (fun _ _ _ _ _ => (pe_call G__law_great (hr.mono (by decide)) (by rfl) T.g__law_great T.F__law_great.kp T.b__law_great .nil pass0 (pa_cons (pv 0) pa_nil))))
      (pss_cons (ps_set (i := 10) sc__law_right.nd rfl (Or.inl rfl) pe_int)
      (pss_cons (ps_set (i := 11) sc__law_right.nd rfl (Or.inl rfl) pe_int)
      (pss_cons (ps_for PassesOwn.never rfl (pi_enum (by rfl) T.z_enumerate (pa_cons (pv 2) pa_nil)) (pg_tup rfl (pgs_cons (pg_name (i := 12) sc__law_right.nd rfl (Or.inl rfl)) (pgs_cons (pg_name (i := 13) sc__law_right.nd rfl (Or.inl rfl)) pgs_nil)))
      (pss_cons (ps_asg (pe_call G__law_entry hr (by rfl) T.g__law_entry T.F__law_entry.kp T.b__law_entry .nil pass0 (pa_cons (pv 0) (pa_cons (pv 13) (pa_cons (pv 3) (pa_cons (pv 8) pa_nil))))) (pg_sub (pv 9) (pe_op op_add (pv 6) (pe_op op_mul (pv 5) (pv 12))) set_list))
      (C8.pss_cut (ps_if (pt_val (pe_ix (r := rIxL K) ix_list (pv 8) (pe_ix (r := rIxL K) ix_list (pv 13) pe_int (fun _ _ => rfl)) (fun _ _ => rfl))) (pss_one (ps_set (i := 11) sc__law_right.nd rfl (Or.inl rfl) (pe_op op_add (pe_op op_add (pv 6) (pe_op op_mul (pv 5) (pv 12))) pe_int))) pss_nil)
      (pss_one (ps_if (pt_cmpR op_in_seq (pv 7) (pv 13) (by rfl)) (pss_one (ps_set (i := 10) sc__law_right.nd rfl (Or.inl rfl) (pe_op op_add (pv 6) (pe_op op_mul (pv 5) (pv 12))))) pss_nil)))))
      (pss_cons (ps_set (i := 9) sc__law_right.nd rfl (Or.inl rfl) (pe_slice sl_list (pv 9) po_none (po_some (pe_op op_add (pv 11) (pe_call G__law_pick (hr.mono (by decide)) (by rfl) T.g__law_pick T.F__law_pick.kp T.b__law_pick .nil pass0 (pa_cons (pv 0) (pa_cons (pe_op op_add (pe_op op_sub (pe_callB (r := rLenQ K) (id := "len") call_len_seq (by rfl) T.z_len (by decide +kernel) (pa_cons (pv 9) pa_nil)) (pv 11)) pe_int) pa_nil)))))))
      (pss_one (ps_expr (pe_bm PySem.F.plainAttrs_list PySem.F.slot_list_append PySem.F.type_list_append mt_append (pv 4) (pa_cons (pe_tup (pa_cons (pv 10) (pa_cons (pe_ix (r := rIxL K) ix_list (pv 3) (pv 7) (fun _ _ => rfl)) (pa_cons (pe_callTy (r := rTupQ K) (T := "tuple") call_tuple_of (by rfl) T.z_tuple (by decide +kernel) (pa_cons (pv 9) pa_nil)) pa_nil)))) pa_nil))))))))))
      (pss_one (ps_ret (pv 4))))))), ?_⟩
    have dm := de.many
    tm_at "w"
    refine ⟨τ, _, rfl, m0, by decide, by decide, fun r1 H1 m1 a0 a1 => ?_⟩
    tm_at "w"
    refine ⟨τ, _, rfl, m1.now, by decide, by decide, fun r2 H2 m2 b0 b1 => ?_⟩
    obtain ⟨gap, hgap⟩ : ∃ n : Nat, 1 + r1 = (n : Int) := ⟨(1 + r1).toNat, by omega⟩
    obtain ⟨lift, rfl⟩ : ∃ n : Nat, r2 = (n : Int) := ⟨r2.toNat, by omega⟩
    tm_at "w"
    have eg : (fun i j : Int => V.int (i + j)) 1 r1 = V.int (gap : Int) := congrArg V.int hgap
    refine ⟨_, _, rfl, ?_⟩
    rw [eg]
    have m12 := m1.trans m2
    have rl2 := rl.mv m12
    have hF2 := hF.mv m12
    obtain ⟨fvs, hf1, hf2, hf3⟩ := id hF2
    tm_at "w"
    refine ⟨τ, r, P.length, P, D, F, by rw [hf2]; rfl, m2.now, rl2, de, h63, fun nl ns H3 m3 hns nsl rising nb => ?_⟩
    have nlt : nl ≠ τ.t := m3.now.neL hns fun i c s n e => by
      obtain ⟨w, _, h, _⟩ := int_here (ns := ns) (i := 0) (x := .ref τ.l) (by rw [e]; rfl)
      cases h
    have m03 := m12.trans m3
    tm_at "w"
    intro fd nfd
    have nfdt := m3.now.mv.neN nfd
    have nfd0 := m03.free nfd
    have hF3 := hF.mv m03
    have rl3 := rl.mv m03
    obtain ⟨fw, hw1, hw2, hw3⟩ := id hF3
    have s4 : Same H3 (upd H3 fd (.lst [])) := Same.new (Same.refl H3) nfd
    have hw4 := s4 _ _ hw1
    have m4 : Mv τ H3 (upd H3 fd (.lst [])) := m3.now.mv.new nfd
    have nft : f ≠ τ.t := m3.now.neL hw1 fun i c s n e => by
      obtain ⟨a, e1, _⟩ := hw3 1 (.int i) (by rw [e]; rfl)
      cases e1
    tm_at "w"
    refine ⟨_, _, rfl, SqL.of hw4, for_enumL (K := K) (a := f) (xs := fw) (fun i σ H' => ∃ u7 u8 u9 u10 u11 u12 u13, σ = [some (.ref τ.t), some (.ref f), some (.ref r), some (.ref nl), some (.ref fd), some (.int (gap : Int)), some (.int (lift : Int)), u7, u8, u9, u10, u11, u12, u13, none] ∧ Mv τ H3 H' ∧ ∃ acc, H' fd = some (.lst acc) ∧ acc.length = i ∧ ∀ (j : Nat) v, acc[j]? = some v → ∃ e, RightR P D ns gap lift j e ∧ Trip H' v e) ?_ ?_ ?_ ?_⟩
    · exact ⟨_, _, _, _, _, _, _, rfl, m4, [], upd_same, rfl, fun j v e => by simp at e⟩
    · rintro i σ H' ⟨_, _, _, _, _, _, _, rfl, m, _⟩
      exact SqL.of (m.keep _ _ nft hw1)
    · rintro i x t σ H5 hx ⟨u7, u8, u9, u10, u11, u12, u13, rfl, m5, acc, hfd, hal, hacc⟩ nt
      obtain ⟨fx, rfl, _, _⟩ := hw3 i x hx
      have il : i < P.length := by
        have := (List.getElem?_eq_some_iff.mp hx).1
        omega
      have m6 := m5.new (o := .tup [.int (i : Int), .ref fx]) nt
      have rl6 := rl3.mv m6
      have hD6 := rl6.list
      have gl : gap * D.length ≤ 3 * 63 := Nat.mul_le_mul (by omega) (by omega)
      have eg2 : (lift : Int) + (gap : Int) * ((refsV D.length F).length : Int) = ((lift + gap * D.length : Nat) : Int) := by
        rw [refsV_len, Int.natCast_add, Int.natCast_mul]
      tm_at "w"
      rw [eg2]
      intro E nE
      have nEt := m6.neN nE
      have nE3 := m6.free nE
      refine lc_rangeM (τ := τ) (fun _ v _ => IsI v) (fun _ _ _ _ h _ => h) m6.now nE (by omega) ?_ ?_
      · intro j H7 N M hj m7 kN
        tm_at "w"
        refine ⟨m7.now, fun g H8 m8 gb => ?_⟩
        exact kN _ _ m8 ⟨_, rfl⟩
      · intro H7 acc7 m7 hE hlen hI
        obtain ⟨rs, rfl⟩ := ints_at hI
        rw [Int.toNat_natCast, List.length_map] at hlen
        have m37 : Mv τ H3 H7 := m6.trans m7
        have hfd7 := m7.keep _ _ nfdt ((Same.new (o := .tup [.int (i : Int), .ref fx]) (Same.refl H5) nt) _ _ hfd)
        have rl7 := rl3.mv m37
        have hD7 := rl7.list
        have B6 : Tape τ (upd H5 t (.tup [.int (i : Int), .ref fx])) := m6.now
        have m6b : Mv τ H3 (upd H5 t (.tup [.int (i : Int), .ref fx])) := m6
        have hfd6 : (upd H5 t (.tup [.int (i : Int), .ref fx])) fd = some (.lst acc) := (Same.new (Same.refl H5) nt) _ _ hfd
        have tk5 : TK H5 (upd H5 t (.tup [.int (i : Int), .ref fx])) := TK.new nt
        generalize (upd H5 t (.tup [.int (i : Int), .ref fx])) = H6 at *
        tm_at "w"
        refine ⟨_, _, rfl, SqL.of hD7, for_enumL (K := K) (a := r) (xs := refsV D.length F) (fun s σ H' => ∃ (sl nd : Nat) (u12 u13 : Option V), σ = [some (.ref τ.t), some (.ref f), some (.ref r), some (.ref nl), some (.ref fd), some (.int (gap : Int)), some (.int (lift : Int)), some (.int (i : Int)), some (.ref fx), some (.ref E), some (.int (sl : Int)), some (.int (nd : Int)), u12, u13, none] ∧ Mv τ H6 H' ∧ ∃ rs : List Int, H' E = some (.lst (rs.map V.int)) ∧ rs.length = lift + gap * D.length ∧ (∀ (s' : Nat) q, s' < s → D[s']? = some q → ∃ z, rs[lift + gap * s']? = some z ∧ EntN P i q ns z) ∧ nd ≤ lift + gap * D.length ∧ (∀ (s' : Nat) q, s' < s → D[s']? = some q → lift + gap * s' + 1 ≤ nd ∨ ∀ p ∈ q, isA P i p = false) ∧ ((∃ (s' b : Nat) (q : List Nat), s' < s ∧ D[s']? = some q ∧ q[b]? = some i ∧ sl = lift + gap * s') ∨ ∀ (s' : Nat) q, s' < s → D[s']? = some q → i ∉ q)) ?_ ?_ ?_ ?_⟩
        · exact ⟨0, 0, _, _, rfl, m7, rs, hE, hlen, fun s' q h => absurd h (Nat.not_lt_zero _), Nat.zero_le _, fun s' q h => absurd h (Nat.not_lt_zero _), .inr fun s' q h => absurd h (Nat.not_lt_zero _)⟩
        · rintro s σ H' ⟨_, _, _, _, rfl, m', _⟩
          exact SqL.of (rl3.mv (m6b.trans m')).list
        · rintro s y t8 σ H8 hy ⟨sl, nd, u12, u13, rfl, m8, rs, hE8, rsl, hent, hnd, hneed, hslot⟩ nt8
          obtain ⟨sl', rfl⟩ := refsV_here hy
          have qs := List.getElem?_eq_getElem sl'
          have qm := List.getElem_mem sl'
          have ql := de.long qm
          have q0 := de.full _ qm
          have qc := de.chain _ qm
          have qr := rising _ qm
          have qlt : ∀ k ∈ D[s], k < ns.length ∧ k < P.length := fun k hk => by have := de.lt qm hk; exact ⟨by omega, this⟩
          have gs : lift + gap * s < lift + gap * D.length := by
            have : gap * s < gap * D.length := Nat.mul_lt_mul_of_pos_left sl' (by omega)
            omega
          generalize hq : D[s] = q at *
          have m9 := m8.new (o := .tup [.int (s : Int), .ref (F s)]) nt8
          have hE9 := (Same.new (o := .tup [.int (s : Int), .ref (F s)]) (Same.refl H8) nt8) _ _ hE8
          have m39 := m6b.trans m9
          have hrow9 := (rl3.mv m39).row s _ qs
          have hns9 := m39.keep _ _ nlt hns
          obtain ⟨fw9, fx9, g1, g2, g3⟩ := (hF3.mv m39).at il
          have efx : fx9 = fx := by
            have q1 := m39.keep _ _ nft hw1
            rw [g1] at q1
            obtain rfl : fw9 = fw := by
              injection q1 with q2
              injection q2
            rw [hx] at g2
            injection g2 with q2
            injection q2 with q3
            exact q3.symm
          subst efx
          tm_at "w"
          refine ⟨τ, F s, nl, fx9, i, P, q, ns, rfl, m9.now, hrow9, hns9, g3, q0, qc, qr, hR, qlt, nb, by omega, fun e H10 m10 en => ?_⟩
          have hE10 := m10.keep _ _ nEt hE9
          have eI : (lift : Int) + (gap : Int) * (s : Int) = ((lift + gap * s : Nat) : Int) := by rw [Int.natCast_add, Int.natCast_mul]
          have m610 := m9.trans m10
          tm_at "w"
          refine ⟨_, _, _, lift + gap * s, rfl, rfl, hE10, (congrArg (ixN _) eI).trans (ixn_nat (by rw [List.length_map]; omega)), ?_⟩
          have m11 : Mv τ H6 (upd H10 E (.lst ((rs.map V.int).set (lift + gap * s) (.int e)))) := m610.mut nE
          have hE11 : (upd H10 E (.lst ((rs.map V.int).set (lift + gap * s) (.int e)))) E = some (.lst ((rs.set (lift + gap * s) e).map V.int)) := by rw [upd_same, List.map_set]
          generalize (upd H10 E (.lst ((rs.map V.int).set (lift + gap * s) (.int e)))) = H11 at *
          have m311 := m6b.trans m11
          have hrow11 := (rl3.mv m311).row s _ qs
          obtain ⟨fw11, fx11, g4, g5, g6⟩ := (hF3.mv m311).at il
          have efx2 : fx11 = fx9 := by
            have q1 := m311.keep _ _ nft hw1
            rw [g4] at q1
            obtain rfl : fw11 = fw := by
              injection q1 with q2
              injection q2
            rw [hx] at g5
            injection g5 with q2
            injection q2 with q3
            exact q3.symm
          subst efx2
          have rs2l : (rs.set (lift + gap * s) e).length = lift + gap * D.length := by rw [List.length_set]; exact rsl
          have hent2 : ∀ (s' : Nat) q', s' < s + 1 → D[s']? = some q' → ∃ z, (rs.set (lift + gap * s) e)[lift + gap * s']? = some z ∧ EntN P i q' ns z := fun s' q' h1 h2 => by
            by_cases es : s' = s
            · subst es
              rw [qs] at h2
              obtain rfl := Option.some.inj h2
              exact ⟨e, List.getElem?_set_self (by omega), en⟩
            · obtain ⟨z, hz, ez⟩ := hent s' q' (by omega) h2
              have : gap * s' < gap * s := Nat.mul_lt_mul_of_pos_left (by omega) (by omega)
              exact ⟨z, by rw [List.getElem?_set_ne (by omega)]; exact hz, ez⟩
          generalize (rs.set (lift + gap * s) e) = rs2 at *
          have qne : 0 < q.length := List.length_pos_iff.mpr q0
          have hq0 : q[0]? = some q[0] := List.getElem?_eq_getElem qne
          have q0l := (qlt _ (List.getElem_mem qne)).2
          have told0 : isA P i q[0] = false → ∀ p ∈ q, isA P i p = false := fun h p hp => by
            obtain ⟨b, hb⟩ := List.mem_iff_getElem?.mp hp
            cases h2 : isA P i p with
            | false => rfl
            | true =>
              have h3 := (own_iff hR qc hb).mpr h2
              have h4 := (own_iff (x := i) hR qc hq0).mp (by omega)
              rw [h] at h4
              cases h4
          tm_at "w"
          refine ⟨fun σ H' => ∃ nd : Nat, σ = [some (.ref τ.t), some (.ref f), some (.ref r), some (.ref nl), some (.ref fd), some (.int (gap : Int)), some (.int (lift : Int)), some (.int (i : Int)), some (.ref fx11), some (.ref E), some (.int (sl : Int)), some (.int (nd : Int)), some (.int (s : Int)), some (.ref (F s)), none] ∧ H' = H11 ∧ nd ≤ lift + gap * D.length ∧ (∀ (s' : Nat) q', s' < s + 1 → D[s']? = some q' → lift + gap * s' + 1 ≤ nd ∨ ∀ p ∈ q', isA P i p = false), ?_, ?_⟩
          · have rk := rowF_at (P := P) (x := i) (p := q[0]) q0l
            tm_at "w"
            refine ⟨_, _, _, _, rfl, rfl, SqL.of hrow11, at_of (j := 0) rfl (natsV_at hq0), ?_⟩
            refine ⟨_, _, _, _, rfl, rfl, SqL.of g6, at_of (j := q[0]) rfl rk, ?_⟩
            tm_at "w"
            refine iteB (fun z => ?_) (fun z => ?_)
            · tm_at "w"
              refine And.intro (show lift + gap * s + 1 ≤ lift + gap * D.length by omega) fun s' q' h1 h2 => ?_
              have : gap * s' ≤ gap * s := Nat.mul_le_mul_left _ (by omega)
              exact .inl (show lift + gap * s' + 1 ≤ lift + gap * s + 1 by omega)
            · refine ⟨nd, rfl, rfl, hnd, fun s' q' h1 h2 => ?_⟩
              by_cases es : s' = s
              · subst es
                rw [qs] at h2
                obtain rfl := Option.some.inj h2
                exact .inr (told0 z)
              · exact hneed s' q' (by omega) h2
          · rintro σ H12 ⟨nd2, rfl, rfl, hnd2, hneed2⟩
            tm_at "w"
            refine ⟨flat_nats _, ?_⟩
            show ∃ k, V.bl (inV (.int (i : Int)) (natsV q)) = V.bl k ∧ _
            rw [inV_nats]
            refine ⟨_, rfl, ?_⟩
            refine iteD (fun z => ?_) (fun z => ?_)
            · obtain ⟨b0, hb0⟩ := List.mem_iff_getElem?.mp z
              tm_at "w"
              refine ⟨lift + gap * s, nd2, _, _, by rw [← eI]; rfl, m11, rs2, hE11, rs2l, hent2, hnd2, hneed2, .inl ⟨s, b0, q, by omega, qs, hb0, rfl⟩⟩
            · refine ⟨sl, nd2, _, _, rfl, m11, rs2, hE11, rs2l, hent2, hnd2, hneed2, ?_⟩
              rcases hslot with ⟨s', b, q', h1, h2, h3, h4⟩ | h
              · exact .inl ⟨s', b, q', by omega, h2, h3, h4⟩
              · refine .inr fun s' q' h1 h2 => ?_
                by_cases es : s' = s
                · subst es
                  rw [qs] at h2
                  obtain rfl := Option.some.inj h2
                  exact z
                · exact h s' q' (by omega) h2
        · rintro σ H8 ⟨sl, nd, u12, u13, rfl, m8, rs, hE8, rsl, hent, hnd, hneed, hslot⟩
          rw [refsV_len] at hent hneed hslot
          have sl0 : ∃ (s' b : Nat) (q : List Nat), D[s']? = some q ∧ q[b]? = some i ∧ sl = lift + gap * s' := by
            rcases hslot with ⟨s', b, q', h1, h2, h3, h4⟩ | h
            · exact ⟨s', b, q', h2, h3, h4⟩
            · obtain ⟨s', b, q', h2, h3⟩ := de.place il
              exact absurd (List.mem_of_getElem? h3) (h s' q' (List.getElem?_eq_some_iff.mp h2).1 h2)
          clear hslot
          have h80 := m6b.trans m8
          have ln : rs.length - nd + 1 ≤ 300 := by omega
          have e1 : ((rs.map V.int).length : Int) - (nd : Int) + 1 = ((rs.length - nd + 1 : Nat) : Int) := by rw [List.length_map]; omega
          unfold tNoPart
          tm_at "w"
          refine ⟨τ, ((rs.length - nd + 1 : Nat) : Int), congrArg (fun z : Int => [V.ref τ.t, V.int z]) e1, m8.now, by omega, Int.lt_of_le_of_lt (show _ ≤ (300 : Int) by omega) (by decide), fun g H9 m9 g0 g1 => ?_⟩
          have hE9 := m9.keep _ _ nEt hE8
          obtain ⟨cut, hcut⟩ : ∃ n : Nat, (nd : Int) + g = (n : Int) := ⟨((nd : Int) + g).toNat, by omega⟩
          have cutl : cut ≤ rs.length := by omega
          have ndc : nd ≤ cut := by omega
          refine ⟨_, _, rfl, rfl, ⟨_, rfl, ?_⟩⟩
          refine ⟨_, _, rfl, SqL.of hE9, fun p np => ?_⟩
          rw [hcut, take_list (by rw [List.length_map]; exact cutl), ← List.map_take]
          have m39 : Mv τ H3 H9 := h80.trans m9
          have m69 : Mv τ H6 H9 := m8.trans m9
          have pt := m9.neN np
          have np6 := m69.free np
          have m10 := m39.new (o := .lst ((rs.take cut).map V.int)) np
          have m610 := m69.new (o := .lst ((rs.take cut).map V.int)) np
          have hfd10 := m610.keep _ _ nfdt hfd6
          have hns10 := m10.keep _ _ nlt hns
          have hp10 : (upd H9 p (.lst ((rs.take cut).map V.int))) p = some (.lst ((rs.take cut).map V.int)) := upd_same
          have tk10 := TK.trans tk5 m610.tk
          generalize (upd H9 p (.lst ((rs.take cut).map V.int))) = H10 at *
          tm_at "w"
          refine ⟨_, _, _, _, rfl, rfl, SqL.of hns10, at_of (j := i) rfl (ns_at (by omega)), ?_⟩
          tm_at "w"
          intro te nte
          tm_at "w"
          intro p2 np2
          have m11 := (m10.new (o := .tup ((rs.take cut).map V.int)) nte).new (o := .tup [.int (sl : Int), .int (ns.getD i 0), .ref te]) np2
          have s11 : Same H10 (upd (upd H10 te (.tup ((rs.take cut).map V.int))) p2 (.tup [.int (sl : Int), .int (ns.getD i 0), .ref te])) := Same.new (Same.new (Same.refl _) nte) np2
          have hte : (upd (upd H10 te (.tup ((rs.take cut).map V.int))) p2 (.tup [.int (sl : Int), .int (ns.getD i 0), .ref te])) te = some (.tup ((rs.take cut).map V.int)) := (Same.new (Same.refl _) np2) _ _ upd_same
          have hp2 : (upd (upd H10 te (.tup ((rs.take cut).map V.int))) p2 (.tup [.int (sl : Int), .int (ns.getD i 0), .ref te])) p2 = some (.tup [.int (sl : Int), .int (ns.getD i 0), .ref te]) := upd_same
          show tNil _ (upd (upd H10 te (.tup ((rs.take cut).map V.int))) p2 (.tup [.int (sl : Int), .int (ns.getD i 0), .ref te])) _
          generalize (upd (upd H10 te (.tup ((rs.take cut).map V.int))) p2 (.tup [.int (sl : Int), .int (ns.getD i 0), .ref te])) = H11 at *
          have hfd11 := s11 _ _ hfd10
          tm_at "w"
          have tk : TK H11 (upd H11 fd (.lst (acc ++ [.ref p2]))) := TK.mut hfd11
          refine ⟨_, _, _, _, _, _, _, rfl, m11.mut nfd, acc ++ [.ref p2], upd_same, len_app hal, snoc_at hal (fun j v e => ?_) ⟨(((sl : Nat) : Int), ns.getD i 0, rs.take cut), ?_, ⟨p2, te, rfl, tk _ _ hp2, tk _ _ hte⟩⟩⟩
          · obtain ⟨e', h1, h2⟩ := hacc j v e
            exact ⟨e', h1, h2.tk (TK.trans (TK.trans tk10 (Same.tk s11)) tk)⟩
          · obtain ⟨s', b, q, h1, h2, h3⟩ := sl0
            have gs' : gap * s' ≤ gap * D.length := Nat.mul_le_mul_left _ (Nat.le_of_lt (List.getElem?_eq_some_iff.mp h1).1)
            refine ⟨⟨s', b, q, h1, h2, by rw [h3]⟩, rfl, ⟨by rw [List.length_take]; omega, show (sl : Int) ≤ 300 by omega⟩, fun s2 q2 hq2 => ?_⟩
            have sl2 := (List.getElem?_eq_some_iff.mp hq2).1
            obtain ⟨z, hz, ez⟩ := hent s2 q2 sl2 hq2
            have zl := (List.getElem?_eq_some_iff.mp hz).1
            by_cases hc : lift + gap * s2 < cut
            · exact .inl ⟨z, by rw [List.getElem?_take_of_lt hc]; exact hz, ez⟩
            · rcases hneed s2 q2 sl2 hq2 with h | h
              · omega
              · exact .inr ⟨by rw [List.length_take]; omega, h⟩
    · rintro σ H5 ⟨u7, u8, u9, u10, u11, u12, u13, rfl, m5, acc, hfd, hal, hacc⟩
      obtain ⟨S, hS, hb⟩ := sch_pick hacc
      have hSl := hS.len
      tm_at "w"
      exact k fd acc S _ (m03.trans m5) nfd0 hfd hS (right_ok (by omega) hb) fun e he => by
        obtain ⟨x, hx⟩ := List.mem_iff_getElem?.mp he
        exact (hb x e hx).len
/-! _law_says -/
def sp__law_says (K : PySem.W.Frag) : Sp := fun vs H Q _ => ∃ (a : Addr) (S : List Tr) (x p : Nat) (ex ep : Tr), vs = [.ref a, .int x, .int p] ∧ SchAt H a S ∧ S[x]? = some ex ∧ S[p]? = some ep ∧ 0 ≤ ep.1 ∧ Q (.bl (saysB ex ep)) H
theorem sc__law_says : FnScope ["_law_scheme", "_law_x", "_law_p", "_law_slot", "_law_row"] ["_law_scheme", "_law_x", "_law_p"] (defScope s__law_says) := ⟨rfl, rfl, rfl, by decide +kernel, rfl, by decide +kernel, by decide +kernel⟩
theorem ok__law_says (T : Top K mg) : FnOk P w K mg base CX0 1 T.f__law_says T.fd__law_says ["_law_scheme", "_law_x", "_law_p"] (sp__law_says K) := by
  refine T.F__law_says.ok sc__law_says (fun vs H Q E h => ?_) (fun cdv A outer s H vs Q E hr h => ?_)
  · obtain ⟨a, S, x, p, ex, ep, rfl, _⟩ := h
    rfl
  · obtain ⟨a, S, x, p, ⟨s1, n1, r1⟩, ⟨s2, n2, r2⟩, rfl, hS, hx, hp, h0, k⟩ := h
    obtain ⟨vs, px, qx, ha, hl, hvx, hpx, hqx⟩ := hS.at hx
    obtain ⟨vs', pp, qp, ha', hl', hvp, hpp, hqp⟩ := hS.at hp
    have ev : vs = vs' := HO.tup.inj (Option.some.inj (ha.symm.trans ha'))
    subst ev
    refine ⟨_, (pss_cons (ps_set (i := 3) sc__law_says.nd rfl (Or.inl rfl) (pe_ix (r := rIxT K) ix_tup (pe_ix (r := rIxT K) ix_tup (pv 0) (pv 2) (fun _ _ => rfl)) pe_int (fun _ _ => rfl)))
      (pss_cons (ps_set (i := 4) sc__law_says.nd rfl (Or.inl rfl) (pe_ix (r := rIxT K) ix_tup (pe_ix (r := rIxT K) ix_tup (pv 0) (pv 1) (fun _ _ => rfl)) pe_int (fun _ _ => rfl)))
      (pss_cons (ps_if (pt_cmpR op_ge (pv 3) (pe_callB (r := rLenQ K) (id := "len") call_len_seq (by rfl) T.z_len (by decide +kernel) (pa_cons (pv 4) pa_nil)) (nomark _)) (pss_one (ps_ret pe_bl)) pss_nil)
      (pss_one (ps_ret (pe_cmpR op_ge (pe_ix (r := rIxT K) ix_tup (pv 4) (pv 3) (fun _ _ => rfl)) (pe_ix (r := rIxT K) ix_tup (pe_ix (r := rIxT K) ix_tup (pv 0) (pv 2) (fun _ _ => rfl)) pe_int (fun _ _ => rfl)) (nomark _))))))), ?_⟩
    tm_at "w"
    refine iteD (fun h1 => ?_) (fun h1 => ?_)
    · rw [List.length_map] at h1
      have h1 : (r1.length : Int) ≤ s2 := h1
      have e : saysB (s1, n1, r1) (s2, n2, r2) = false := by
        show (decide (s2 < (r1.length : Int)) && decide (n2 ≤ r1.getD s2.toNat 0)) = _
        rw [decide_eq_false (by omega), Bool.false_and]
      rw [e] at k
      tm_at "w"
      exact k
    · rw [List.length_map] at h1
      have h1 : ¬ (r1.length : Int) ≤ s2 := h1
      have h1 : s2 < (r1.length : Int) := by omega
      tm_at "w"
      refine ⟨_, _, _, _, rfl, rfl, by tm_at "sqt", at_map h0 h1, ?_⟩
      tm_at "w"
      have e : saysB (s1, n1, r1) (s2, n2, r2) = decide (n2 ≤ r1.getD s2.toNat 0) := by
        show (decide (s2 < (r1.length : Int)) && decide (n2 ≤ r1.getD s2.toNat 0)) = _
        rw [decide_eq_true h1, Bool.true_and]
      rw [e] at k
      exact k
/-! _law_first -/
def sp__law_first (K : PySem.W.Frag) : Sp := fun vs H Q _ => ∃ (a f : Addr) (P : List (List Nat)) (S : List Tr), vs = [.ref a, .ref f] ∧ SchAt H a S ∧ FlagsAt H f P ∧ S.length = P.length ∧ (∀ e ∈ S, 0 ≤ e.1) ∧ P.length ≤ 1000 ∧
  (rightTo P S P.length 0 → Q .non H) ∧ (∀ x p, x < P.length → p < P.length → rightTo P S x p → saysI S x p ≠ isA P x p → ∀ t H', Same H H' → H' t = some (.tup [.int (x : Int), .int (p : Int)]) → Q (.ref t) H')
theorem sc__law_first : FnScope ["_law_scheme", "_law_above_here", "_law_x", "_law_p"] ["_law_scheme", "_law_above_here"] (defScope s__law_first) := ⟨rfl, rfl, rfl, by decide +kernel, rfl, by decide +kernel, by decide +kernel⟩
theorem ok__law_first (T : Top K mg) : FnOk P w K mg base CX0 2 T.f__law_first T.fd__law_first ["_law_scheme", "_law_above_here"] (sp__law_first K) := by
  have G__law_says := ok__law_says (P := P) (w := w) (base := base) T
  refine T.F__law_first.ok sc__law_first (fun vs H Q E h => ?_) (fun cdv A outer s H vs Q E hr h => ?_)
  · obtain ⟨a, f, P, S, rfl, _⟩ := h
    rfl
  · obtain ⟨a, f, P, S, rfl, hS, hF, ol, h0, hn, k, k2⟩ := h
    refine ⟨_, (pss_cons (ps_for PassesOwn.never rfl (pi_range1 rfl T.z_range (pa_cons (pe_callB (r := rLenQ K) (id := "len") call_len_seq (by rfl) T.z_len (by decide +kernel) (pa_cons (pv 1) pa_nil)) pa_nil)) (pg_name (i := 2) sc__law_first.nd rfl (Or.inl rfl))
      (pss_one (ps_for PassesOwn.never rfl (pi_range1 rfl T.z_range (pa_cons (pe_callB (r := rLenQ K) (id := "len") call_len_seq (by rfl) T.z_len (by decide +kernel) (pa_cons (pv 1) pa_nil)) pa_nil)) (pg_name (i := 3) sc__law_first.nd rfl (Or.inl rfl))
      (pss_one (ps_if (pt_cmpR op_ne (pe_call G__law_says hr (by rfl) T.g__law_says T.F__law_says.kp T.b__law_says .nil pass0 (pa_cons (pv 0) (pa_cons (pv 2) (pa_cons (pv 3) pa_nil)))) (pe_ix (r := rIxL K) ix_list (pe_ix (r := rIxL K) ix_list (pv 1) (pv 2) (fun _ _ => rfl)) (pv 3) (fun _ _ => rfl)) (nomark _)) (pss_one (ps_ret (pe_tup (pa_cons (pv 2) (pa_cons (pv 3) pa_nil))))) pss_nil)))))
      (pss_one (ps_ret pe_non))), ?_⟩
    obtain ⟨fs, f1, fl, fr⟩ := id hF
    tm_at "w"
    refine for_range (lo := 0) (n := (fs.length : Int).toNat) (fun i σ H' => ∃ u v, σ = [some (.ref a), some (.ref f), u, v] ∧ H' = H ∧ rightTo P S i 0) ⟨none, none, rfl, rfl, fun x' p' _ h => by omega⟩ ?_ ?_
    · rintro x σ H1 hx ⟨u, v, rfl, rfl, hr⟩
      rw [Int.zero_add]
      tm_at "w"
      refine for_range (lo := 0) (n := (fs.length : Int).toNat) (fun i σ H' => ∃ v, σ = [some (.ref a), some (.ref f), some (.int (x : Int)), v] ∧ H' = H1 ∧ rightTo P S x i) ⟨_, rfl, rfl, hr⟩ ?_ ?_
      · rintro p σ H2 hp ⟨v, rfl, rfl, hr⟩
        rw [Int.zero_add]
        have hxS : x < S.length := by omega
        have hpS : p < S.length := by omega
        obtain ⟨vs, ax, g1, g2, g3⟩ := hF.at (x := x) (by omega)
        have g4 := rowF_at (P := P) (x := x) (p := p) (by omega)
        have es := saysI_at (List.getElem?_eq_getElem hxS) (List.getElem?_eq_getElem hpS)
        tm_at "w"
        refine ⟨a, S, x, p, _, _, rfl, hS, List.getElem?_eq_getElem hxS, List.getElem?_eq_getElem hpS, h0 _ (List.getElem_mem hpS), ?_⟩
        rw [← es]
        tm_at "w"
        by_cases e : saysI S x p = isA P x p
        · rw [e]
          refine iteEF (by rw [decide_eq_true rfl]; rfl) ?_
          refine ⟨_, rfl, rfl, fun x' p' h1 h2 => ?_⟩
          rcases h2 with h2 | ⟨h2, h3⟩
          · exact hr x' p' h1 (.inl h2)
          · by_cases e2 : p' = p
            · rw [h2, e2]
              exact e
            · exact hr x' p' h1 (.inr ⟨h2, by omega⟩)
        · refine iteET (by rw [decide_eq_false (fun z => e (V.bl.inj z))]; rfl) ?_
          tm_at "w"
          intro t nt
          exact k2 x p (by omega) (by omega) hr e t _ (Same.new (Same.refl _) nt) upd_same
      · rintro σ H2 ⟨v, rfl, rfl, hr⟩
        refine ⟨_, _, rfl, rfl, fun x' p' h1 h2 => ?_⟩
        rcases h2 with h2 | ⟨h2, h3⟩
        · by_cases e2 : x' = x
          · exact hr x' p' h1 (.inr ⟨e2, by omega⟩)
          · exact hr x' p' h1 (.inl (by omega))
        · omega
    · rintro σ H1 ⟨u, v, rfl, rfl, hr⟩
      tm_at "w"
      exact k (fun x' p' h1 h2 => hr x' p' h1 (h2.imp (fun z => by omega) fun z => ⟨by omega, z.2⟩))
/-! _law_same_pair -/
def PairV (H : Hp) (v w : V) : Prop := (v = .non ∧ w = .non) ∨ ∃ (t u : Addr) (x p : Nat), v = .ref t ∧ w = .ref u ∧ H t = some (.tup [.int (x : Int), .int (p : Int)]) ∧ H u = some (.tup [.int (x : Int), .int (p : Int)])
def sp__law_same_pair (K : PySem.W.Frag) : Sp := fun vs H Q _ => ∃ (v w : V), vs = [v, w] ∧ PairV H v w ∧ ∀ H', Same H H' → Q (.bl true) H'
theorem sc__law_same_pair : FnScope ["_law_told", "_law_due", "_law_one"] ["_law_told", "_law_due"] (defScope s__law_same_pair) := ⟨rfl, rfl, rfl, by decide +kernel, rfl, by decide +kernel, by decide +kernel⟩
theorem ok__law_same_pair (T : Top K mg) : FnOk P w K mg base CX0 1 T.f__law_same_pair T.fd__law_same_pair ["_law_told", "_law_due"] (sp__law_same_pair K) := by
  refine T.F__law_same_pair.ok sc__law_same_pair (fun vs H Q E h => ?_) (fun cdv A outer s H vs Q E hr h => ?_)
  · obtain ⟨v, w, rfl, _⟩ := h
    rfl
  · obtain ⟨v, w, rfl, hp, k⟩ := h
    refine ⟨_, (pss_cons (ps_if (PW.pt (pw_or (pt_cmpR op_isN (pv 1) pe_non (nomark _)) (pw_or1 (pt_cmpR op_isN (pv 0) pe_non (nomark _))))) (pss_one (ps_ret (pe_and (pe_cmpR op_isN (pv 1) pe_non (nomark _)) (pe_one (pe_cmpR op_isN (pv 0) pe_non (nomark _)))))) pss_nil)
      (pss_cons (ps_if (PW.pt (pw_or (pt_not (pt_val (pe_callB (r := rIsi K) (id := "isinstance") call_isi (by rfl) T.z_isinstance (by decide +kernel) (pa_cons (pv 0) (pa_cons (pe_bltn (v := .ty "tuple") (u := .type "tuple") (by rfl) T.z_tuple (by decide +kernel) rfl) pa_nil))))) (pw_or1 (pt_cmpR op_ne (pe_callB (r := rLenQ K) (id := "len") call_len_seq (by rfl) T.z_len (by decide +kernel) (pa_cons (pv 0) pa_nil)) pe_int (nomark _))))) (pss_one (ps_ret pe_bl)) pss_nil)
      (pss_one (ps_ret (pe_and (pe_callB (r := rAll K) (id := "all") (cr_all rfl) (by rfl) T.z_all (by decide +kernel) (pa_cons (pe_lc (own := [("_law_one", 2)]) (g := gName 2) (tt := tYes) rfl sc__law_same_pair.nd (pi_tup (pv 0)) (blkOk_by (own := [("_law_one", 2)]) (N := ["_law_told", "_law_due", "_law_one"]) (sc := defScope s__law_same_pair) (by decide +kernel)) (fun _ _ _ _ _ => (pg_name (i := 2) sc__law_same_pair.nd rfl (Or.inl rfl))) (fun _ _ _ _ _ => pts_nil) (fun _ _ _ _ _ => (pe_and (pe_callB (r := rIsi K) (id := "isinstance") call_isi (by rfl) T.z_isinstance (by decide +kernel) (pa_cons (pv 2) (pa_cons (pe_bltn (v := .ty "int") (u := .type "int") (by rfl) T.z_int (by decide +kernel) rfl) pa_nil))) (pe_one (pe_not (pe_callB (r := rIsi K) (id := "isinstance") call_isi (by rfl) T.z_isinstance (by decide +kernel) (pa_cons (pv 2) (pa_cons (pe_bltn (v := .ty "bool") (u := .type "bool") (by rfl) T.z_bool (by decide +kernel) rfl) pa_nil)))))))) pa_nil)) (pe_one (pe_cmpR (op_eqD hr.units) (pv 0) (pv 1) (nomark _)))))))), ?_⟩
    have tt := tup_tup (K := K)
    rcases hp with ⟨rfl, rfl⟩ | ⟨t, u, x, p, rfl, rfl, ht, hu⟩
    · tm_at "w"
      rw [decide_eq_true rfl]
      exact k _ (Same.refl H)
    · have ty1 := ty_tup (K := K) ht
      have ex : [V.int (x : Int), V.int (p : Int)] = ([(x : Int), (p : Int)] : List Int).map V.int := rfl
      tm_at "w"
      refine ⟨⟨_, SqT.of ht⟩, fun D nD => lc_tupF (fun _ => some (.bl true)) ht nD (show 2 ≤ 100000 by decide) ?_ ?_⟩
      · intro i z H' N M hz s1 kN kM
        rw [ex] at hz
        obtain ⟨z, _, rfl, _⟩ := int_here hz
        tm_at "w"
        refine ⟨_, _, _, _, _, rfl, ClsV.ty _, ty_int z, int_int, ?_⟩
        tm_at "w"
        refine ⟨_, _, _, _, _, rfl, ClsV.ty _, ty_int z, int_bool, ?_⟩
        tm_at "w"
        exact kN _ _ rfl (Same.refl H')
      · intro H' s1 hD
        rw [all_true] at hD
        tm_at "w"
        refine ⟨_, _, rfl, SqL.of hD, ?_⟩
        rw [all_id]
        tm_at "w"
        refine ⟨_, _, .tup (SqT.of (s1 _ _ ht)) (dp_ints [(x : Int), (p : Int)]), .tup (SqT.of (s1 _ _ hu)) (dp_ints [(x : Int), (p : Int)]), shaped_ints _, shaped_ints _, ?_⟩
        rw [same_ints]
        exact k _ s1
/-! _law_pairs -/
/-- the items that a filter lets, each with something of its own -/
theorem lc_rangeFR {lo : Int} {n : Nat} {g : TG} {tt : TT} {te : TE} {vs : List Nat} {σ : St} {H1 : Hp} {D : Addr} {Qd : Hp → Prop} (f : Nat → Bool) (R : Nat → V → Hp → Prop) (st : ∀ i v H H', R i v H → TK H H' → R i v H') (nD : H1 D = none) (hn : n ≤ 100000)
    (hs : ∀ (i : Nat) (H : Hp) (N : V → Hp → Prop) (M : Hp → Prop), i < n → Same H1 H → (f i = true → ∀ v H4, Same H H4 → R i v H4 → N v H4) → (f i = false → ∀ H4, Same H H4 → M H4) → g (.int (lo + (i : Int))) (wipe σ vs) H fun σ2 H2 => wipe σ2 vs = wipe σ vs ∧ tt σ2 H2 fun b H3 => if b = true then te σ2 H3 N else M H3)
    (hd : ∀ H acc, Same H1 H → H D = some (.lst acc) → acc.length = ((List.range n).filter f).length → (∀ (j : Nat) v, acc[j]? = some v → ∃ p, ((List.range n).filter f)[j]? = some p ∧ R p v H) → Qd H) : ∃ W : Nat → Nat → Hp → Prop, (∃ m, W 0 m (upd H1 D (.lst []))) ∧ ∀ i m H, W i m H →
      ((Itr lo n).stop i H ∧ Qd H) ∨ ((Itr lo n).go i H ∧ ∃ Nx : Hp → Prop, (∀ H', Nx H' → ∃ m', m' < m ∧ W (i + 1) m' H') ∧ ∀ x H', (Itr lo n).yld i H x H' → g x (wipe σ vs) H' fun σ2 H2 => wipe σ2 vs = wipe σ vs ∧ tt σ2 H2 fun b H3 =>
        if b = true then te σ2 H3 fun y H4 => ∃ acc, H4 D = some (.lst acc) ∧ acc.length < sizeLine ∧ Nx (upd H4 D (.lst (acc ++ [y]))) else Nx H3) := by
  refine lc_range (lo := lo) (n := n) (fun i H => Same H1 H ∧ ∃ acc, H D = some (.lst acc) ∧ acc.length = ((List.range i).filter f).length ∧ ∀ (j : Nat) v, acc[j]? = some v → ∃ p, ((List.range i).filter f)[j]? = some p ∧ R p v H) ⟨Same.new (Same.refl H1) nD, [], upd_same, rfl, fun j v e => by simp at e⟩ (fun i H hi p => ?_) (fun H p => ?_)
  · obtain ⟨m, acc, hD, hlen, hR⟩ := p
    have il : i < n := hi
    have fl : ((List.range i).filter f).length ≤ i := by
      have := List.length_filter_le f (List.range i)
      rw [List.length_range] at this
      exact this
    have e1 : (List.range (i + 1)).filter f = (List.range i).filter f ++ (if f i = true then [i] else []) := by
      rw [List.range_succ, List.filter_append]
      congr 1
      cases hf : f i <;> simp [hf]
    refine hs i H _ _ hi m (fun hf v H4 m4 r => ⟨acc, m4 _ _ hD, lt_line (by omega), Same.mut (Same.trans m m4) nD, acc ++ [v], upd_same, ?_, fun j u e => ?_⟩) (fun hf H4 m4 => ⟨Same.trans m m4, acc, m4 _ _ hD, ?_, fun j u e => ?_⟩)
    · rw [e1, if_pos hf, List.length_append, List.length_append, hlen]
      rfl
    · have k1 : TK H4 (upd H4 D (.lst (acc ++ [v]))) := TK.mut (m4 _ _ hD)
      rw [e1, if_pos hf]
      by_cases hj : j < acc.length
      · rw [List.getElem?_append_left hj] at e
        obtain ⟨p, h1, h2⟩ := hR j u e
        exact ⟨p, by rw [List.getElem?_append_left (by omega)]; exact h1, st _ _ _ _ (st _ _ _ _ h2 (Same.tk m4)) k1⟩
      · rw [List.getElem?_append_right (by omega)] at e
        have q := (List.getElem?_eq_some_iff.mp e).1
        rw [List.length_singleton] at q
        have hj2 : j = acc.length := by omega
        rw [hj2, Nat.sub_self] at e
        have e2 : v = u := Option.some.inj e
        rw [← e2, hj2]
        exact ⟨i, by rw [List.getElem?_append_right (by omega), hlen, Nat.sub_self]; rfl, st _ _ _ _ r k1⟩
    · rw [e1, hf, if_neg (by decide), List.append_nil]
      exact hlen
    · rw [e1, hf, if_neg (by decide), List.append_nil]
      obtain ⟨p, h1, h2⟩ := hR j u e
      exact ⟨p, h1, st _ _ _ _ h2 (Same.tk m4)⟩
  · obtain ⟨m, acc, hD, hlen, hR⟩ := p
    exact hd H acc m hD hlen hR
/-- two kinds of a book side by side -/
def Beside (P : List (List Nat)) (p x : Nat) : Prop := p < x ∧ x < P.length ∧ isA P x p = false
def PairsL (H : Hp) (vs : List V) (P : List (List Nat)) : Prop := ∀ (j : Nat) v, vs[j]? = some v → ∃ t p x, v = .ref t ∧ H t = some (.tup [.int ((p : Nat) : Int), .int ((x : Nat) : Int)]) ∧ Beside P p x
theorem PairsL.tk {H H' : Hp} {vs : List V} {P : List (List Nat)} (h : PairsL H vs P) (k : TK H H') : PairsL H' vs P := fun j v e => by
  obtain ⟨t, p, x, e1, e2, e3⟩ := h j v e
  exact ⟨t, p, x, e1, k _ _ e2, e3⟩
def sp__law_pairs (K : PySem.W.Frag) : Sp := fun vs H Q _ => ∃ (f : Addr) (P : List (List Nat)), vs = [.ref f] ∧ FlagsAt H f P ∧ P.length ≤ 100 ∧
  ∀ l ws H', Same H H' → H' l = some (.lst ws) → PairsL H' ws P → ws.length ≤ 10000 → (ws = [] → ∀ p x, p < x → x < P.length → isA P x p = true) → Q (.ref l) H'
theorem sc__law_pairs : FnScope ["_law_above_here", "_law_found", "_law_x", "_law_p"] ["_law_above_here"] (defScope s__law_pairs) := ⟨rfl, rfl, rfl, by decide +kernel, rfl, by decide +kernel, by decide +kernel⟩
theorem ok__law_pairs (T : Top K mg) : FnOk P w K mg base CX0 1 T.f__law_pairs T.fd__law_pairs ["_law_above_here"] (sp__law_pairs K) := by
  refine T.F__law_pairs.ok sc__law_pairs (fun vs H Q E h => ?_) (fun cdv A outer s H vs Q E hr h => ?_)
  · obtain ⟨f, P, rfl, _⟩ := h
    rfl
  · obtain ⟨f, P, rfl, hF, h100, k⟩ := h
    refine ⟨_, (pss_cons (ps_set (i := 1) sc__law_pairs.nd rfl (Or.inl rfl) (pe_lst pa_nil))
      (pss_cons (ps_for PassesOwn.never rfl (pi_range1 rfl T.z_range (pa_cons (pe_callB (r := rLenQ K) (id := "len") call_len_seq (by rfl) T.z_len (by decide +kernel) (pa_cons (pv 0) pa_nil)) pa_nil)) (pg_name (i := 2) sc__law_pairs.nd rfl (Or.inr rfl))
      (pss_one (ps_expr (pe_bm PySem.F.plainAttrs_list PySem.F.slot_list_extend PySem.F.type_list_extend mt_extend (pv 1) (pa_cons (pe_lc (own := [("_law_p", 3)]) (g := gName 3) rfl sc__law_pairs.nd (pi_range1 rfl T.z_range (pa_cons (pv 2) pa_nil)) (blkOk_by (own := [("_law_p", 3)]) (N := ["_law_above_here", "_law_found", "_law_x", "_law_p"]) (sc := defScope s__law_pairs) (by decide +kernel)) (fun _ _ _ _ _ => (pg_name (i := 3) sc__law_pairs.nd rfl (Or.inl rfl))) (fun _ _ _ _ _ => (pts_one (pt_not (pt_val (pe_ix (r := rIxL K) ix_list (pe_ix (r := rIxL K) ix_list (pv 0) (pv 2) (fun _ _ => rfl)) (pv 3) (fun _ _ => rfl)))))) (fun _ _ _ _ _ => (pe_tup (pa_cons (pv 3) (pa_cons (pv 2) pa_nil))))) pa_nil)))))
      (pss_one (ps_ret (pv 1))))), ?_⟩
    obtain ⟨fs, f1, fl, fr⟩ := id hF
    tm_at "w"
    intro l nl
    have s0 : Same H (upd H l (.lst [])) := Same.new (Same.refl H) nl
    have f10 := s0 _ _ f1
    tm_at "w"
    refine for_range (lo := 0) (n := (fs.length : Int).toNat) (fun i σ H' => ∃ u2 u3, σ = [some (.ref f), some (.ref l), u2, u3] ∧ Same H H' ∧ ∃ ws, H' l = some (.lst ws) ∧ PairsL H' ws P ∧ ws.length ≤ 100 * i ∧ (ws = [] → ∀ p x, p < x → x < i → isA P x p = true)) ⟨_, _, rfl, s0, [], upd_same, (fun j v e => by simp at e), Nat.zero_le _, fun _ p x _ h => absurd h (Nat.not_lt_zero _)⟩ ?_ ?_
    · rintro x σ H1 hx ⟨u2, u3, rfl, s1, ws, hl, hws, hwl, hemp⟩
      rw [Int.zero_add]
      have xl : x < P.length := by omega
      tm_at "w"
      intro E nE
      refine lc_rangeFR (fun p => !isA P x p) (fun p v H => ∃ t, v = .ref t ∧ H t = some (.tup [.int (p : Int), .int (x : Int)])) (fun i v H H' h k => by
        obtain ⟨t, e1, e2⟩ := h
        exact ⟨t, e1, k _ _ e2⟩) nE (by omega) ?_ ?_
      · intro p H2 N M hp s2 kN kM
        rw [Int.zero_add]
        have hF2 := (hF.same s1).same s2
        obtain ⟨vs, ax, g1, g2, g3⟩ := hF2.at xl
        have g4 := rowF_at (P := P) (x := x) (p := p) (by omega)
        tm_at "w"
        refine iteB (fun e => ?_) (fun e => ?_)
        · tm_at "w"
          intro t nt
          exact kN e _ _ (Same.new (Same.refl H2) nt) ⟨t, rfl, upd_same⟩
        · exact kM e _ (Same.refl H2)
      · intro H2 acc s2 hE hlen hR
        have hl2 := s2 _ _ hl
        have fl := List.length_filter_le (fun p => !isA P x p) (List.range x)
        rw [List.length_range] at fl
        rw [show ((x : Int)).toNat = x from Int.toNat_natCast x] at hlen hR
        tm_at "w"
        refine ⟨_, _, _, _, rfl, rfl, hl2, hE, Nat.le_trans (show ws.length + acc.length ≤ 20000 by omega) (by decide), ?_⟩
        have tk : TK H2 (upd H2 l (.lst (ws ++ acc))) := TK.mut hl2
        refine ⟨_, _, rfl, Same.mut (Same.trans s1 s2) nl, ws ++ acc, upd_same, fun j v e => ?_, by rw [List.length_append]; omega, fun e p x' h1 h2 => ?_⟩
        · by_cases hj : j < ws.length
          · rw [List.getElem?_append_left hj] at e
            exact (hws.tk (TK.trans (Same.tk s2) tk)) j v e
          · rw [List.getElem?_append_right (by omega)] at e
            obtain ⟨p, h1, t, h2, h3⟩ := hR _ _ e
            have hp := List.mem_filter.mp (List.mem_of_getElem? h1)
            refine ⟨t, p, x, h2, tk _ _ h3, List.mem_range.mp hp.1, xl, ?_⟩
            have := hp.2
            rw [Bool.not_eq_true'] at this
            exact this
        · have e1 := List.append_eq_nil_iff.mp e
          by_cases ex : x' = x
          · subst ex
            rw [e1.2, List.length_nil] at hlen
            have e3 := List.eq_nil_of_length_eq_zero hlen.symm
            have nm : p ∉ (List.range x').filter (fun p => !isA P x' p) := by rw [e3]; exact List.not_mem_nil
            cases h : isA P x' p with
            | true => rfl
            | false => exact absurd (List.mem_filter.mpr ⟨List.mem_range.mpr h1, by rw [h]; rfl⟩) nm
          · exact hemp e1.1 p x' h1 (by omega)
    · rintro σ H1 ⟨u2, u3, rfl, s1, ws, hl, hws, hwl, hemp⟩
      tm_at "w"
      refine k l ws _ s1 hl hws (by omega) fun e p x h1 h2 => hemp e p x h1 (by omega)
/-! _law_lot -/
/-- kinds two by two side by side -/
def SideL (P : List (List Nat)) (q : List Nat) : Prop := (∀ k ∈ q, k < P.length) ∧ q.Pairwise fun a b => isA P a b = false ∧ isA P b a = false
def sp__law_lot (K : PySem.W.Frag) : Sp := fun vs H Q _ => ∃ (τ : Tp) (f t p x : Nat) (P : List (List Nat)), vs = [.ref τ.t, .ref f, .ref t] ∧ Tape τ H ∧ FlagsAt H f P ∧ H t = some (.tup [.int (p : Int), .int (x : Int)]) ∧ p < P.length ∧ x < P.length ∧ isA P x p = false ∧ isA P p x = false ∧ P.length ≤ 100 ∧
  ∀ (l : Addr) (q : List Nat) H', Mv τ H H' → H l = none → H' l = some (.lst (natsV q)) → SideL P q → 2 ≤ q.length → q.length ≤ 200 → Q (.ref l) H'
theorem sc__law_lot : FnScope ["_law_tape_here", "_law_above_here", "_law_pair", "_law_found", "_law_again", "_law_x", "_law_p"] ["_law_tape_here", "_law_above_here", "_law_pair"] (defScope s__law_lot) := ⟨rfl, rfl, rfl, by decide +kernel, rfl, by decide +kernel, by decide +kernel⟩
theorem ok__law_lot (T : Top K mg) : FnOk P w K mg base CX0 2 T.f__law_lot T.fd__law_lot ["_law_tape_here", "_law_above_here", "_law_pair"] (sp__law_lot K) := by
  have G__law_pick := ok__law_pick (P := P) (w := w) (base := base) T
  refine T.F__law_lot.ok sc__law_lot (fun vs H Q E h => ?_) (fun cdv A outer s H vs Q E hr h => ?_)
  · obtain ⟨τ, f, t, p, x, P, rfl, _⟩ := h
    rfl
  · obtain ⟨τ, f, t, p, x, P, rfl, m0, hF, ht, hp, hx, n1, n2, h100, k⟩ := h
    refine ⟨_, (pss_cons (ps_set (i := 3) sc__law_lot.nd rfl (Or.inl rfl) (pe_callTy (r := rListQ K) (T := "list") call_list_of (by rfl) T.z_list (by decide +kernel) (pa_cons (pv 2) pa_nil)))
      (pss_cons (ps_for PassesOwn.never rfl (pi_range1 rfl T.z_range (pa_cons (pe_callB (r := rLenQ K) (id := "len") call_len_seq (by rfl) T.z_len (by decide +kernel) (pa_cons (pv 1) pa_nil)) pa_nil)) (pg_name (i := 4) sc__law_lot.nd rfl (Or.inl rfl))
      (pss_cons (ps_set (i := 5) sc__law_lot.nd rfl (Or.inr rfl) (pe_call G__law_pick hr (by rfl) T.g__law_pick T.F__law_pick.kp T.b__law_pick .nil pass0 (pa_cons (pv 0) (pa_cons (pe_callB (r := rLenQ K) (id := "len") call_len_seq (by rfl) T.z_len (by decide +kernel) (pa_cons (pv 1) pa_nil)) pa_nil))))
      (pss_one (ps_if (pt_not (pt_val (pe_callB (r := rAny K) (id := "any") (cr_any rfl) (by rfl) T.z_any (by decide +kernel) (pa_cons (pe_lc (own := [("_law_p", 6)]) (g := gName 6) (tt := tYes) rfl sc__law_lot.nd (pi_list (pv 3)) (blkOk_by (own := [("_law_p", 6)]) (N := ["_law_tape_here", "_law_above_here", "_law_pair", "_law_found", "_law_again", "_law_x", "_law_p"]) (sc := defScope s__law_lot) (by decide +kernel)) (fun _ _ _ _ _ => (pg_name (i := 6) sc__law_lot.nd rfl (Or.inl rfl))) (fun _ _ _ _ _ => pts_nil) (fun _ _ _ _ _ => (pe_or (pe_ix (r := rIxL K) ix_list (pe_ix (r := rIxL K) ix_list (pv 1) (pv 5) (fun _ _ => rfl)) (pv 6) (fun _ _ => rfl)) (pe_one (pe_ix (r := rIxL K) ix_list (pe_ix (r := rIxL K) ix_list (pv 1) (pv 6) (fun _ _ => rfl)) (pv 5) (fun _ _ => rfl)))))) pa_nil)))) (pss_one (ps_expr (pe_bm PySem.F.plainAttrs_list PySem.F.slot_list_append PySem.F.type_list_append mt_append (pv 3) (pa_cons (pv 5) pa_nil)))) pss_nil))))
      (pss_one (ps_ret (pv 3))))), ?_⟩
    obtain ⟨fs, f1, fl, fr⟩ := id hF
    have eT : [V.int (p : Int), V.int (x : Int)] = natsV [p, x] := rfl
    rw [eT] at ht
    tm_at "w"
    intro l nl
    have s0 : Same H (upd H l (.lst (natsV [p, x]))) := Same.new (Same.refl H) nl
    have m1 : Mv τ H (upd H l (.lst (natsV [p, x]))) := m0.mv.same s0
    have f10 := s0 _ _ f1
    tm_at "w"
    refine for_range (lo := 0) (n := (fs.length : Int).toNat) (fun i σ H' => ∃ u4 u5 u6, σ = [some (.ref τ.t), some (.ref f), some (.ref t), some (.ref l), u4, u5, u6] ∧ Mv τ H H' ∧ ∃ q, H' l = some (.lst (natsV q)) ∧ SideL P q ∧ 2 ≤ q.length ∧ q.length ≤ 2 + i) ⟨_, _, _, rfl, m1, [p, x], upd_same, ⟨fun k hk => ?_, ?_⟩, Nat.le_refl _, Nat.le_refl _⟩ ?_ ?_
    · rcases List.mem_cons.mp hk with rfl | hk
      · exact hp
      · rw [List.mem_singleton] at hk
        rw [hk]
        exact hx
    · exact List.pairwise_pair.mpr ⟨n2, n1⟩
    · rintro i σ H1 hi ⟨u4, u5, u6, rfl, m1, q, hl, hq, q2, qi⟩
      rw [Int.zero_add]
      have hF1 := hF.mv m1
      obtain ⟨fs1, f11, fl1, fr1⟩ := id hF1
      tm_at "w"
      refine ⟨τ, _, rfl, m1.now, by omega, Int.lt_of_le_of_lt (show _ ≤ (100 : Int) by omega) (by decide), fun y H2 m2 y0 y1 => ?_⟩
      obtain ⟨y, rfl⟩ : ∃ n : Nat, y = (n : Int) := ⟨y.toNat, by omega⟩
      have hl2 := m2.keep _ _ (m0.mv.neF nl) hl
      have hF2 := hF1.mv m2
      have m12 := m1.trans m2
      tm_at "w"
      refine ⟨⟨_, SqL.of hl2⟩, fun E nE => lc_listF (fun j => q[j]?.map fun p => V.bl (isA P y p || isA P p y)) hl2 nE (by rw [natsV_len]; omega) ?_ ?_⟩
      · intro j v H3 N M hv s3 kN kM
        obtain ⟨kd, hkd, rfl, jl⟩ := natsV_here hv
        have kl := hq.1 kd (List.mem_of_getElem? hkd)
        have hF3 := hF2.same s3
        obtain ⟨vs1, a1, g1, g2, g3⟩ := hF3.at (x := y) (by omega)
        have g4 := rowF_at (P := P) (x := y) (p := kd) kl
        obtain ⟨vs2, a2, g5, g6, g7⟩ := hF3.at (x := kd) kl
        have g8 := rowF_at (P := P) (x := kd) (p := y) (by omega)
        tm_at "w"
        refine ⟨_, _, _, _, rfl, rfl, SqL.of g1, at_of (j := y) rfl g2, ?_⟩
        tm_at "w"
        refine iteB (fun e => ?_) (fun e => ?_)
        · exact kN _ _ (by rw [hkd]; show some (V.bl (isA P y kd || isA P kd y)) = _; rw [e]; rfl) (Same.refl H3)
        · tm_at "w"
          exact kN _ _ (by rw [hkd]; show some (V.bl (isA P y kd || isA P kd y)) = _; rw [e]; rfl) (Same.refl H3)
      · intro H3 s3 hE
        rw [natsV_len, range_items] at hE
        have eB : (q.map fun p => V.bl (isA P y p || isA P p y)) = (q.map fun p => (isA P y p || isA P p y)).map V.bl := by rw [List.map_map]; rfl
        rw [eB] at hE
        tm_at "w"
        refine ⟨_, _, rfl, SqL.of hE, ?_⟩
        tm_at "w"
        have hl3 := s3 _ _ hl2
        refine iteB (fun e => ?_) (fun e => ?_)
        · tm_at "w"
          have m13 := m12.same s3
          have en : ∀ a ∈ q, isA P a y = false ∧ isA P y a = false := fun a ha => by
            rw [Bool.not_eq_true', List.any_eq_false] at e
            have := e _ (List.mem_map.mpr ⟨a, ha, rfl⟩)
            simp only [id, Bool.not_eq_true, Bool.or_eq_false_iff] at this
            exact ⟨this.2, this.1⟩
          refine ⟨_, _, _, rfl, rfl, hl3, lt_line (by rw [natsV_len]; omega), ?_⟩
          refine ⟨_, _, _, rfl, m13.mut nl, q ++ [y], by rw [upd_same, natsV_snoc], ⟨fun k hk => ?_, ?_⟩, by rw [List.length_append]; omega, by rw [List.length_append, List.length_singleton]; omega⟩
          · rcases List.mem_append.mp hk with hk | hk
            · exact hq.1 k hk
            · rw [List.mem_singleton] at hk
              omega
          · refine List.pairwise_append.mpr ⟨hq.2, List.pairwise_singleton _ _, fun a ha b hb => ?_⟩
            rw [List.mem_singleton] at hb
            rw [hb]
            exact en a ha
        · exact ⟨_, _, _, rfl, m12.same s3, q, hl3, hq, q2, by omega⟩
    · rintro σ H1 ⟨u4, u5, u6, rfl, m1, q, hl, hq, q2, qi⟩
      tm_at "w"
      exact k l q _ m1 nl hl hq q2 (by omega)
/-! _law_near -/
def sp__law_near (K : PySem.W.Frag) : Sp := fun vs H Q _ => ∃ (τ : Tp) (a b : Int), vs = [.ref τ.t, .int a, .int b] ∧ Tape τ H ∧ ∀ (z : Int) H', Mv τ H H' → Q (.int z) H'
theorem sc__law_near : FnScope ["_law_tape_here", "_law_one", "_law_other"] ["_law_tape_here", "_law_one", "_law_other"] (defScope s__law_near) := ⟨rfl, rfl, rfl, by decide +kernel, rfl, by decide +kernel, by decide +kernel⟩
theorem ok__law_near (T : Top K mg) : FnOk P w K mg base CX0 3 T.f__law_near T.fd__law_near ["_law_tape_here", "_law_one", "_law_other"] (sp__law_near K) := by
  have G__law_great := ok__law_great (P := P) (w := w) (base := base) T
  have G__law_pick := ok__law_pick (P := P) (w := w) (base := base) T
  refine T.F__law_near.ok sc__law_near (fun vs H Q E h => ?_) (fun cdv A outer s H vs Q E hr h => ?_)
  · obtain ⟨τ, a, b, rfl, _⟩ := h
    rfl
  · obtain ⟨τ, a, b, rfl, m0, k⟩ := h
    refine ⟨_, (pss_one (ps_ret (pe_ix (r := rIxL K) ix_list (pe_lst (pa_cons (pe_op op_sub (pv 1) pe_int) (pa_cons (pv 1) (pa_cons (pe_op op_add (pv 1) pe_int) (pa_cons (pe_op op_sub (pv 2) pe_int) (pa_cons (pv 2) (pa_cons (pe_op op_add (pv 2) pe_int) (pa_cons (pe_call G__law_great hr (by rfl) T.g__law_great T.F__law_great.kp T.b__law_great .nil pass0 (pa_cons (pv 0) pa_nil)) pa_nil)))))))) (pe_call G__law_pick (hr.mono (by decide)) (by rfl) T.g__law_pick T.F__law_pick.kp T.b__law_pick .nil pass0 (pa_cons (pv 0) (pa_cons pe_int pa_nil))) (fun _ _ => rfl)))), ?_⟩
    tm_at "w"
    refine fun g H1 m1 gb => ?_
    tm_at "w"
    intro E nE
    have m2 : Mv τ H (upd H1 E (.lst ([a - 1, a, a + 1, b - 1, b, b + 1, g].map V.int))) := m1.new nE
    have hE : (upd H1 E (.lst ([a - 1, a, a + 1, b - 1, b, b + 1, g].map V.int))) E = some (.lst ([a - 1, a, a + 1, b - 1, b, b + 1, g].map V.int)) := upd_same
    show tCons _ _ _ (upd H1 E (.lst ([a - 1, a, a + 1, b - 1, b, b + 1, g].map V.int))) _
    generalize (upd H1 E (.lst ([a - 1, a, a + 1, b - 1, b, b + 1, g].map V.int))) = H2 at *
    tm_at "w"
    refine ⟨τ, _, rfl, m2.now, by decide, by decide, fun r H3 m3 r0 r1 => ?_⟩
    have hE3 := m3.keep _ _ (m1.neN nE) hE
    tm_at "w"
    refine ⟨_, _, _, _, rfl, rfl, SqL.of hE3, at_map r0 (by simpa using r1), ?_⟩
    tm_at "w"
    exact k _ _ (m2.trans m3)
/-! _law_forced -/
/-- a list of triples -/
def SchL (H : Hp) (a : Addr) (S : List Tr) : Prop := ∃ vs : List V, H a = some (.lst vs) ∧ ScL H vs S
theorem SchL.mv {τ : Tp} {H H' : Hp} {a : Addr} {S : List Tr} (h : SchL H a S) (m : Mv τ H H') (n : a ≠ τ.t) : SchL H' a S := by
  obtain ⟨vs, h1, h2⟩ := h
  exact ⟨vs, m.keep _ _ n h1, h2.tk m.tk⟩
theorem SchL.same {H H' : Hp} {a : Addr} {S : List Tr} (h : SchL H a S) (s : Same H H') : SchL H' a S := by
  obtain ⟨vs, h1, h2⟩ := h
  exact ⟨vs, s _ _ h1, h2.tk (Same.tk s)⟩
theorem SchL.at {H : Hp} {a : Addr} {S : List Tr} (h : SchL H a S) {i : Nat} {e : Tr} (he : S[i]? = some e) : ∃ vs p q, H a = some (.lst vs) ∧ ScL H vs S ∧ vs[i]? = some (.ref p) ∧ H p = some (.tup [.int e.1, .int e.2.1, .ref q]) ∧ H q = some (.tup (e.2.2.map V.int)) := by
  obtain ⟨vs, h1, h2⟩ := h
  obtain ⟨v, h3, p, q, rfl, h4, h5⟩ := h2.item i e he
  exact ⟨vs, p, q, h1, h2, h3, h4, h5⟩
theorem ScL.set {H : Hp} {vs : List V} {S : List Tr} (h : ScL H vs S) {x : Nat} {v : V} {e : Tr} (t : Trip H v e) : ScL H (vs.set x v) (S.set x e) := by
  refine ⟨by rw [List.length_set, List.length_set, h.len], fun i f hf => ?_⟩
  by_cases e0 : x = i
  · subst e0
    rw [List.getElem?_set, if_pos rfl] at hf
    split at hf
    · rename_i xl
      refine ⟨v, by rw [List.getElem?_set, if_pos rfl, if_pos (by rw [h.len]; exact xl)], ?_⟩
      rw [← Option.some.inj hf]
      exact t
    · cases hf
  · rw [List.getElem?_set, if_neg e0] at hf
    obtain ⟨w, h1, h2⟩ := h.item i f hf
    exact ⟨w, by rw [List.getElem?_set, if_neg e0]; exact h1, h2⟩
/-- slots that are none below 0, rows of at most so many entries -/
def SchB (S : List Tr) (c : Nat) : Prop := ∀ e ∈ S, 0 ≤ e.1 ∧ e.2.2.length ≤ c
theorem SchB.set {S : List Tr} {c : Nat} (h : SchB S c) {x : Nat} {e : Tr} (h1 : 0 ≤ e.1) (h2 : e.2.2.length ≤ c) : SchB (S.set x e) c := fun f hf => by
  rcases List.mem_or_eq_of_mem_set hf with hf | rfl
  · exact h f hf
  · exact ⟨h1, h2⟩
theorem SchB.mono {S : List Tr} {c d : Nat} (h : SchB S c) (l : c ≤ d) : SchB S d := fun e he => ⟨(h e he).1, Nat.le_trans (h e he).2 l⟩
theorem SchL.tup {H H' : Hp} {t : Addr} {S : List Tr} {vs : List V} (h : ScL H vs S) (k : TK H H') (e : H' t = some (.tup vs)) : SchAt H' t S := ⟨vs, e, h.len, (h.tk k).item⟩
theorem ScL.drop {H : Hp} {vs : List V} {S : List Tr} (h : ScL H vs S) (k : Nat) : ScL H (vs.drop k) (S.drop k) := by
  refine ⟨by rw [List.length_drop, List.length_drop, h.len], fun i e he => ?_⟩
  rw [List.getElem?_drop] at he
  obtain ⟨v, h1, h2⟩ := h.item _ e he
  exact ⟨v, by rw [List.getElem?_drop]; exact h1, h2⟩
/-- two kinds side by side in one slot -/
def TwoIn (P : List (List Nat)) (S : List Tr) : Prop := ∃ (a b : Nat) (ea eb : Tr), S[a]? = some ea ∧ S[b]? = some eb ∧ ea.1 = eb.1 ∧ isA P a b = false ∧ isA P b a = false
def sp__law_forced (K : PySem.W.Frag) : Sp := fun vs H Q _ => ∃ (τ : Tp) (f t p x : Nat) (P : List (List Nat)), vs = [.ref τ.t, .ref f, .ref t] ∧ Tape τ H ∧ FlagsAt H f P ∧ RtP P ∧ H t = some (.tup [.int (p : Int), .int (x : Int)]) ∧ p < x ∧ x < P.length ∧ isA P x p = false ∧ P.length ≤ 63 ∧
  ∀ r S H', Mv τ H H' → SchAt H' r S → S.length = P.length → SchB S 1000 → TwoIn P S → Q (.ref r) H'
theorem sc__law_forced : FnScope ["_law_tape_here", "_law_above_here", "_law_pair", "_law_scheme", "_law_slot", "_law_one", "_law_other", "_law_found", "_law_x", "_law_item", "_law_row"] ["_law_tape_here", "_law_above_here", "_law_pair"] (defScope s__law_forced) := ⟨rfl, rfl, rfl, by decide +kernel, rfl, by decide +kernel, by decide +kernel⟩
theorem ok__law_forced (T : Top K mg) : FnOk P w K mg base CX0 5 T.f__law_forced T.fd__law_forced ["_law_tape_here", "_law_above_here", "_law_pair"] (sp__law_forced K) := by
  have G__law_great := ok__law_great (P := P) (w := w) (base := base) T
  have G__law_lines := ok__law_lines (P := P) (w := w) (base := base) T
  have G__law_near := ok__law_near (P := P) (w := w) (base := base) T
  have G__law_pick := ok__law_pick (P := P) (w := w) (base := base) T
  have G__law_right := ok__law_right (P := P) (w := w) (base := base) T
  refine T.F__law_forced.ok sc__law_forced (fun vs H Q E h => ?_) (fun cdv A outer s H vs Q E hr h => ?_)
  · obtain ⟨τ, f, t, p, x, P, rfl, _⟩ := h
    rfl
  · obtain ⟨τ, f, t, p, x, P, rfl, m0, hF, hR, ht, hpx, hx, np, h63, k⟩ := h
    refine ⟨_, (pss_cons (ps_set (i := 3) sc__law_forced.nd rfl (Or.inl rfl) (pe_call G__law_right hr (by rfl) T.g__law_right T.F__law_right.kp T.b__law_right .nil pass0 (pa_cons (pv 0) (pa_cons (pv 1) (pa_cons (pe_call G__law_lines (hr.mono (by decide)) (by rfl) T.g__law_lines T.F__law_lines.kp T.b__law_lines .nil pass0 (pa_cons (pv 0) (pa_cons (pv 1) pa_nil))) pa_nil)))))
      (pss_cons (ps_set (i := 4) sc__law_forced.nd rfl (Or.inl rfl) (pe_ix (r := rIxT K) ix_tup (pe_ix (r := rIxL K) ix_list (pv 3) (pe_ix (r := rIxT K) ix_tup (pv 2) pe_int (fun _ _ => rfl)) (fun _ _ => rfl)) pe_int (fun _ _ => rfl)))
      (pss_cons (ps_set (i := 5) sc__law_forced.nd rfl (Or.inl rfl) (pe_ix (r := rIxT K) ix_tup (pe_ix (r := rIxL K) ix_list (pv 3) (pe_ix (r := rIxT K) ix_tup (pv 2) pe_int (fun _ _ => rfl)) (fun _ _ => rfl)) pe_int (fun _ _ => rfl)))
      (pss_cons (ps_set (i := 6) sc__law_forced.nd rfl (Or.inl rfl) (pe_ix (r := rIxL K) ix_list (pe_lst (pa_cons (pv 5) (pa_cons (pe_op op_add (pv 5) pe_int) (pa_cons (pe_op op_sub (pv 5) pe_int) (pa_cons (pe_call G__law_great (hr.mono (by decide)) (by rfl) T.g__law_great T.F__law_great.kp T.b__law_great .nil pass0 (pa_cons (pv 0) pa_nil)) pa_nil))))) (pe_call G__law_pick (hr.mono (by decide)) (by rfl) T.g__law_pick T.F__law_pick.kp T.b__law_pick .nil pass0 (pa_cons (pv 0) (pa_cons pe_int pa_nil))) (fun _ _ => rfl)))
      (pss_cons (ps_set (i := 7) sc__law_forced.nd rfl (Or.inl rfl) (pe_lst pa_nil))
      (pss_cons (ps_for PassesOwn.never rfl (pi_enum (by rfl) T.z_enumerate (pa_cons (pv 3) pa_nil)) (pg_tup rfl (pgs_cons (pg_name (i := 8) sc__law_forced.nd rfl (Or.inl rfl)) (pgs_cons (pg_name (i := 9) sc__law_forced.nd rfl (Or.inl rfl)) pgs_nil)))
      (pss_cons (ps_set (i := 10) sc__law_forced.nd rfl (Or.inl rfl) (pe_callTy (r := rListQ K) (T := "list") call_list_of (by rfl) T.z_list (by decide +kernel) (pa_cons (pe_ix (r := rIxT K) ix_tup (pv 9) pe_int (fun _ _ => rfl)) pa_nil)))
      (pss_cons (ps_set (i := 10) sc__law_forced.nd rfl (Or.inl rfl) (pe_op op_cat (pv 10) (pe_op op_rep (pe_lst (pa_cons pe_int pa_nil)) (pe_callB (id := "max") (call_max2 rfl) (by rfl) T.z_max (by decide +kernel) (pa_cons pe_int (pa_cons (pe_op op_sub (pe_op op_add (pv 4) pe_int) (pe_callB (r := rLenQ K) (id := "len") call_len_seq (by rfl) T.z_len (by decide +kernel) (pa_cons (pv 10) pa_nil))) pa_nil))))))
      (pss_cons (ps_asg (pe_call G__law_near (hr.mono (by decide)) (by rfl) T.g__law_near T.F__law_near.kp T.b__law_near .nil pass0 (pa_cons (pv 0) (pa_cons (pv 5) (pa_cons (pv 6) pa_nil)))) (pg_sub (pv 10) (pv 4) set_list))
      (pss_one (ps_expr (pe_bm PySem.F.plainAttrs_list PySem.F.slot_list_append PySem.F.type_list_append mt_append (pv 7) (pa_cons (pe_tup (pa_cons (pe_ix (r := rIxT K) ix_tup (pv 9) pe_int (fun _ _ => rfl)) (pa_cons (pe_ix (r := rIxT K) ix_tup (pv 9) pe_int (fun _ _ => rfl)) (pa_cons (pe_callTy (r := rTupQ K) (T := "tuple") call_tuple_of (by rfl) T.z_tuple (by decide +kernel) (pa_cons (pv 10) pa_nil)) pa_nil)))) pa_nil))))))))
      (pss_cons (ps_asg (pe_tup (pa_cons (pv 4) (pa_cons (pv 6) (pa_cons (pe_ix (r := rIxT K) ix_tup (pe_ix (r := rIxL K) ix_list (pv 7) (pe_ix (r := rIxT K) ix_tup (pv 2) pe_int (fun _ _ => rfl)) (fun _ _ => rfl)) pe_int (fun _ _ => rfl)) pa_nil)))) (pg_sub (pv 7) (pe_ix (r := rIxT K) ix_tup (pv 2) pe_int (fun _ _ => rfl)) set_list))
      (pss_one (ps_ret (pe_callTy (r := rTupQ K) (T := "tuple") call_tuple_of (by rfl) T.z_tuple (by decide +kernel) (pa_cons (pv 7) pa_nil))))))))))), ?_⟩
    have npx : isA P p x = false := by
      cases e : isA P p x with
      | false => rfl
      | true =>
        have := isA_le hR e
        omega
    tm_at "w"
    refine ⟨τ, f, P, rfl, m0, hF, hR, by omega, fun R D H1 m1 dl de => ?_⟩
    obtain ⟨F, rl⟩ := dl.at
    tm_at "w"
    refine ⟨τ, f, R, P, D, F, rfl, m1.now, hF.mv m1, rl, de, hR, by omega, fun l vs S H2 m2 nl hl hS ok2 hB => ?_⟩
    have m02 := m1.trans m2
    have nl0 := m1.free nl
    have ht2 := m02.atT ht
    have nlt := m02.neF nl0
    have hSl := ok2.1
    have hSL : SchL H2 l S := ⟨vs, hl, hS⟩
    obtain ⟨v1, p1, q1, _, _, hp1, hp2, hp3⟩ := hSL.at (List.getElem?_eq_getElem (show p < S.length by omega))
    tm_at "w"
    refine ⟨m2.now, fun g H3 m3 gb => ?_⟩
    tm_at "w"
    intro M nM
    generalize hone : S[p].2.1 = one at *
    have hM4 : (upd H3 M (.lst ([one, one + 1, one - 1, g].map V.int))) M = some (.lst ([one, one + 1, one - 1, g].map V.int)) := upd_same
    have m4 : Mv τ H3 (upd H3 M (.lst ([one, one + 1, one - 1, g].map V.int))) := m3.now.mv.new nM
    show tCall _ _ _ _ _ (upd H3 M (.lst ([one, one + 1, one - 1, g].map V.int))) _
    generalize (upd H3 M (.lst ([one, one + 1, one - 1, g].map V.int))) = H4 at *
    tm_at "w"
    refine ⟨τ, _, rfl, m4.now, by decide, by decide, fun r H5 m5 r0 r1 => ?_⟩
    have hM5 := m5.keep _ _ (m3.neN nM) hM4
    tm_at "w"
    refine ⟨_, _, _, _, rfl, rfl, SqL.of hM5, at_map r0 (by simpa using r1), ?_⟩
    generalize [one, one + 1, one - 1, g].getD r.toNat 0 = oth at *
    have m25 := (m3.trans m4).trans m5
    have m05 := m02.trans m25
    have hl5 := m25.keep _ _ nlt hl
    have hS5 := hS.tk m25.tk
    tm_at "w"
    intro fd nfd
    have s6 : Same H5 (upd H5 fd (.lst [])) := Same.new (Same.refl H5) nfd
    have hl6 := s6 _ _ hl5
    have m6 : Mv τ H5 (upd H5 fd (.lst [])) := m5.now.mv.same s6
    have nfdt := m5.neN nfd
    have nfd5 := nfd
    have s0 := (ok2.2.1 _ (List.getElem_mem (show p < S.length by omega))).1
    have s300 := (hB _ (List.getElem_mem (show p < S.length by omega))).2
    have ep := List.getElem?_eq_getElem (show p < S.length by omega)
    generalize S[p] = ep0 at *
    obtain ⟨sl, hsl⟩ : ∃ n : Nat, ep0.1 = (n : Int) := ⟨ep0.1.toNat, by omega⟩
    rw [hsl]
    tm_at "w"
    refine ⟨_, _, rfl, SqL.of hl6, for_enumL (K := K) (a := l) (xs := vs) (fun i σ H' => ∃ u8 u9 u10, σ = [some (.ref τ.t), some (.ref f), some (.ref t), some (.ref l), some (.int (sl : Int)), some (.int one), some (.int oth), some (.ref fd), u8, u9, u10] ∧ Mv τ H5 H' ∧ ∃ acc, H' fd = some (.lst acc) ∧ acc.length = i ∧ ∀ (j : Nat) v, acc[j]? = some v → ∃ e, (∃ e0, S[j]? = some e0 ∧ e.1 = e0.1 ∧ e.2.2.length ≤ 700) ∧ Trip H' v e) ?_ ?_ ?_ ?_⟩
    · exact ⟨_, _, _, rfl, m6, [], upd_same, rfl, fun j v e => by simp at e⟩
    · rintro i σ H' ⟨_, _, _, rfl, m, _⟩
      exact SqL.of (m.keep _ _ nlt hl5)
    · rintro i y t7 σ H7 hy ⟨u8, u9, u10, rfl, m7, acc, hfd, hal, hacc⟩ nt7
      have il : i < S.length := by
        have := (List.getElem?_eq_some_iff.mp hy).1
        have := hS.len
        omega
      obtain ⟨v, hv, q7, r7, rfl, hq7, hr7⟩ := hS5.item i _ (List.getElem?_eq_getElem il)
      obtain rfl : y = .ref q7 := Option.some.inj (hy.symm.trans hv)
      have rl7 := (hB _ (List.getElem_mem il)).1
      have eS := List.getElem?_eq_getElem il
      generalize S[i] = e0 at *
      have m8 := m7.new (o := .tup [.int (i : Int), .ref q7]) nt7
      have hq8 := m8.atT hq7
      have hr8 := m8.atT hr7
      have tk8 : TK H7 (upd H7 t7 (.tup [.int (i : Int), .ref q7])) := TK.new nt7
      have hfd8 := (Same.new (o := .tup [.int (i : Int), .ref q7]) (Same.refl H7) nt7) _ _ hfd
      have ht8 : (upd H7 t7 (.tup [.int (i : Int), .ref q7])) t7 = some (.tup [.int (i : Int), .ref q7]) := upd_same
      generalize (upd H7 t7 (.tup [.int (i : Int), .ref q7])) = H8 at *
      tm_at "w"
      intro R nR
      have m9 := m8.new (o := .lst (e0.2.2.map V.int)) nR
      have s9 : Same H8 (upd H8 R (.lst (e0.2.2.map V.int))) := Same.new (Same.refl H8) nR
      have hR9 : (upd H8 R (.lst (e0.2.2.map V.int))) R = some (.lst (e0.2.2.map V.int)) := upd_same
      generalize (upd H8 R (.lst (e0.2.2.map V.int))) = H9 at *
      tm_at "w"
      intro Z nZ
      have s10 : Same H9 (upd H9 Z (.lst [.int 0])) := Same.new (Same.refl H9) nZ
      have hZ10 : (upd H9 Z (.lst [.int 0])) Z = some (.lst [.int 0]) := upd_same
      have m10 := m9.new (o := .lst [.int 0]) nZ
      have hR10 := s10 _ _ hR9
      generalize (upd H9 Z (.lst [.int 0])) = H10 at *
      tm_at "w"
      refine ⟨_, _, rfl, ?_⟩
      have em : (if (sl : Int) + 1 - ((e0.2.2.map V.int).length : Int) > 0 then (sl : Int) + 1 - ((e0.2.2.map V.int).length : Int) else 0) = ((sl + 1 - e0.2.2.length : Nat) : Int) := by
        rw [List.length_map]
        split <;> omega
      rw [em]
      generalize hmm : sl + 1 - e0.2.2.length = mm at *
      refine ⟨_, _, _, rfl, rfl, hZ10, Int.le_trans (show _ ≤ (0 : Int) by decide) (Int.natCast_nonneg _), Int.lt_of_le_of_lt (show _ ≤ (301 : Int) by omega) (by decide), by rw [Int.toNat_natCast]; exact Nat.le_trans (show 1 * mm ≤ 1000 by omega) (by decide), fun p3 np3 => ?_⟩
      have eF : (List.replicate ((mm : Nat) : Int).toNat [V.int 0]).flatten = (List.replicate mm (0 : Int)).map V.int := by
        rw [Int.toNat_natCast, List.flatten_replicate_singleton, List.map_replicate]
      rw [eF]
      have s11 : Same H10 (upd H10 p3 (.lst ((List.replicate mm (0 : Int)).map V.int))) := Same.new (Same.refl H10) np3
      have hp11 : (upd H10 p3 (.lst ((List.replicate mm (0 : Int)).map V.int))) p3 = some (.lst ((List.replicate mm (0 : Int)).map V.int)) := upd_same
      have m11 := m10.new (o := .lst ((List.replicate mm (0 : Int)).map V.int)) np3
      have hR11 := s11 _ _ hR10
      generalize (upd H10 p3 (.lst ((List.replicate mm (0 : Int)).map V.int))) = H11 at *
      refine ⟨_, _, _, _, rfl, rfl, hR11, hp11, by rw [List.length_map, List.length_map, List.length_replicate]; exact Nat.le_trans (show e0.2.2.length + mm ≤ 1000 by omega) (by decide), fun R2 nR2 => ?_⟩
      rw [← List.map_append]
      generalize hns : e0.2.2 ++ List.replicate mm (0 : Int) = ns at *
      have nsl : ns.length = e0.2.2.length + mm := by rw [← hns, List.length_append, List.length_replicate]
      have s12 : Same H11 (upd H11 R2 (.lst (ns.map V.int))) := Same.new (Same.refl H11) nR2
      have hR12 : (upd H11 R2 (.lst (ns.map V.int))) R2 = some (.lst (ns.map V.int)) := upd_same
      have m12 := m11.new (o := .lst (ns.map V.int)) nR2
      have nR5 := m11.free nR2
      have nRt := m11.neN nR2
      have s812 := Same.trans (Same.trans s9 s10) (Same.trans s11 s12)
      have hfd12 := s812 _ _ hfd8
      have hq12 := s812 _ _ hq8
      generalize (upd H11 R2 (.lst (ns.map V.int))) = H12 at *
      have fR : fd ≠ R2 := fun e => by
        have := (Same.trans (Same.trans s9 s10) s11) _ _ hfd8
        rw [e, nR2] at this
        cases this
      tm_at "w"
      refine ⟨τ, one, oth, rfl, m12.now, fun z H13 m13 => ?_⟩
      have hR13 := m13.keep _ _ nRt hR12
      have hfd13 := m13.keep _ _ nfdt hfd12
      have hq13 := m13.atT hq12
      tm_at "w"
      refine ⟨_, _, _, sl, rfl, rfl, hR13, ixn_nat (by rw [List.length_map]; omega), ?_⟩
      have tk14 : TK H13 (upd H13 R2 (.lst ((ns.map V.int).set sl (.int z)))) := TK.mut hR13
      have m14 := (m12.trans m13).mut (o := .lst ((ns.map V.int).set sl (.int z))) nR5
      have hR14 : (upd H13 R2 (.lst ((ns.map V.int).set sl (.int z)))) R2 = some (.lst ((ns.set sl z).map V.int)) := by rw [upd_same, List.map_set]
      have hfd14 : (upd H13 R2 (.lst ((ns.map V.int).set sl (.int z)))) fd = some (.lst acc) := (upd_ne fR).trans hfd13
      have hq14 := tk14 _ _ hq13
      have tk714 : TK H7 (upd H13 R2 (.lst ((ns.map V.int).set sl (.int z)))) := TK.trans tk8 (TK.trans (Same.tk s812) (TK.trans m13.tk tk14))
      have ns2l : (ns.set sl z).length ≤ 700 := by rw [List.length_set]; omega
      generalize (upd H13 R2 (.lst ((ns.map V.int).set sl (.int z)))) = H14 at *
      generalize ns.set sl z = ns2 at *
      tm_at "w"
      intro te nte
      tm_at "w"
      intro p2 np2
      have m15 := (m14.new (o := .tup (ns2.map V.int)) nte).new (o := .tup [.int e0.1, .int e0.2.1, .ref te]) np2
      have s15 : Same H14 (upd (upd H14 te (.tup (ns2.map V.int))) p2 (.tup [.int e0.1, .int e0.2.1, .ref te])) := Same.new (Same.new (Same.refl _) nte) np2
      have hte : (upd (upd H14 te (.tup (ns2.map V.int))) p2 (.tup [.int e0.1, .int e0.2.1, .ref te])) te = some (.tup (ns2.map V.int)) := (Same.new (Same.refl _) np2) _ _ upd_same
      have hp2' : (upd (upd H14 te (.tup (ns2.map V.int))) p2 (.tup [.int e0.1, .int e0.2.1, .ref te])) p2 = some (.tup [.int e0.1, .int e0.2.1, .ref te]) := upd_same
      show tNil _ (upd (upd H14 te (.tup (ns2.map V.int))) p2 (.tup [.int e0.1, .int e0.2.1, .ref te])) _
      generalize (upd (upd H14 te (.tup (ns2.map V.int))) p2 (.tup [.int e0.1, .int e0.2.1, .ref te])) = H15 at *
      have hfd15 := s15 _ _ hfd14
      tm_at "w"
      have tk : TK H15 (upd H15 fd (.lst (acc ++ [.ref p2]))) := TK.mut hfd15
      refine ⟨_, _, _, rfl, m15.mut nfd5, acc ++ [.ref p2], upd_same, len_app hal, snoc_at hal (fun j v e => ?_) ⟨(e0.1, e0.2.1, ns2), ⟨e0, eS, rfl, ns2l⟩, ⟨p2, te, rfl, tk _ _ hp2', tk _ _ hte⟩⟩⟩
      obtain ⟨e', h1, h2⟩ := hacc j v e
      exact ⟨e', h1, h2.tk (TK.trans (TK.trans tk714 (Same.tk s15)) tk)⟩
    · rintro σ H7 ⟨u8, u9, u10, rfl, m7, acc, hfd, hal, hacc⟩
      obtain ⟨S2, hS2, hr2⟩ := sch_pick hacc
      have hS2l := hS2.len
      have vl := hS5.len
      have ex2 := List.getElem?_eq_getElem (show x < S2.length by omega)
      obtain ⟨v2, hv2, q2, r2, rfl, hq2, hr2'⟩ := hS2.item x _ ex2
      obtain ⟨e0x, hx0, hx1, hx2⟩ := hr2 x _ ex2
      generalize S2[x] = ex at *
      have ht7 := (m05.trans m7).atT ht
      tm_at "w"
      intro T2 nT2
      have m8 := m7.new (o := .tup [.int (sl : Int), .int oth, .ref r2]) nT2
      have s8 : Same H7 (upd H7 T2 (.tup [.int (sl : Int), .int oth, .ref r2])) := Same.new (Same.refl H7) nT2
      have hT2 : (upd H7 T2 (.tup [.int (sl : Int), .int oth, .ref r2])) T2 = some (.tup [.int (sl : Int), .int oth, .ref r2]) := upd_same
      generalize (upd H7 T2 (.tup [.int (sl : Int), .int oth, .ref r2])) = H8 at *
      have hfd8 := s8 _ _ hfd
      have hS8 := hS2.tk (Same.tk s8)
      have ht8 := s8 _ _ ht7
      have hr8 := s8 _ _ hr2'
      tm_at "w"
      refine ⟨_, _, _, x, rfl, rfl, hfd8, ixn_nat (by omega), ?_⟩
      have tk9 : TK H8 (upd H8 fd (.lst (acc.set x (.ref T2)))) := TK.mut hfd8
      have tr : Trip H8 (.ref T2) ((sl : Int), oth, ex.2.2) := ⟨T2, r2, rfl, hT2, hr8⟩
      have hS9 := (hS8.set (x := x) tr).tk tk9
      have m9 := m8.mut (o := .lst (acc.set x (.ref T2))) nfd5
      have hfd9 : (upd H8 fd (.lst (acc.set x (.ref T2)))) fd = some (.lst (acc.set x (.ref T2))) := upd_same
      generalize (upd H8 fd (.lst (acc.set x (.ref T2)))) = H9 at *
      tm_at "w"
      intro r nr
      have s10 : Same H9 (upd H9 r (.tup (acc.set x (.ref T2)))) := Same.new (Same.refl H9) nr
      have ep2 := List.getElem?_eq_getElem (show p < S2.length by omega)
      obtain ⟨e0p, hp0, hpe, _⟩ := hr2 p _ ep2
      refine k r _ _ ((m05.trans m9).same s10) (SchL.tup hS9 (Same.tk s10) upd_same) (by rw [List.length_set]; omega) (fun e he => ?_) ⟨p, x, _, _, by rw [List.getElem?_set_ne (by omega)]; exact ep2, List.getElem?_set_self (by omega), ?_, npx, np⟩
      · rcases List.mem_or_eq_of_mem_set he with he | rfl
        · obtain ⟨j, hj⟩ := List.mem_iff_getElem?.mp he
          obtain ⟨e0, h1, h2, h3⟩ := hr2 j e hj
          exact ⟨by rw [h2]; exact (ok2.2.1 _ (List.mem_of_getElem? h1)).1, by omega⟩
        · exact ⟨Int.natCast_nonneg _, show ex.2.2.length ≤ 1000 by omega⟩
      · rw [hpe]
        have : e0p = ep0 := Option.some.inj (hp0.symm.trans ep)
        rw [this]
        exact hsl
/-! _law_few -/
theorem pigeon : ∀ (n : Nat) (l : List Nat), (∀ x ∈ l, x < n) → n < l.length → ¬ l.Nodup
  | 0, l, h, hl, _ => by
    obtain ⟨x, hx⟩ := List.exists_mem_of_length_pos hl
    exact absurd (h x hx) (Nat.not_lt_zero x)
  | n + 1, l, h, hl, nd => by
    by_cases hn : n ∈ l
    · refine pigeon n (l.erase n) (fun x hx => ?_) (by rw [List.length_erase_of_mem hn]; omega) (nd.erase n)
      have h1 := (nd.mem_erase_iff.mp hx)
      have := h x h1.2
      have := h1.1
      omega
    · refine pigeon n l (fun x hx => ?_) (by omega) nd
      have := h x hx
      have : x ≠ n := fun e => hn (e ▸ hx)
      omega
/-- more items than values: two of one value -/
theorem two_of {q : List Nat} {f : Nat → Nat} {n : Nat} (h : ∀ k ∈ q, f k < n) (hl : n < q.length) : ∃ (i j a b : Nat), i < j ∧ q[i]? = some a ∧ q[j]? = some b ∧ f a = f b := by
  refine Classical.byContradiction fun no => pigeon n (q.map f) (fun x hx => ?_) (by rw [List.length_map]; exact hl) ?_
  · obtain ⟨k, hk, rfl⟩ := List.mem_map.mp hx
    exact h k hk
  · unfold List.Nodup
    rw [List.pairwise_map]
    refine List.pairwise_iff_getElem.mpr fun i j hi hj hij e => no ⟨i, j, q[i], q[j], hij, List.getElem?_eq_getElem hi, List.getElem?_eq_getElem hj, e⟩
def FewR (n : Nat) (_j : Nat) (e : Tr) : Prop := 0 ≤ e.1 ∧ e.1 < (n : Int) - 1 ∧ e.2.2.length ≤ 300
theorem few_two {P : List (List Nat)} {S : List Tr} {q : List Nat} (hS : S.length = P.length) (hq : SideL P q) (q2 : 2 ≤ q.length) (h : ∀ (j : Nat) e, S[j]? = some e → FewR q.length j e) : TwoIn P S := by
  have hf : ∀ k ∈ q, ((S.getD k (0, 0, [])).1).toNat < q.length - 1 := fun k hk => by
    have kl := hq.1 k hk
    have e := List.getElem?_eq_getElem (show k < S.length by omega)
    rw [List.getD_eq_getElem?_getD, e]
    have := h k _ e
    have h1 := this.1
    have h2 := this.2.1
    show (S[k].1).toNat < _
    omega
  obtain ⟨i, j, a, b, hij, hi, hj, e⟩ := two_of hf (by omega)
  have al := hq.1 a (List.mem_of_getElem? hi)
  have bl := hq.1 b (List.mem_of_getElem? hj)
  have ea := List.getElem?_eq_getElem (show a < S.length by omega)
  have eb := List.getElem?_eq_getElem (show b < S.length by omega)
  obtain ⟨il, e1⟩ := List.getElem?_eq_some_iff.mp hi
  obtain ⟨jl, e2⟩ := List.getElem?_eq_some_iff.mp hj
  have side := List.pairwise_iff_getElem.mp hq.2 i j il jl hij
  rw [e1, e2] at side
  refine ⟨a, b, _, _, ea, eb, ?_, side.1, side.2⟩
  rw [List.getD_eq_getElem?_getD, List.getD_eq_getElem?_getD, ea, eb] at e
  have h1 := (h a _ ea).1
  have h2 := (h b _ eb).1
  have e : (S[a].1).toNat = (S[b].1).toNat := e
  omega
def sp__law_few (K : PySem.W.Frag) : Sp := fun vs H Q _ => ∃ (τ : Tp) (f l : Addr) (P : List (List Nat)) (q : List Nat), vs = [.ref τ.t, .ref f, .ref l] ∧ Tape τ H ∧ FlagsAt H f P ∧ H l = some (.lst (natsV q)) ∧ SideL P q ∧ 2 ≤ q.length ∧ q.length ≤ 200 ∧ P.length ≤ 63 ∧
  ∀ r S H', Mv τ H H' → SchAt H' r S → S.length = P.length → SchB S 1000 → TwoIn P S → Q (.ref r) H'
theorem sc__law_few : FnScope ["_law_tape_here", "_law_above_here", "_law_lot_here", "_law_menu", "_law_found", "_law_x", "_law_row", "_law_again"] ["_law_tape_here", "_law_above_here", "_law_lot_here"] (defScope s__law_few) := ⟨rfl, rfl, rfl, by decide +kernel, rfl, by decide +kernel, by decide +kernel⟩
theorem ok__law_few (T : Top K mg) : FnOk P w K mg base CX0 3 T.f__law_few T.fd__law_few ["_law_tape_here", "_law_above_here", "_law_lot_here"] (sp__law_few K) := by
  have G__law_great := ok__law_great (P := P) (w := w) (base := base) T
  have G__law_pick := ok__law_pick (P := P) (w := w) (base := base) T
  refine T.F__law_few.ok sc__law_few (fun vs H Q E h => ?_) (fun cdv A outer s H vs Q E hr h => ?_)
  · obtain ⟨τ, f, l, P, q, rfl, _⟩ := h
    rfl
  · obtain ⟨τ, f, l, P, q, rfl, m0, hF, hl, hq, q2, q200, h63, k⟩ := h
    refine ⟨_, (pss_cons (ps_set (i := 3) sc__law_few.nd rfl (Or.inr rfl) (pe_lc (own := [("_law_again", 7)]) (g := gName 7) (tt := tYes) rfl sc__law_few.nd (pi_range1 rfl T.z_range (pa_cons pe_int pa_nil)) (blkOk_by (own := [("_law_again", 7)]) (N := ["_law_tape_here", "_law_above_here", "_law_lot_here", "_law_menu", "_law_found", "_law_x", "_law_row", "_law_again"]) (sc := defScope s__law_few) (by decide +kernel)) (fun _ _ _ _ _ => (pg_name (i := 7) sc__law_few.nd rfl (Or.inl rfl))) (fun _ _ _ _ _ => pts_nil) (fun _ _ _ _ _ => (pe_call G__law_great hr (by rfl) T.g__law_great T.F__law_great.kp T.b__law_great .nil pass0 (pa_cons (pv 0) pa_nil)))))
      (pss_cons (ps_set (i := 4) sc__law_few.nd rfl (Or.inl rfl) (pe_lst pa_nil))
      (pss_cons (ps_for PassesOwn.never rfl (pi_range1 rfl T.z_range (pa_cons (pe_callB (r := rLenQ K) (id := "len") call_len_seq (by rfl) T.z_len (by decide +kernel) (pa_cons (pv 1) pa_nil)) pa_nil)) (pg_name (i := 5) sc__law_few.nd rfl (Or.inl rfl))
      (pss_cons (ps_setLc (i := 6) (own := [("_law_again", 7)]) (g := gName 7) (tt := tYes) rfl sc__law_few.nd rfl rfl (sw_true rfl rfl rfl (by decide +kernel)) (pi_range1 rfl T.z_range (pa_cons (pe_call G__law_pick (hr.mono (by decide)) (by rfl) T.g__law_pick T.F__law_pick.kp T.b__law_pick .nil pass0 (pa_cons (pv 0) (pa_cons (pe_op op_add (pe_callB (r := rLenQ K) (id := "len") call_len_seq (by rfl) T.z_len (by decide +kernel) (pa_cons (pv 2) pa_nil)) pe_int) pa_nil))) pa_nil)) (blkOk_by (own := [("_law_again", 7)]) (N := ["_law_tape_here", "_law_above_here", "_law_lot_here", "_law_menu", "_law_found", "_law_x", "_law_row", "_law_again"]) (sc := defScope s__law_few) (by decide +kernel)) (fun _ _ _ _ _ => (pg_name (i := 7) sc__law_few.nd rfl (Or.inl rfl))) (fun _ _ _ _ _ => pts_nil) (fun _ _ _ _ _ => (pe_op op_sub (pe_op op_add (pe_ix (r := rIxL K) ix_list (pv 3) (pe_call G__law_pick (hr.mono (by decide)) (by rfl) T.g__law_pick T.F__law_pick.kp T.b__law_pick .nil pass0 (pa_cons (pv 0) (pa_cons pe_int pa_nil))) (fun _ _ => rfl)) (pe_call G__law_pick (hr.mono (by decide)) (by rfl) T.g__law_pick T.F__law_pick.kp T.b__law_pick .nil pass0 (pa_cons (pv 0) (pa_cons pe_int pa_nil)))) pe_int)))
      (pss_one (ps_expr (pe_bm PySem.F.plainAttrs_list PySem.F.slot_list_append PySem.F.type_list_append mt_append (pv 4) (pa_cons (pe_tup (pa_cons (pe_call G__law_pick (hr.mono (by decide)) (by rfl) T.g__law_pick T.F__law_pick.kp T.b__law_pick .nil pass0 (pa_cons (pv 0) (pa_cons (pe_op op_sub (pe_callB (r := rLenQ K) (id := "len") call_len_seq (by rfl) T.z_len (by decide +kernel) (pa_cons (pv 2) pa_nil)) pe_int) pa_nil))) (pa_cons (pe_ix (r := rIxL K) ix_list (pv 3) (pe_call G__law_pick (hr.mono (by decide)) (by rfl) T.g__law_pick T.F__law_pick.kp T.b__law_pick .nil pass0 (pa_cons (pv 0) (pa_cons pe_int pa_nil))) (fun _ _ => rfl)) (pa_cons (pe_callTy (r := rTupQ K) (T := "tuple") call_tuple_of (by rfl) T.z_tuple (by decide +kernel) (pa_cons (pv 6) pa_nil)) pa_nil)))) pa_nil))))))
      (pss_one (ps_ret (pe_callTy (r := rTupQ K) (T := "tuple") call_tuple_of (by rfl) T.z_tuple (by decide +kernel) (pa_cons (pv 4) pa_nil))))))), ?_⟩
    obtain ⟨fs, f1, fl, fr⟩ := id hF
    have nlt : l ≠ τ.t := m0.neL hl fun i c s n e => by
      obtain ⟨w, _, h, _⟩ := natsV_here (q := q) (i := 0) (x := .ref τ.l) (by rw [e]; rfl)
      cases h
    have nft : f ≠ τ.t := m0.neL f1 fun i c s n e => by
      obtain ⟨a, e1, _⟩ := fr 1 (.int i) (by rw [e]; rfl)
      cases e1
    tm_at "w"
    intro M nM
    have nMt := m0.mv.neN nM
    refine lc_rangeM (τ := τ) (fun _ v _ => IsI v) (fun _ _ _ _ h _ => h) m0 nM (by decide) ?_ ?_
    · intro j H1 N M hj m1 kN
      tm_at "w"
      refine ⟨m1.now, fun g H2 m2 gb => ?_⟩
      exact kN _ _ m2 ⟨_, rfl⟩
    · intro H1 acc m1 hM hlen hI
      obtain ⟨ms, rfl⟩ := ints_at hI
      have ml : ms.length = 3 := by
        rw [List.length_map] at hlen
        exact hlen
      tm_at "w"
      intro fd nfd
      have nfdt := m1.neN nfd
      have nfd0 := m1.free nfd
      have m2 := m1.new (o := .lst []) nfd
      have s2 : Same H1 (upd H1 fd (.lst [])) := Same.new (Same.refl H1) nfd
      have hM2 := s2 _ _ hM
      have f12 := m2.keep _ _ nft f1
      have m12 : Mv τ H1 (upd H1 fd (.lst [])) := m1.now.mv.new nfd
      tm_at "w"
      refine for_range (lo := 0) (n := (fs.length : Int).toNat) (fun i σ H' => ∃ u5 u6 u7, σ = [some (.ref τ.t), some (.ref f), some (.ref l), some (.ref M), some (.ref fd), u5, u6, u7] ∧ Mv τ H1 H' ∧ ∃ acc, H' fd = some (.lst acc) ∧ acc.length = i ∧ ∀ (j : Nat) v, acc[j]? = some v → ∃ e, FewR q.length j e ∧ Trip H' v e) ⟨_, _, _, rfl, m12, [], upd_same, rfl, fun j v e => by simp at e⟩ ?_ ?_
      · rintro i σ H3 hi ⟨u5, u6, u7, rfl, m3, acc, hfd, hal, hacc⟩
        rw [Int.zero_add]
        have hl3 := (m1.trans m3).keep _ _ nlt hl
        tm_at "w"
        refine ⟨τ, ((natsV q).length : Int) + 1, rfl, m3.now, by rw [natsV_len]; omega, Int.lt_of_le_of_lt (show _ ≤ (201 : Int) by rw [natsV_len]; omega) (by decide), fun r H4 m4 r0 r1 => ?_⟩
        rw [natsV_len] at r1
        obtain ⟨r, rfl⟩ : ∃ n : Nat, r = (n : Int) := ⟨r.toNat, by omega⟩
        have m14 := m3.trans m4
        tm_at "w"
        intro E nE
        have nEt := m4.neN nE
        refine lc_rangeM (τ := τ) (fun _ v _ => IsI v) (fun _ _ _ _ h _ => h) m4.now nE (by omega) ?_ ?_
        · intro j H5 N M' hj m5 kN
          tm_at "w"
          refine ⟨τ, _, rfl, m5.now, by decide, by decide, fun d H6 m6 d0 d1 => ?_⟩
          have hM6 := ((m14.trans m5).trans m6).keep _ _ nMt hM
          tm_at "w"
          refine ⟨_, _, _, _, rfl, rfl, SqL.of hM6, at_map d0 (by omega), ?_⟩
          tm_at "w"
          refine ⟨τ, _, rfl, m6.now, by decide, by decide, fun d2 H7 m7 d3 d4 => ?_⟩
          tm_at "w"
          exact kN _ _ (m6.trans m7) ⟨_, rfl⟩
        · intro H5 acc5 m5 hE hlen5 hI5
          obtain ⟨rs, rfl⟩ := ints_at hI5
          rw [List.length_map] at hlen5
          have m15 := m14.trans m5
          have m35 := m4.trans m5
          have hl5 := (m1.trans m15).keep _ _ nlt hl
          have hfd5 := m35.keep _ _ nfdt hfd
          tm_at "w"
          refine ⟨τ, ((natsV q).length : Int) - 1, rfl, m5.now, by rw [natsV_len]; omega, Int.lt_of_le_of_lt (show _ ≤ (200 : Int) by rw [natsV_len]; omega) (by decide), fun sl H6 m6 t0 t1 => ?_⟩
          rw [natsV_len] at t1
          tm_at "w"
          refine ⟨τ, _, rfl, m6.now, by decide, by decide, fun d H7 m7 d0 d1 => ?_⟩
          have m57 := m6.trans m7
          have m17 := m15.trans m57
          have hM7 := m17.keep _ _ nMt hM
          have hE7 := m57.keep _ _ nEt hE
          have hfd7 := m57.keep _ _ nfdt hfd5
          have tk7 : TK H3 H7 := (m35.trans m57).tk
          tm_at "w"
          refine ⟨_, _, _, _, rfl, rfl, SqL.of hM7, at_map d0 (by omega), ?_⟩
          generalize ms.getD d.toNat 0 = nu at *
          tm_at "w"
          intro te nte
          tm_at "w"
          intro p2 np2
          have m18 := (m17.new (o := .tup (rs.map V.int)) nte).new (o := .tup [.int sl, .int nu, .ref te]) np2
          have s15 : Same H7 (upd (upd H7 te (.tup (rs.map V.int))) p2 (.tup [.int sl, .int nu, .ref te])) := Same.new (Same.new (Same.refl _) nte) np2
          have hte : (upd (upd H7 te (.tup (rs.map V.int))) p2 (.tup [.int sl, .int nu, .ref te])) te = some (.tup (rs.map V.int)) := (Same.new (Same.refl _) np2) _ _ upd_same
          have hp2' : (upd (upd H7 te (.tup (rs.map V.int))) p2 (.tup [.int sl, .int nu, .ref te])) p2 = some (.tup [.int sl, .int nu, .ref te]) := upd_same
          show tNil _ (upd (upd H7 te (.tup (rs.map V.int))) p2 (.tup [.int sl, .int nu, .ref te])) _
          generalize (upd (upd H7 te (.tup (rs.map V.int))) p2 (.tup [.int sl, .int nu, .ref te])) = H8 at *
          have hfd8 := s15 _ _ hfd7
          tm_at "w"
          have tk : TK H8 (upd H8 fd (.lst (acc ++ [.ref p2]))) := TK.mut hfd8
          refine ⟨_, _, _, rfl, m18.mut nfd, acc ++ [.ref p2], upd_same, len_app hal, snoc_at hal (fun j v e => ?_) ⟨(sl, nu, rs), ⟨t0, t1, show rs.length ≤ 300 by omega⟩, ⟨p2, te, rfl, tk _ _ hp2', tk _ _ hte⟩⟩⟩
          obtain ⟨e', h1, h2⟩ := hacc j v e
          exact ⟨e', h1, h2.tk (TK.trans (TK.trans tk7 (Same.tk s15)) tk)⟩
      · rintro σ H3 ⟨u5, u6, u7, rfl, m3, acc, hfd, hal, hacc⟩
        obtain ⟨S, hS, hb⟩ := sch_pick hacc
        have hSl := hS.len
        tm_at "w"
        intro r nr
        have s4 : Same H3 (upd H3 r (.tup acc)) := Same.new (Same.refl H3) nr
        refine k r S _ ((m1.trans m3).same s4) (SchL.tup hS (Same.tk s4) upd_same) (by omega) (fun e he => ?_) (few_two (by omega) hq q2 hb)
        obtain ⟨j, hj⟩ := List.mem_iff_getElem?.mp he
        have := hb j e hj
        exact ⟨this.1, by have := this.2.2; omega⟩
/-! _law_is_wrong -/
theorem first_pair (P : List (List Nat)) (S : List Tr) : rightTo P S P.length 0 ∨ ∃ x p, x < P.length ∧ p < P.length ∧ rightTo P S x p ∧ saysI S x p ≠ isA P x p := by
  have inner : ∀ x, x < P.length → rightTo P S x 0 → ∀ p, p ≤ P.length → rightTo P S x p ∨ ∃ x p, x < P.length ∧ p < P.length ∧ rightTo P S x p ∧ saysI S x p ≠ isA P x p := by
    intro x hx h0 p
    induction p with
    | zero => exact fun _ => .inl h0
    | succ p ih =>
      intro hp
      rcases ih (by omega) with h | h
      · by_cases e : saysI S x p = isA P x p
        · refine .inl fun x' p' h1 h2 => ?_
          rcases h2 with h2 | ⟨h2, h3⟩
          · exact h x' p' h1 (.inl h2)
          · by_cases e2 : p' = p
            · rw [h2, e2]
              exact e
            · exact h x' p' h1 (.inr ⟨h2, by omega⟩)
        · exact .inr ⟨x, p, hx, by omega, h, e⟩
      · exact .inr h
  have outer : ∀ x, x ≤ P.length → rightTo P S x 0 ∨ ∃ x p, x < P.length ∧ p < P.length ∧ rightTo P S x p ∧ saysI S x p ≠ isA P x p := by
    intro x
    induction x with
    | zero => exact fun _ => .inl fun x' p' _ h => by omega
    | succ x ih =>
      intro hx
      rcases ih (by omega) with h | h
      · rcases inner x (by omega) h P.length (Nat.le_refl _) with h | h
        · refine .inl fun x' p' h1 h2 => ?_
          rcases h2 with h2 | ⟨h2, h3⟩
          · by_cases e2 : x' = x
            · exact h x' p' h1 (.inr ⟨e2, h1⟩)
            · exact h x' p' h1 (.inl (by omega))
          · omega
        · exact .inr h
      · exact .inr h
  exact outer P.length (Nat.le_refl _)
theorem pair_one {P : List (List Nat)} {S : List Tr} {x p x' p' : Nat} (hp : p < P.length) (hp' : p' < P.length) (h : rightTo P S x p) (h' : rightTo P S x' p') (n : saysI S x p ≠ isA P x p) (n' : saysI S x' p' ≠ isA P x' p') : x' = x ∧ p' = p := by
  have a : ¬ (x' < x ∨ (x' = x ∧ p' < p)) := fun z => n' (h x' p' hp' z)
  have b : ¬ (x < x' ∨ (x = x' ∧ p < p')) := fun z => n (h' x p hp z)
  omega
theorem two_wrong {P : List (List Nat)} {S : List Tr} (hR : RtP P) (hl : S.length = P.length) (h : TwoIn P S) : ∃ x p, x < P.length ∧ p < P.length ∧ saysI S x p ≠ isA P x p := by
  obtain ⟨a, b, ea, eb, h1, h2, h3, n1, n2⟩ := h
  have al := (List.getElem?_eq_some_iff.mp h1).1
  have bl := (List.getElem?_eq_some_iff.mp h2).1
  refine Classical.byContradiction fun no => ?_
  have y : ∀ x p, x < P.length → p < P.length → saysI S x p = isA P x p := fun x p hx hp => Classical.byContradiction fun e => no ⟨x, p, hx, hp, e⟩
  have aa := y a a (by omega) (by omega)
  have bb := y b b (by omega) (by omega)
  have ab := y a b (by omega) (by omega)
  have ba := y b a (by omega) (by omega)
  rw [saysI_at h1 h1, isA_refl hR (by omega)] at aa
  rw [saysI_at h2 h2, isA_refl hR (by omega)] at bb
  rw [saysI_at h1 h2, n1] at ab
  rw [saysI_at h2 h1, n2] at ba
  unfold saysB at aa bb ab ba
  rw [h3] at aa ba
  simp only [Bool.and_eq_true, decide_eq_true_eq, Bool.and_eq_false_iff, decide_eq_false_iff_not] at aa bb ab ba
  omega
def sp__law_is_wrong (C : Addr) (K : PySem.W.Frag) : Sp := fun vs H Q _ => ∃ (b : Bk) (f r : Addr) (P : List (List Nat)) (S : List Tr), vs = [.ref b.b, .ref f, .ref r] ∧ BookAt C H b P ∧ FlagsAt H f P ∧ SchAt H r S ∧ S.length = P.length ∧ SchB S 1000 ∧ TwoIn P S ∧ RtP P ∧ P.length ≤ 63 ∧ ∀ H', Same H H' → Q (.bl true) H'
theorem sc__law_is_wrong : FnScope ["_law_book", "_law_above_here", "_law_scheme", "_law_due", "_law_told"] ["_law_book", "_law_above_here", "_law_scheme"] (defScope s__law_is_wrong) := ⟨rfl, rfl, rfl, by decide +kernel, rfl, by decide +kernel, by decide +kernel⟩
theorem ok__law_is_wrong (T : Top K mg) : FnOk P w K mg base CX0 6 T.f__law_is_wrong T.fd__law_is_wrong ["_law_book", "_law_above_here", "_law_scheme"] (sp__law_is_wrong T.C_Book K) := by
  have G__law_first := ok__law_first (P := P) (w := w) (base := base) T
  have G__law_same_pair := ok__law_same_pair (P := P) (w := w) (base := base) T
  have G_first_wrong := ok_first_wrong (P := P) (w := w) (base := base) T
  have G_is_scheme := ok_is_scheme (P := P) (w := w) (base := base) T
  refine T.F__law_is_wrong.ok sc__law_is_wrong (fun vs H Q E h => ?_) (fun cdv A outer s H vs Q E hr h => ?_)
  · obtain ⟨b, f, r, P, S, rfl, _⟩ := h
    rfl
  · obtain ⟨b, f, r, P, S, rfl, hb, hF, hS, hl, hB, h2, hR, h63, k⟩ := h
    refine ⟨_, (pss_cons (ps_set (i := 3) sc__law_is_wrong.nd rfl (Or.inl rfl) (pe_call G__law_first (hr.mono (by decide)) (by rfl) T.g__law_first T.F__law_first.kp T.b__law_first .nil pass0 (pa_cons (pv 2) (pa_cons (pv 1) pa_nil))))
      (pss_cons (ps_set (i := 4) sc__law_is_wrong.nd rfl (Or.inl rfl) (pe_call G_first_wrong hr (by rfl) T.g_first_wrong T.F_first_wrong.kp T.b_first_wrong .nil pass0 (pa_cons (pv 0) (pa_cons (pv 2) pa_nil))))
      (pss_one (ps_ret (pe_and (pe_cmpR op_notN (pv 4) pe_non (nomark _)) (pe_and (pe_call G__law_same_pair (hr.mono (by decide)) (by rfl) T.g__law_same_pair T.F__law_same_pair.kp T.b__law_same_pair .nil pass0 (pa_cons (pv 4) (pa_cons (pv 3) pa_nil))) (pe_one (pe_cmpR op_isBl (pe_call G_is_scheme (hr.mono (by decide)) (by rfl) T.g_is_scheme T.F_is_scheme.kp T.b_is_scheme .nil pass0 (pa_cons (pv 0) (pa_cons (pv 2) pa_nil))) pe_bl (nomark _))))))))), ?_⟩
    have hw := two_wrong hR hl h2
    rcases first_pair P S with h | ⟨x, p, xl, pl, hr, ne⟩
    · obtain ⟨x, p, xl, pl, ne⟩ := hw
      exact absurd (h x p pl (.inl xl)) ne
    tm_at "w"
    refine ⟨r, f, P, S, rfl, hS, hF, hl, fun e he => (hB e he).1, by omega, fun h => absurd (h x p pl (.inl xl)) ne, fun x' p' xl' pl' hr' ne' t1 H1 s1 ht1 => ?_⟩
    obtain ⟨rfl, rfl⟩ := pair_one pl pl' hr hr' ne ne'
    tm_at "w"
    refine ⟨b, P, r, S, rfl, hb.same s1, hS.tk (Same.tk s1), hl, hB, by omega, fun h => absurd (h _ _ pl (.inl xl)) ne, fun x2 p2 xl2 pl2 hr2 ne2 t2 H2 s2 ht2 => ?_⟩
    obtain ⟨rfl, rfl⟩ := pair_one pl pl2 hr hr2 ne ne2
    tm_at "w"
    refine ⟨_, _, rfl, .inr ⟨t2, t1, _, _, rfl, rfl, ht2, s2 _ _ ht1⟩, fun H3 s3 => ?_⟩
    have s13 := Same.trans s1 (Same.trans s2 s3)
    tm_at "w"
    refine ⟨b, P, r, S, rfl, hb.same s13, hS.tk (Same.tk s13), hB, by omega, by omega, fun h => absurd (h.2 _ _ pl (.inl xl)) ne, fun _ H4 s4 => ?_⟩
    tm_at "w"
    exact k _ (Same.trans s13 s4)
/-! law -/
theorem due_slots {P D : List (List Nat)} {m : Nat} {S : List Tr} (de : Deal P m D) (hl : S.length = m) (hd : ∀ (x : Nat) e, S[x]? = some e → DueR P D x e) {ks : List Int} (nd : ks.Nodup) (hm : ∀ k, k ∈ ks ↔ k ∈ S.map (·.1)) : ks.length = D.length := by
  have nr : ((List.range D.length).map fun z : Nat => (z : Int)).Nodup := by
    unfold List.Nodup
    rw [List.pairwise_map]
    exact List.nodup_range.imp fun h e => h (by omega)
  have p : ks.Perm ((List.range D.length).map fun z : Nat => (z : Int)) := by
    rw [List.perm_ext_iff_of_nodup nd nr]
    intro k
    rw [hm, List.mem_map, List.mem_map]
    constructor
    · rintro ⟨e, he, rfl⟩
      obtain ⟨x, hx⟩ := List.mem_iff_getElem?.mp he
      obtain ⟨s, b, q, h1, h2, rfl⟩ := hd x e hx
      exact ⟨s, List.mem_range.mpr (List.getElem?_eq_some_iff.mp h1).1, rfl⟩
    · rintro ⟨s, hs, rfl⟩
      have sl := List.mem_range.mp hs
      have qs := List.getElem?_eq_getElem sl
      have q0 := de.full _ (List.getElem_mem sl)
      obtain ⟨k0, b0⟩ : ∃ k0, (D[s])[0]? = some k0 := ⟨_, List.getElem?_eq_getElem (List.length_pos_iff.mpr q0)⟩
      have kl := de.lt (List.getElem_mem sl) (List.mem_of_getElem? b0)
      have eS := List.getElem?_eq_getElem (show k0 < S.length by omega)
      refine ⟨_, List.getElem_mem (show k0 < S.length by omega), ?_⟩
      obtain ⟨s', b', q', h1, h2, h3⟩ := hd _ _ eS
      rw [h3]
      show (s' : Int) = (s : Int)
      rw [(de.one h1 h2 qs b0).1]
  have := p.length_eq
  rw [List.length_map, List.length_range] at this
  exact this
theorem right_all {P : List (List Nat)} {S : List Tr} (h : SchOk P S) : rightTo P S P.length 0 := fun x p hp hx => by
  have xl : x < P.length := by omega
  have e1 := List.getElem?_eq_getElem (show x < S.length by rw [h.1]; exact xl)
  have e2 := List.getElem?_eq_getElem (show p < S.length by rw [h.1]; exact hp)
  rw [saysI_at e1 e2]
  exact h.2.2 x p _ _ e1 e2
def sp_law (K : PySem.W.Frag) : Sp := fun vs H Q _ => ∃ (a : Addr) (ns : List Int), vs = [.ref a] ∧ SqL K H a (ns.map V.int) ∧ ns.length ≤ 63 ∧ ∀ H', Q (.bl true) H'
theorem sc_law : FnScope ["_law_script", "_law_tape_here", "_law_rows_here", "_law_above_here", "_law_book", "_law_pairs_here", "_law_pair", "_law_scheme"] ["_law_script"] (defScope s_law) := ⟨rfl, rfl, rfl, by decide +kernel, rfl, by decide +kernel, by decide +kernel⟩
theorem ok_law (T : Top K mg) : FnOk P w K mg base CX0 7 T.f_law T.fd_law ["_law_script"] (sp_law K) := by
  have G_Book___init__ := ok_Book___init__ (P := P) (w := w) (base := base) T
  have G__law_above := ok__law_above (P := P) (w := w) (base := base) T
  have G__law_few := ok__law_few (P := P) (w := w) (base := base) T
  have G__law_forced := ok__law_forced (P := P) (w := w) (base := base) T
  have G__law_is_wrong := ok__law_is_wrong (P := P) (w := w) (base := base) T
  have G__law_lot := ok__law_lot (P := P) (w := w) (base := base) T
  have G__law_pairs := ok__law_pairs (P := P) (w := w) (base := base) T
  have G__law_pick := ok__law_pick (P := P) (w := w) (base := base) T
  have G__law_rows := ok__law_rows (P := P) (w := w) (base := base) T
  have G__law_tape := ok__law_tape (P := P) (w := w) (base := base) T
  have G_is_scheme := ok_is_scheme (P := P) (w := w) (base := base) T
  have G_many_slots := ok_many_slots (P := P) (w := w) (base := base) T
  have G_scheme_of := ok_scheme_of (P := P) (w := w) (base := base) T
  refine T.F_law.ok sc_law (fun vs H Q E h => ?_) (fun cdv A outer s H vs Q E hr h => ?_)
  · obtain ⟨a, ns, rfl, _⟩ := h
    rfl
  · obtain ⟨a, ns, rfl, hS, hlen, k⟩ := h
    refine ⟨_, (pss_cons (ps_set (i := 1) sc_law.nd rfl (Or.inl rfl) (pe_call G__law_tape (hr.mono (by decide)) (by rfl) T.g__law_tape T.F__law_tape.kp T.b__law_tape .nil pass0 (pa_cons (pv 0) pa_nil)))
      (pss_cons (ps_set (i := 2) sc_law.nd rfl (Or.inl rfl) (pe_call G__law_rows (hr.mono (by decide)) (by rfl) T.g__law_rows T.F__law_rows.kp T.b__law_rows .nil pass0 (pa_cons (pv 1) (pa_cons (pe_op op_add pe_int (pe_call G__law_pick (hr.mono (by decide)) (by rfl) T.g__law_pick T.F__law_pick.kp T.b__law_pick .nil pass0 (pa_cons (pv 1) (pa_cons pe_int pa_nil)))) pa_nil))))
      (pss_cons (ps_set (i := 3) sc_law.nd rfl (Or.inl rfl) (pe_call G__law_above (hr.mono (by decide)) (by rfl) T.g__law_above T.F__law_above.kp T.b__law_above .nil pass0 (pa_cons (pv 2) pa_nil)))
      (pss_cons (ps_set (i := 4) sc_law.nd rfl (Or.inl rfl) (pe_make T.M_Book G_Book___init__ hr (by rfl) T.g_Book T.b_Book___init__ .nil pass0 (pa_cons (pv 2) pa_nil)))
      (pss_cons (ps_set (i := 5) sc_law.nd rfl (Or.inl rfl) (pe_call G__law_pairs (hr.mono (by decide)) (by rfl) T.g__law_pairs T.F__law_pairs.kp T.b__law_pairs .nil pass0 (pa_cons (pv 3) pa_nil)))
      (pss_cons (ps_if (pt_cmpR op_eq (pe_callB (r := rLenQ K) (id := "len") call_len_seq (by rfl) T.z_len (by decide +kernel) (pa_cons (pv 5) pa_nil)) pe_int (nomark _)) (pss_cons (ps_set (i := 7) sc_law.nd rfl (Or.inl rfl) (pe_call G_scheme_of hr (by rfl) T.g_scheme_of T.F_scheme_of.kp T.b_scheme_of .nil pass0 (pa_cons (pv 4) (pa_cons (pe_tup (pa_cons (pe_tupRg rfl (by rfl) T.z_tuple (prg_1 (by rfl) T.z_range (pe_callB (r := rLenQ K) (id := "len") call_len_seq (by rfl) T.z_len (by decide +kernel) (pa_cons (pv 2) pa_nil)))) pa_nil)) pa_nil))))
      (pss_one (ps_ret (pe_and (pe_cmpR op_isBl (pe_call G_is_scheme (hr.mono (by decide)) (by rfl) T.g_is_scheme T.F_is_scheme.kp T.b_is_scheme .nil pass0 (pa_cons (pv 4) (pa_cons (pv 7) pa_nil))) pe_bl (nomark _)) (pe_one (pe_cmpR op_eq (pe_call G_many_slots hr (by rfl) T.g_many_slots T.F_many_slots.kp T.b_many_slots .nil pass0 (pa_cons (pv 7) pa_nil)) pe_int (nomark _))))))) pss_nil)
      (pss_cons (ps_set (i := 6) sc_law.nd rfl (Or.inl rfl) (pe_ix (r := rIxL K) ix_list (pv 5) (pe_call G__law_pick (hr.mono (by decide)) (by rfl) T.g__law_pick T.F__law_pick.kp T.b__law_pick .nil pass0 (pa_cons (pv 1) (pa_cons (pe_callB (r := rLenQ K) (id := "len") call_len_seq (by rfl) T.z_len (by decide +kernel) (pa_cons (pv 5) pa_nil)) pa_nil))) (fun _ _ => rfl)))
      (pss_cons (ps_if (pt_not (pt_val (pe_call G__law_is_wrong hr (by rfl) T.g__law_is_wrong T.F__law_is_wrong.kp T.b__law_is_wrong .nil pass0 (pa_cons (pv 4) (pa_cons (pv 3) (pa_cons (pe_call G__law_forced (hr.mono (by decide)) (by rfl) T.g__law_forced T.F__law_forced.kp T.b__law_forced .nil pass0 (pa_cons (pv 1) (pa_cons (pv 3) (pa_cons (pv 6) pa_nil)))) pa_nil)))))) (pss_one (ps_ret pe_bl)) pss_nil)
      (pss_one (ps_ret (pe_call G__law_is_wrong hr (by rfl) T.g__law_is_wrong T.F__law_is_wrong.kp T.b__law_is_wrong .nil pass0 (pa_cons (pv 4) (pa_cons (pv 3) (pa_cons (pe_call G__law_few (hr.mono (by decide)) (by rfl) T.g__law_few T.F__law_few.kp T.b__law_few .nil pass0 (pa_cons (pv 1) (pa_cons (pv 3) (pa_cons (pe_call G__law_lot (hr.mono (by decide)) (by rfl) T.g__law_lot T.F__law_lot.kp T.b__law_lot .nil pass0 (pa_cons (pv 1) (pa_cons (pv 3) (pa_cons (pv 6) pa_nil)))) pa_nil)))) pa_nil)))))))))))))), ?_⟩
    tm_at "w"
    refine ⟨a, ns, rfl, hS, fun τ H1 _ s1 _ m1 => ?_⟩
    tm_at "w"
    refine ⟨τ, _, rfl, m1, by decide, by decide, fun n H3 m3 h0 h1 => ?_⟩
    obtain ⟨n, rfl⟩ : ∃ k : Nat, n = k := ⟨n.toNat, by omega⟩
    tm_at "w"
    refine ⟨τ, 2 + n, rfl, m3.now, by omega, fun ra P H4 m4 hP ok hPn => ?_⟩
    have few := ok.few
    tm_at "w"
    refine ⟨ra, P, rfl, hP, ok.rt, by omega, fun f H5 s5 hF => ?_⟩
    tm_at "w"
    refine mk_book (hP.tk (Same.tk s5)) ok fun b H6 mk _ => ?_
    have m6 := (m4.now.same s5).same mk.same
    have nlb : b.lb ≠ τ.t := (m4.now.same s5).mv.neN mk.nl.e
    have hF6 := hF.same mk.same
    have hb6 := mk.here
    have hP6 := hP.tk (Same.tk (Same.trans s5 mk.same))
    tm_at "w"
    refine ⟨f, P, rfl, hF6, by omega, fun l ws H7 s7 hl hws wsl emp => ?_⟩
    have m7 := m6.same s7
    have hb7 := hb6.same s7
    have hF7 := hF6.same s7
    have hP7 := hP6.tk (Same.tk s7)
    have nlt : l ≠ τ.t := m7.neL hl fun i c s n e => by
      obtain ⟨t, p, x, h, _⟩ := hws 1 (.int i) (by rw [e]; rfl)
      cases h
    tm_at "w"
    refine iteI (fun z => ?_) (fun z => ?_)
    · have we : ws = [] := List.eq_nil_of_length_eq_zero (by omega)
      have all := emp we
      obtain ⟨xs, hx, hxl⟩ := id hP7
      have xl := hxl.1
      tm_at "w"
      intro q9 nq9
      rw [show rgV 0 (xs.length : Int) = natsV (List.range P.length) from by rw [rg_nats, xl]]
      have s8 : Same H7 (upd H7 q9 (.tup (natsV (List.range P.length)))) := Same.new (Same.refl H7) nq9
      have hq8 : (upd H7 q9 (.tup (natsV (List.range P.length)))) q9 = some (.tup (natsV (List.range P.length))) := upd_same
      generalize (upd H7 q9 (.tup (natsV (List.range P.length)))) = H8 at *
      tm_at "w"
      intro D9 nD9
      have s9 : Same H8 (upd H8 D9 (.tup [.ref q9])) := Same.new (Same.refl H8) nD9
      have hD9 : ParAt (upd H8 D9 (.tup [.ref q9])) D9 [List.range P.length] := ⟨_, upd_same, rfl, fun j q e => by
        cases j with
        | zero =>
          obtain rfl := Option.some.inj e
          exact ⟨q9, rfl, s9 _ _ hq8⟩
        | succ j => simp at e⟩
      have s79 := Same.trans s8 s9
      show tNil _ (upd H8 D9 (.tup [.ref q9])) _
      generalize (upd H8 D9 (.tup [.ref q9])) = H9 at *
      have P2 : 2 ≤ P.length := by omega
      have de : Deal P P.length [List.range P.length] := ⟨fun q hq => by
          rw [List.mem_singleton] at hq
          rw [hq]
          exact List.ne_nil_of_length_pos (by rw [List.length_range]; omega), fun q hq => by
          rw [List.mem_singleton] at hq
          rw [hq]
          refine List.pairwise_iff_getElem.mpr fun i j hi hj hij => ?_
          rw [List.getElem_range, List.getElem_range]
          rw [List.length_range] at hj
          exact all i j hij hj, fun q hq => by
          rw [List.mem_singleton] at hq
          rw [hq]
          exact List.pairwise_lt_range, by
          rw [List.flatten_singleton]⟩
      have hb9 := hb7.same s79
      tm_at "w"
      refine ⟨b, P, D9, _, rfl, hb9, hD9, de, ok.rt, by omega, fun sc S H10 s10 hS10 hSl hd => ?_⟩
      have ok2 := due_ok ok.rt de (by omega) hSl hd
      have hb10 := hb9.same s10
      have hSk : ∀ e ∈ S, 0 ≤ e.1 ∧ e.2.2.length ≤ 1000 := ok2.2.1
      tm_at "w"
      refine ⟨b, P, sc, S, rfl, hb10, hS10, hSk, by omega, by omega, fun _ H11 s11 => ?_, fun no => ?_⟩
      case refine_2 =>
        obtain ⟨x, p, xl, pl, ne⟩ := no hSl
        exact absurd (right_all ok2 x p pl (.inl xl)) ne
      tm_at "w"
      refine ⟨sc, S, rfl, hS10.tk (Same.tk s11), hSk, by omega, fun ks H12 s12 nd hm => ?_⟩
      have ek := due_slots de hSl hd nd hm
      rw [ek]
      tm_at "w"
      exact k _
    · tm_at "w"
      refine ⟨τ, _, rfl, m7, by omega, Int.lt_of_le_of_lt (show _ ≤ (10000 : Int) by omega) (by decide), fun d H8 m8 d0 d1 => ?_⟩
      obtain ⟨d, rfl⟩ : ∃ n : Nat, d = (n : Int) := ⟨d.toNat, by omega⟩
      have hl8 := m8.keep _ _ nlt hl
      obtain ⟨t, p, x, hv, ht, bes⟩ := (hws.tk m8.tk) d _ (List.getElem?_eq_getElem (show d < ws.length by omega))
      have hwd := List.getElem?_eq_getElem (show d < ws.length by omega)
      rw [hv] at hwd
      have hF8 := hF7.mv m8
      have hb8 := hb7.mv m8 nlb
      have nxp : isA P p x = false := by
        cases e : isA P p x with
        | false => rfl
        | true =>
          have := isA_le ok.rt e
          have := bes.1
          omega
      tm_at "w"
      refine ⟨τ, f, t, p, x, P, rfl, m8.now, hF8, ok.rt, ht, bes.1, bes.2.1, bes.2.2, by omega, fun r S H9 m9 hS9 hSl hSB hTwo => ?_⟩
      have hF9 := hF8.mv m9
      have hb9 := hb8.mv m9 nlb
      have ht9 := m9.atT ht
      tm_at "w"
      refine ⟨b, f, r, P, S, rfl, hb9, hF9, hS9, hSl, hSB, hTwo, ok.rt, by omega, fun H10 s10 => ?_⟩
      have m10 := m9.now.same s10
      have hF10 := hF9.same s10
      have hb10 := hb9.same s10
      have ht10 := s10 _ _ ht9
      tm_at "w"
      refine ⟨τ, f, t, p, x, P, rfl, m10, hF10, ht10, by have := bes.1; have := bes.2.1; omega, bes.2.1, bes.2.2, nxp, by omega, fun L q H11 m11 nL hL hq q2 q200 => ?_⟩
      have hF11 := hF10.mv m11
      have hb11 := hb10.mv m11 nlb
      tm_at "w"
      refine ⟨τ, f, L, P, q, rfl, m11.now, hF11, hL, hq, q2, q200, by omega, fun r2 S2 H12 m12 hS12 hSl2 hSB2 hTwo2 => ?_⟩
      have hF12 := hF11.mv m12
      have hb12 := hb11.mv m12 nlb
      tm_at "w"
      exact ⟨b, f, r2, P, S2, rfl, hb12, hF12, hS12, hSl2, hSB2, hTwo2, ok.rt, by omega, fun H13 s13 => k _⟩
end
theorem all_mk {l : PySem.W.OpenLaw} {w : World} {K : PySem.W.Frag} {h : Heap} {mg : Str → Option Value} {fa : Addr} (X : K.In h) (G : h.Ns mainGlobals mg) (hfa : mg "law" = some (.ref fa))
    {t_MOST_PARENTS : Tok}
    {t_MOST_KINDS : Tok}
    {C_Book : Addr}
    {od0 an0 : Option Addr} {sl0 : Array (Option Value)} {oc0 kV0 dc0 pm0 cd0 ct0 : Value} {f0 : Addr}
    {od1 an1 : Option Addr} {sl1 : Array (Option Value)} {oc1 kV1 dc1 pm1 cd1 ct1 : Value} {f1 : Addr}
    {od2 an2 : Option Addr} {sl2 : Array (Option Value)} {oc2 kV2 dc2 pm2 cd2 ct2 : Value} {f2 : Addr}
    {od3 an3 : Option Addr} {sl3 : Array (Option Value)} {oc3 kV3 dc3 pm3 cd3 ct3 : Value} {f3 : Addr}
    {od4 an4 : Option Addr} {sl4 : Array (Option Value)} {oc4 kV4 dc4 pm4 cd4 ct4 : Value} {f4 : Addr}
    {od5 an5 : Option Addr} {sl5 : Array (Option Value)} {oc5 kV5 dc5 pm5 cd5 ct5 : Value} {f5 : Addr}
    {od6 an6 : Option Addr} {sl6 : Array (Option Value)} {oc6 kV6 dc6 pm6 cd6 ct6 : Value} {f6 : Addr}
    {od7 an7 : Option Addr} {sl7 : Array (Option Value)} {oc7 kV7 dc7 pm7 cd7 ct7 : Value} {f7 : Addr}
    {od8 an8 : Option Addr} {sl8 : Array (Option Value)} {oc8 kV8 dc8 pm8 cd8 ct8 : Value} {f8 : Addr}
    {od9 an9 : Option Addr} {sl9 : Array (Option Value)} {oc9 kV9 dc9 pm9 cd9 ct9 : Value} {f9 : Addr}
    {od10 an10 : Option Addr} {sl10 : Array (Option Value)} {oc10 kV10 dc10 pm10 cd10 ct10 : Value} {f10 : Addr}
    {od11 an11 : Option Addr} {sl11 : Array (Option Value)} {oc11 kV11 dc11 pm11 cd11 ct11 : Value} {f11 : Addr}
    {od12 an12 : Option Addr} {sl12 : Array (Option Value)} {oc12 kV12 dc12 pm12 cd12 ct12 : Value} {f12 : Addr}
    {od13 an13 : Option Addr} {sl13 : Array (Option Value)} {oc13 kV13 dc13 pm13 cd13 ct13 : Value} {f13 : Addr}
    {od14 an14 : Option Addr} {sl14 : Array (Option Value)} {oc14 kV14 dc14 pm14 cd14 ct14 : Value} {f14 : Addr}
    {od15 an15 : Option Addr} {sl15 : Array (Option Value)} {oc15 kV15 dc15 pm15 cd15 ct15 : Value} {f15 : Addr}
    {od16 an16 : Option Addr} {sl16 : Array (Option Value)} {oc16 kV16 dc16 pm16 cd16 ct16 : Value} {f16 : Addr}
    {od17 an17 : Option Addr} {sl17 : Array (Option Value)} {oc17 kV17 dc17 pm17 cd17 ct17 : Value} {f17 : Addr}
    {od18 an18 : Option Addr} {sl18 : Array (Option Value)} {oc18 kV18 dc18 pm18 cd18 ct18 : Value} {f18 : Addr}
    {od19 an19 : Option Addr} {sl19 : Array (Option Value)} {oc19 kV19 dc19 pm19 cd19 ct19 : Value} {f19 : Addr}
    {od20 an20 : Option Addr} {sl20 : Array (Option Value)} {oc20 kV20 dc20 pm20 cd20 ct20 : Value} {f20 : Addr}
    {od21 an21 : Option Addr} {sl21 : Array (Option Value)} {oc21 kV21 dc21 pm21 cd21 ct21 : Value} {f21 : Addr}
    {od22 an22 : Option Addr} {sl22 : Array (Option Value)} {oc22 kV22 dc22 pm22 cd22 ct22 : Value} {f22 : Addr}
    {od23 an23 : Option Addr} {sl23 : Array (Option Value)} {oc23 kV23 dc23 pm23 cd23 ct23 : Value} {f23 : Addr}
    {od24 an24 : Option Addr} {sl24 : Array (Option Value)} {oc24 kV24 dc24 pm24 cd24 ct24 : Value} {f24 : Addr}
    {od25 an25 : Option Addr} {sl25 : Array (Option Value)} {oc25 kV25 dc25 pm25 cd25 ct25 : Value} {f25 : Addr}
    {od26 an26 : Option Addr} {sl26 : Array (Option Value)} {oc26 kV26 dc26 pm26 cd26 ct26 : Value} {f26 : Addr}
    {od27 an27 : Option Addr} {sl27 : Array (Option Value)} {oc27 kV27 dc27 pm27 cd27 ct27 : Value} {f27 : Addr}
    {od28 an28 : Option Addr} {sl28 : Array (Option Value)} {oc28 kV28 dc28 pm28 cd28 ct28 : Value} {f28 : Addr}
    {od29 an29 : Option Addr} {sl29 : Array (Option Value)} {oc29 kV29 dc29 pm29 cd29 ct29 : Value} {f29 : Addr}
    {od30 an30 : Option Addr} {sl30 : Array (Option Value)} {oc30 kV30 dc30 pm30 cd30 ct30 : Value} {f30 : Addr}
    {od31 an31 : Option Addr} {sl31 : Array (Option Value)} {oc31 kV31 dc31 pm31 cd31 ct31 : Value} {f31 : Addr}
    {od32 an32 : Option Addr} {sl32 : Array (Option Value)} {oc32 kV32 dc32 pm32 cd32 ct32 : Value} {f32 : Addr}
    {od33 an33 : Option Addr} {sl33 : Array (Option Value)} {oc33 kV33 dc33 pm33 cd33 ct33 : Value} {f33 : Addr}
    {od34 an34 : Option Addr} {sl34 : Array (Option Value)} {oc34 kV34 dc34 pm34 cd34 ct34 : Value} {f34 : Addr}
    {od35 an35 : Option Addr} {sl35 : Array (Option Value)} {oc35 kV35 dc35 pm35 cd35 ct35 : Value} {f35 : Addr}
    {od36 an36 : Option Addr} {sl36 : Array (Option Value)} {oc36 kV36 dc36 pm36 cd36 ct36 : Value} {f36 : Addr}
    {od37 an37 : Option Addr} {sl37 : Array (Option Value)} {oc37 kV37 dc37 pm37 cd37 ct37 : Value} {f37 : Addr}
    {od38 an38 : Option Addr} {sl38 : Array (Option Value)} {oc38 kV38 dc38 pm38 cd38 ct38 : Value} {f38 : Addr}
    {od39 an39 : Option Addr} {sl39 : Array (Option Value)} {oc39 kV39 dc39 pm39 cd39 ct39 : Value} {f39 : Addr}
    {od40 an40 : Option Addr} {sl40 : Array (Option Value)} {oc40 kV40 dc40 pm40 cd40 ct40 : Value} {f40 : Addr}
    {od41 an41 : Option Addr} {sl41 : Array (Option Value)} {oc41 kV41 dc41 pm41 cd41 ct41 : Value} {f41 : Addr}
    (gc_Book : PySem.W.nsIn K mainGlobals "Book" = some (some (.ref C_Book))) (pg_Book : PySem.W.plainGet K C_Book Str.empty = true) (hd_Book : PySem.W.hasDictIn K C_Book = true) (po_Book : PySem.W.plainOver K C_Book = true) (sa_Book : PySem.W.findIn K (.ref C_Book) "__setattr__" = some (some (.builtin "object.__setattr__"))) (mk_Book : PySem.W.makesIn K C_Book = true) (kc_Book : PySem.W.keepIn K (.ref C_Book) = true) (ta_Book : PySem.W.findIn K (.ref C_Book) "__class__" = some (some (.builtin "object.__class__"))) (tn_Book : PySem.W.specialIn K (.builtin "object.__class__") "__get__" = some (some (.builtin "getset_descriptor.__get__"))) (tt_Book : PySem.W.takesIn K (.builtin "object.__class__") = some true) (tm_Book : PySem.W.mroIn K C_Book (.type "object") = some true)
    (n_Book_parents : PySem.W.findIn K (.ref C_Book) "parents" = some none)
    (n_Book_bits : PySem.W.findIn K (.ref C_Book) "bits" = some none)
    (k_MOST_KINDS : PySem.W.nsIn K mainGlobals "MOST_KINDS" = some (some (.int 400 t_MOST_KINDS)))
    (k_MOST_PARENTS : PySem.W.nsIn K mainGlobals "MOST_PARENTS" = some (some (.int 6 t_MOST_PARENTS)))
    (a0 : PySem.W.nsIn K mainGlobals "is_integer" = some (some (.ref f0)))
    (l0 : K.lookup f0 = some ⟨oc0, od0, .func (PySem.W.fnOf "is_integer" "is_integer" (defArgs s_is_integer) (defBody s_is_integer) (defScope s_is_integer) .none kV0 dc0 pm0 an0 cd0 ct0), sl0⟩) (c0 : PySem.W.codeIn K cd0 "is_integer" = true) (k0 : PySem.W.keepIn K (.ref f0) = true)
    (a1 : PySem.W.nsIn K mainGlobals "is_within" = some (some (.ref f1)))
    (l1 : K.lookup f1 = some ⟨oc1, od1, .func (PySem.W.fnOf "is_within" "is_within" (defArgs s_is_within) (defBody s_is_within) (defScope s_is_within) .none kV1 dc1 pm1 an1 cd1 ct1), sl1⟩) (c1 : PySem.W.codeIn K cd1 "is_within" = true) (k1 : PySem.W.keepIn K (.ref f1) = true)
    (a2 : PySem.W.nsIn K mainGlobals "is_triple" = some (some (.ref f2)))
    (l2 : K.lookup f2 = some ⟨oc2, od2, .func (PySem.W.fnOf "is_triple" "is_triple" (defArgs s_is_triple) (defBody s_is_triple) (defScope s_is_triple) .none kV2 dc2 pm2 an2 cd2 ct2), sl2⟩) (c2 : PySem.W.codeIn K cd2 "is_triple" = true) (k2 : PySem.W.keepIn K (.ref f2) = true)
    (a3 : PySem.W.nsIn K mainGlobals "is_lot" = some (some (.ref f3)))
    (l3 : K.lookup f3 = some ⟨oc3, od3, .func (PySem.W.fnOf "is_lot" "is_lot" (defArgs s_is_lot) (defBody s_is_lot) (defScope s_is_lot) .none kV3 dc3 pm3 an3 cd3 ct3), sl3⟩) (c3 : PySem.W.codeIn K cd3 "is_lot" = true) (k3 : PySem.W.keepIn K (.ref f3) = true)
    (a4 : PySem.W.nsIn K mainGlobals "are_parents" = some (some (.ref f4)))
    (l4 : K.lookup f4 = some ⟨oc4, od4, .func (PySem.W.fnOf "are_parents" "are_parents" (defArgs s_are_parents) (defBody s_are_parents) (defScope s_are_parents) .none kV4 dc4 pm4 an4 cd4 ct4), sl4⟩) (c4 : PySem.W.codeIn K cd4 "are_parents" = true) (k4 : PySem.W.keepIn K (.ref f4) = true)
    (a5 : PySem.W.findIn K (.ref C_Book) "fill" = some (some (.ref f5))) (i5 : PySem.W.isFn K (.ref f5) = true)
    (l5 : K.lookup f5 = some ⟨oc5, od5, .func (PySem.W.fnOf "fill" "Book.fill" (defArgs s_Book_fill) (defBody s_Book_fill) (defScope s_Book_fill) .none kV5 dc5 pm5 an5 cd5 ct5), sl5⟩) (c5 : PySem.W.codeIn K cd5 "Book.fill" = true) (k5 : PySem.W.keepIn K (.ref f5) = true)
    (a6 : PySem.W.findIn K (.ref C_Book) "__init__" = some (some (.ref f6))) (i6 : PySem.W.isFn K (.ref f6) = true)
    (l6 : K.lookup f6 = some ⟨oc6, od6, .func (PySem.W.fnOf "__init__" "Book.__init__" (defArgs s_Book___init__) (defBody s_Book___init__) (defScope s_Book___init__) .none kV6 dc6 pm6 an6 cd6 ct6), sl6⟩) (c6 : PySem.W.codeIn K cd6 "Book.__init__" = true) (k6 : PySem.W.keepIn K (.ref f6) = true)
    (a7 : PySem.W.nsIn K mainGlobals "many_of" = some (some (.ref f7)))
    (l7 : K.lookup f7 = some ⟨oc7, od7, .func (PySem.W.fnOf "many_of" "many_of" (defArgs s_many_of) (defBody s_many_of) (defScope s_many_of) .none kV7 dc7 pm7 an7 cd7 ct7), sl7⟩) (c7 : PySem.W.codeIn K cd7 "many_of" = true) (k7 : PySem.W.keepIn K (.ref f7) = true)
    (a8 : PySem.W.nsIn K mainGlobals "is_one" = some (some (.ref f8)))
    (l8 : K.lookup f8 = some ⟨oc8, od8, .func (PySem.W.fnOf "is_one" "is_one" (defArgs s_is_one) (defBody s_is_one) (defScope s_is_one) .none kV8 dc8 pm8 an8 cd8 ct8), sl8⟩) (c8 : PySem.W.codeIn K cd8 "is_one" = true) (k8 : PySem.W.keepIn K (.ref f8) = true)
    (a9 : PySem.W.nsIn K mainGlobals "all_kinds" = some (some (.ref f9)))
    (l9 : K.lookup f9 = some ⟨oc9, od9, .func (PySem.W.fnOf "all_kinds" "all_kinds" (defArgs s_all_kinds) (defBody s_all_kinds) (defScope s_all_kinds) .none kV9 dc9 pm9 an9 cd9 ct9), sl9⟩) (c9 : PySem.W.codeIn K cd9 "all_kinds" = true) (k9 : PySem.W.keepIn K (.ref f9) = true)
    (a10 : PySem.W.nsIn K mainGlobals "is_row" = some (some (.ref f10)))
    (l10 : K.lookup f10 = some ⟨oc10, od10, .func (PySem.W.fnOf "is_row" "is_row" (defArgs s_is_row) (defBody s_is_row) (defScope s_is_row) .none kV10 dc10 pm10 an10 cd10 ct10), sl10⟩) (c10 : PySem.W.codeIn K cd10 "is_row" = true) (k10 : PySem.W.keepIn K (.ref f10) = true)
    (a11 : PySem.W.nsIn K mainGlobals "is_dealing" = some (some (.ref f11)))
    (l11 : K.lookup f11 = some ⟨oc11, od11, .func (PySem.W.fnOf "is_dealing" "is_dealing" (defArgs s_is_dealing) (defBody s_is_dealing) (defScope s_is_dealing) .none kV11 dc11 pm11 an11 cd11 ct11), sl11⟩) (c11 : PySem.W.codeIn K cd11 "is_dealing" = true) (k11 : PySem.W.keepIn K (.ref f11) = true)
    (a12 : PySem.W.nsIn K mainGlobals "is_given" = some (some (.ref f12)))
    (l12 : K.lookup f12 = some ⟨oc12, od12, .func (PySem.W.fnOf "is_given" "is_given" (defArgs s_is_given) (defBody s_is_given) (defScope s_is_given) .none kV12 dc12 pm12 an12 cd12 ct12), sl12⟩) (c12 : PySem.W.codeIn K cd12 "is_given" = true) (k12 : PySem.W.keepIn K (.ref f12) = true)
    (a13 : PySem.W.nsIn K mainGlobals "has_form" = some (some (.ref f13)))
    (l13 : K.lookup f13 = some ⟨oc13, od13, .func (PySem.W.fnOf "has_form" "has_form" (defArgs s_has_form) (defBody s_has_form) (defScope s_has_form) .none kV13 dc13 pm13 an13 cd13 ct13), sl13⟩) (c13 : PySem.W.codeIn K cd13 "has_form" = true) (k13 : PySem.W.keepIn K (.ref f13) = true)
    (a14 : PySem.W.nsIn K mainGlobals "check_scheme" = some (some (.ref f14)))
    (l14 : K.lookup f14 = some ⟨oc14, od14, .func (PySem.W.fnOf "check_scheme" "check_scheme" (defArgs s_check_scheme) (defBody s_check_scheme) (defScope s_check_scheme) .none kV14 dc14 pm14 an14 cd14 ct14), sl14⟩) (c14 : PySem.W.codeIn K cd14 "check_scheme" = true) (k14 : PySem.W.keepIn K (.ref f14) = true)
    (a15 : PySem.W.nsIn K mainGlobals "told" = some (some (.ref f15)))
    (l15 : K.lookup f15 = some ⟨oc15, od15, .func (PySem.W.fnOf "told" "told" (defArgs s_told) (defBody s_told) (defScope s_told) .none kV15 dc15 pm15 an15 cd15 ct15), sl15⟩) (c15 : PySem.W.codeIn K cd15 "told" = true) (k15 : PySem.W.keepIn K (.ref f15) = true)
    (a16 : PySem.W.nsIn K mainGlobals "wrong_pair" = some (some (.ref f16)))
    (l16 : K.lookup f16 = some ⟨oc16, od16, .func (PySem.W.fnOf "wrong_pair" "wrong_pair" (defArgs s_wrong_pair) (defBody s_wrong_pair) (defScope s_wrong_pair) .none kV16 dc16 pm16 an16 cd16 ct16), sl16⟩) (c16 : PySem.W.codeIn K cd16 "wrong_pair" = true) (k16 : PySem.W.keepIn K (.ref f16) = true)
    (a17 : PySem.W.nsIn K mainGlobals "is_scheme" = some (some (.ref f17)))
    (l17 : K.lookup f17 = some ⟨oc17, od17, .func (PySem.W.fnOf "is_scheme" "is_scheme" (defArgs s_is_scheme) (defBody s_is_scheme) (defScope s_is_scheme) .none kV17 dc17 pm17 an17 cd17 ct17), sl17⟩) (c17 : PySem.W.codeIn K cd17 "is_scheme" = true) (k17 : PySem.W.keepIn K (.ref f17) = true)
    (a18 : PySem.W.nsIn K mainGlobals "first_wrong" = some (some (.ref f18)))
    (l18 : K.lookup f18 = some ⟨oc18, od18, .func (PySem.W.fnOf "first_wrong" "first_wrong" (defArgs s_first_wrong) (defBody s_first_wrong) (defScope s_first_wrong) .none kV18 dc18 pm18 an18 cd18 ct18), sl18⟩) (c18 : PySem.W.codeIn K cd18 "first_wrong" = true) (k18 : PySem.W.keepIn K (.ref f18) = true)
    (a19 : PySem.W.nsIn K mainGlobals "slots_of" = some (some (.ref f19)))
    (l19 : K.lookup f19 = some ⟨oc19, od19, .func (PySem.W.fnOf "slots_of" "slots_of" (defArgs s_slots_of) (defBody s_slots_of) (defScope s_slots_of) .none kV19 dc19 pm19 an19 cd19 ct19), sl19⟩) (c19 : PySem.W.codeIn K cd19 "slots_of" = true) (k19 : PySem.W.keepIn K (.ref f19) = true)
    (a20 : PySem.W.nsIn K mainGlobals "many_slots" = some (some (.ref f20)))
    (l20 : K.lookup f20 = some ⟨oc20, od20, .func (PySem.W.fnOf "many_slots" "many_slots" (defArgs s_many_slots) (defBody s_many_slots) (defScope s_many_slots) .none kV20 dc20 pm20 an20 cd20 ct20), sl20⟩) (c20 : PySem.W.codeIn K cd20 "many_slots" = true) (k20 : PySem.W.keepIn K (.ref f20) = true)
    (a21 : PySem.W.nsIn K mainGlobals "scheme_of" = some (some (.ref f21)))
    (l21 : K.lookup f21 = some ⟨oc21, od21, .func (PySem.W.fnOf "scheme_of" "scheme_of" (defArgs s_scheme_of) (defBody s_scheme_of) (defScope s_scheme_of) .none kV21 dc21 pm21 an21 cd21 ct21), sl21⟩) (c21 : PySem.W.codeIn K cd21 "scheme_of" = true) (k21 : PySem.W.keepIn K (.ref f21) = true)
    (a22 : PySem.W.nsIn K mainGlobals "_law_tape" = some (some (.ref f22)))
    (l22 : K.lookup f22 = some ⟨oc22, od22, .func (PySem.W.fnOf "_law_tape" "_law_tape" (defArgs s__law_tape) (defBody s__law_tape) (defScope s__law_tape) .none kV22 dc22 pm22 an22 cd22 ct22), sl22⟩) (c22 : PySem.W.codeIn K cd22 "_law_tape" = true) (k22 : PySem.W.keepIn K (.ref f22) = true)
    (a23 : PySem.W.nsIn K mainGlobals "_law_pick" = some (some (.ref f23)))
    (l23 : K.lookup f23 = some ⟨oc23, od23, .func (PySem.W.fnOf "_law_pick" "_law_pick" (defArgs s__law_pick) (defBody s__law_pick) (defScope s__law_pick) .none kV23 dc23 pm23 an23 cd23 ct23), sl23⟩) (c23 : PySem.W.codeIn K cd23 "_law_pick" = true) (k23 : PySem.W.keepIn K (.ref f23) = true)
    (a24 : PySem.W.nsIn K mainGlobals "_law_great" = some (some (.ref f24)))
    (l24 : K.lookup f24 = some ⟨oc24, od24, .func (PySem.W.fnOf "_law_great" "_law_great" (defArgs s__law_great) (defBody s__law_great) (defScope s__law_great) .none kV24 dc24 pm24 an24 cd24 ct24), sl24⟩) (c24 : PySem.W.codeIn K cd24 "_law_great" = true) (k24 : PySem.W.keepIn K (.ref f24) = true)
    (a25 : PySem.W.nsIn K mainGlobals "_law_parents" = some (some (.ref f25)))
    (l25 : K.lookup f25 = some ⟨oc25, od25, .func (PySem.W.fnOf "_law_parents" "_law_parents" (defArgs s__law_parents) (defBody s__law_parents) (defScope s__law_parents) .none kV25 dc25 pm25 an25 cd25 ct25), sl25⟩) (c25 : PySem.W.codeIn K cd25 "_law_parents" = true) (k25 : PySem.W.keepIn K (.ref f25) = true)
    (a26 : PySem.W.nsIn K mainGlobals "_law_rows" = some (some (.ref f26)))
    (l26 : K.lookup f26 = some ⟨oc26, od26, .func (PySem.W.fnOf "_law_rows" "_law_rows" (defArgs s__law_rows) (defBody s__law_rows) (defScope s__law_rows) .none kV26 dc26 pm26 an26 cd26 ct26), sl26⟩) (c26 : PySem.W.codeIn K cd26 "_law_rows" = true) (k26 : PySem.W.keepIn K (.ref f26) = true)
    (a27 : PySem.W.nsIn K mainGlobals "_law_above" = some (some (.ref f27)))
    (l27 : K.lookup f27 = some ⟨oc27, od27, .func (PySem.W.fnOf "_law_above" "_law_above" (defArgs s__law_above) (defBody s__law_above) (defScope s__law_above) .none kV27 dc27 pm27 an27 cd27 ct27), sl27⟩) (c27 : PySem.W.codeIn K cd27 "_law_above" = true) (k27 : PySem.W.keepIn K (.ref f27) = true)
    (a28 : PySem.W.nsIn K mainGlobals "_law_lines" = some (some (.ref f28)))
    (l28 : K.lookup f28 = some ⟨oc28, od28, .func (PySem.W.fnOf "_law_lines" "_law_lines" (defArgs s__law_lines) (defBody s__law_lines) (defScope s__law_lines) .none kV28 dc28 pm28 an28 cd28 ct28), sl28⟩) (c28 : PySem.W.codeIn K cd28 "_law_lines" = true) (k28 : PySem.W.keepIn K (.ref f28) = true)
    (a29 : PySem.W.nsIn K mainGlobals "_law_numbers" = some (some (.ref f29)))
    (l29 : K.lookup f29 = some ⟨oc29, od29, .func (PySem.W.fnOf "_law_numbers" "_law_numbers" (defArgs s__law_numbers) (defBody s__law_numbers) (defScope s__law_numbers) .none kV29 dc29 pm29 an29 cd29 ct29), sl29⟩) (c29 : PySem.W.codeIn K cd29 "_law_numbers" = true) (k29 : PySem.W.keepIn K (.ref f29) = true)
    (a30 : PySem.W.nsIn K mainGlobals "_law_entry" = some (some (.ref f30)))
    (l30 : K.lookup f30 = some ⟨oc30, od30, .func (PySem.W.fnOf "_law_entry" "_law_entry" (defArgs s__law_entry) (defBody s__law_entry) (defScope s__law_entry) .none kV30 dc30 pm30 an30 cd30 ct30), sl30⟩) (c30 : PySem.W.codeIn K cd30 "_law_entry" = true) (k30 : PySem.W.keepIn K (.ref f30) = true)
    (a31 : PySem.W.nsIn K mainGlobals "_law_right" = some (some (.ref f31)))
    (l31 : K.lookup f31 = some ⟨oc31, od31, .func (PySem.W.fnOf "_law_right" "_law_right" (defArgs s__law_right) (defBody s__law_right) (defScope s__law_right) .none kV31 dc31 pm31 an31 cd31 ct31), sl31⟩) (c31 : PySem.W.codeIn K cd31 "_law_right" = true) (k31 : PySem.W.keepIn K (.ref f31) = true)
    (a32 : PySem.W.nsIn K mainGlobals "_law_says" = some (some (.ref f32)))
    (l32 : K.lookup f32 = some ⟨oc32, od32, .func (PySem.W.fnOf "_law_says" "_law_says" (defArgs s__law_says) (defBody s__law_says) (defScope s__law_says) .none kV32 dc32 pm32 an32 cd32 ct32), sl32⟩) (c32 : PySem.W.codeIn K cd32 "_law_says" = true) (k32 : PySem.W.keepIn K (.ref f32) = true)
    (a33 : PySem.W.nsIn K mainGlobals "_law_first" = some (some (.ref f33)))
    (l33 : K.lookup f33 = some ⟨oc33, od33, .func (PySem.W.fnOf "_law_first" "_law_first" (defArgs s__law_first) (defBody s__law_first) (defScope s__law_first) .none kV33 dc33 pm33 an33 cd33 ct33), sl33⟩) (c33 : PySem.W.codeIn K cd33 "_law_first" = true) (k33 : PySem.W.keepIn K (.ref f33) = true)
    (a34 : PySem.W.nsIn K mainGlobals "_law_same_pair" = some (some (.ref f34)))
    (l34 : K.lookup f34 = some ⟨oc34, od34, .func (PySem.W.fnOf "_law_same_pair" "_law_same_pair" (defArgs s__law_same_pair) (defBody s__law_same_pair) (defScope s__law_same_pair) .none kV34 dc34 pm34 an34 cd34 ct34), sl34⟩) (c34 : PySem.W.codeIn K cd34 "_law_same_pair" = true) (k34 : PySem.W.keepIn K (.ref f34) = true)
    (a35 : PySem.W.nsIn K mainGlobals "_law_pairs" = some (some (.ref f35)))
    (l35 : K.lookup f35 = some ⟨oc35, od35, .func (PySem.W.fnOf "_law_pairs" "_law_pairs" (defArgs s__law_pairs) (defBody s__law_pairs) (defScope s__law_pairs) .none kV35 dc35 pm35 an35 cd35 ct35), sl35⟩) (c35 : PySem.W.codeIn K cd35 "_law_pairs" = true) (k35 : PySem.W.keepIn K (.ref f35) = true)
    (a36 : PySem.W.nsIn K mainGlobals "_law_lot" = some (some (.ref f36)))
    (l36 : K.lookup f36 = some ⟨oc36, od36, .func (PySem.W.fnOf "_law_lot" "_law_lot" (defArgs s__law_lot) (defBody s__law_lot) (defScope s__law_lot) .none kV36 dc36 pm36 an36 cd36 ct36), sl36⟩) (c36 : PySem.W.codeIn K cd36 "_law_lot" = true) (k36 : PySem.W.keepIn K (.ref f36) = true)
    (a37 : PySem.W.nsIn K mainGlobals "_law_near" = some (some (.ref f37)))
    (l37 : K.lookup f37 = some ⟨oc37, od37, .func (PySem.W.fnOf "_law_near" "_law_near" (defArgs s__law_near) (defBody s__law_near) (defScope s__law_near) .none kV37 dc37 pm37 an37 cd37 ct37), sl37⟩) (c37 : PySem.W.codeIn K cd37 "_law_near" = true) (k37 : PySem.W.keepIn K (.ref f37) = true)
    (a38 : PySem.W.nsIn K mainGlobals "_law_forced" = some (some (.ref f38)))
    (l38 : K.lookup f38 = some ⟨oc38, od38, .func (PySem.W.fnOf "_law_forced" "_law_forced" (defArgs s__law_forced) (defBody s__law_forced) (defScope s__law_forced) .none kV38 dc38 pm38 an38 cd38 ct38), sl38⟩) (c38 : PySem.W.codeIn K cd38 "_law_forced" = true) (k38 : PySem.W.keepIn K (.ref f38) = true)
    (a39 : PySem.W.nsIn K mainGlobals "_law_few" = some (some (.ref f39)))
    (l39 : K.lookup f39 = some ⟨oc39, od39, .func (PySem.W.fnOf "_law_few" "_law_few" (defArgs s__law_few) (defBody s__law_few) (defScope s__law_few) .none kV39 dc39 pm39 an39 cd39 ct39), sl39⟩) (c39 : PySem.W.codeIn K cd39 "_law_few" = true) (k39 : PySem.W.keepIn K (.ref f39) = true)
    (a40 : PySem.W.nsIn K mainGlobals "_law_is_wrong" = some (some (.ref f40)))
    (l40 : K.lookup f40 = some ⟨oc40, od40, .func (PySem.W.fnOf "_law_is_wrong" "_law_is_wrong" (defArgs s__law_is_wrong) (defBody s__law_is_wrong) (defScope s__law_is_wrong) .none kV40 dc40 pm40 an40 cd40 ct40), sl40⟩) (c40 : PySem.W.codeIn K cd40 "_law_is_wrong" = true) (k40 : PySem.W.keepIn K (.ref f40) = true)
    (a41 : PySem.W.nsIn K mainGlobals "law" = some (some (.ref f41)))
    (l41 : K.lookup f41 = some ⟨oc41, od41, .func (PySem.W.fnOf "law" "law" (defArgs s_law) (defBody s_law) (defScope s_law) .none kV41 dc41 pm41 an41 cd41 ct41), sl41⟩) (c41 : PySem.W.codeIn K cd41 "law" = true) (k41 : PySem.W.keepIn K (.ref f41) = true)
    (z_abs : PySem.W.nsIn K mainGlobals "abs" = some none)
    (z_all : PySem.W.nsIn K mainGlobals "all" = some none)
    (z_any : PySem.W.nsIn K mainGlobals "any" = some none)
    (z_bool : PySem.W.nsIn K mainGlobals "bool" = some none)
    (z_enumerate : PySem.W.nsIn K mainGlobals "enumerate" = some none)
    (z_int : PySem.W.nsIn K mainGlobals "int" = some none)
    (z_isinstance : PySem.W.nsIn K mainGlobals "isinstance" = some none)
    (z_len : PySem.W.nsIn K mainGlobals "len" = some none)
    (z_list : PySem.W.nsIn K mainGlobals "list" = some none)
    (z_max : PySem.W.nsIn K mainGlobals "max" = some none)
    (z_range : PySem.W.nsIn K mainGlobals "range" = some none)
    (z_set : PySem.W.nsIn K mainGlobals "set" = some none)
    (z_sorted : PySem.W.nsIn K mainGlobals "sorted" = some none)
    (z_tuple : PySem.W.nsIn K mainGlobals "tuple" = some none)
    (z_zip : PySem.W.nsIn K mainGlobals "zip" = some none) :
    ∃ fd : FuncData, (∀ (s : Shared) (v : Value), BindsTo s fd ⟨[v], []⟩ [("_law_script", v)]) ∧ ∀ base : Heap, K.In base → base.Ns mainGlobals mg → FnOk l.prog w K mg base CX0 7 fa fd ["_law_script"] (sp_law K) := by
  have e := hfa.symm.trans (PySem.W.mg_of X G a41)
  cases e
  exact ⟨_, fun s v => .of_eq rfl, fun base _ _ => ok_law {
    C_Book := C_Book, g_Book := PySem.W.mg_of X G gc_Book, cl_Book := ⟨pg_Book, hd_Book, po_Book, sa_Book⟩, ty_Book := ⟨ta_Book, tn_Book, tt_Book, tm_Book⟩,
    n_Book_parents := n_Book_parents,
    n_Book_bits := n_Book_bits,
    c_MOST_KINDS := ⟨_, PySem.W.mg_of X G k_MOST_KINDS⟩,
    c_MOST_PARENTS := ⟨_, PySem.W.mg_of X G k_MOST_PARENTS⟩,
    f_is_integer := f0, fd_is_integer := _, F_is_integer := (fun_mk (st := s_is_integer) l0 c0 k0), b_is_integer := (fun_mk (st := s_is_integer) l0 c0 k0).binds (ps := ["thing"]) (fun _ _ _ _ _ _ us hl => match us, hl with | [_], _ => rfl), g_is_integer := PySem.W.mg_of X G a0,
    f_is_within := f1, fd_is_within := _, F_is_within := (fun_mk (st := s_is_within) l1 c1 k1), b_is_within := (fun_mk (st := s_is_within) l1 c1 k1).binds (ps := ["thing", "least", "most"]) (fun _ _ _ _ _ _ us hl => match us, hl with | [_, _, _], _ => rfl), g_is_within := PySem.W.mg_of X G a1,
    f_is_triple := f2, fd_is_triple := _, F_is_triple := (fun_mk (st := s_is_triple) l2 c2 k2), b_is_triple := (fun_mk (st := s_is_triple) l2 c2 k2).binds (ps := ["thing"]) (fun _ _ _ _ _ _ us hl => match us, hl with | [_], _ => rfl), g_is_triple := PySem.W.mg_of X G a2,
    f_is_lot := f3, fd_is_lot := _, F_is_lot := (fun_mk (st := s_is_lot) l3 c3 k3), b_is_lot := (fun_mk (st := s_is_lot) l3 c3 k3).binds (ps := ["thing", "many"]) (fun _ _ _ _ _ _ us hl => match us, hl with | [_, _], _ => rfl), g_is_lot := PySem.W.mg_of X G a3,
    f_are_parents := f4, fd_are_parents := _, F_are_parents := (fun_mk (st := s_are_parents) l4 c4 k4), b_are_parents := (fun_mk (st := s_are_parents) l4 c4 k4).binds (ps := ["thing", "number"]) (fun _ _ _ _ _ _ us hl => match us, hl with | [_, _], _ => rfl), g_are_parents := PySem.W.mg_of X G a4,
    f_Book_fill := f5, fd_Book_fill := _, F_Book_fill := (fun_mk (st := s_Book_fill) l5 c5 k5), b_Book_fill := (fun_mk (st := s_Book_fill) l5 c5 k5).binds (ps := ["self", "parents"]) (fun _ _ _ _ _ _ us hl => match us, hl with | [_, _], _ => rfl), m_Book_fill := ⟨a5, i5, k5⟩,
    f_Book___init__ := f6, fd_Book___init__ := _, F_Book___init__ := (fun_mk (st := s_Book___init__) l6 c6 k6), b_Book___init__ := (fun_mk (st := s_Book___init__) l6 c6 k6).binds (ps := ["self", "parents"]) (fun _ _ _ _ _ _ us hl => match us, hl with | [_, _], _ => rfl), m_Book___init__ := ⟨a6, i6, k6⟩, M_Book := ⟨mk_Book, a6, i6, kc_Book⟩,
    f_many_of := f7, fd_many_of := _, F_many_of := (fun_mk (st := s_many_of) l7 c7 k7), b_many_of := (fun_mk (st := s_many_of) l7 c7 k7).binds (ps := ["book"]) (fun _ _ _ _ _ _ us hl => match us, hl with | [_], _ => rfl), g_many_of := PySem.W.mg_of X G a7,
    f_is_one := f8, fd_is_one := _, F_is_one := (fun_mk (st := s_is_one) l8 c8 k8), b_is_one := (fun_mk (st := s_is_one) l8 c8 k8).binds (ps := ["book", "x", "p"]) (fun _ _ _ _ _ _ us hl => match us, hl with | [_, _, _], _ => rfl), g_is_one := PySem.W.mg_of X G a8,
    f_all_kinds := f9, fd_all_kinds := _, F_all_kinds := (fun_mk (st := s_all_kinds) l9 c9 k9), b_all_kinds := (fun_mk (st := s_all_kinds) l9 c9 k9).binds (ps := ["book"]) (fun _ _ _ _ _ _ us hl => match us, hl with | [_], _ => rfl), g_all_kinds := PySem.W.mg_of X G a9,
    f_is_row := f10, fd_is_row := _, F_is_row := (fun_mk (st := s_is_row) l10 c10 k10), b_is_row := (fun_mk (st := s_is_row) l10 c10 k10).binds (ps := ["book", "thing"]) (fun _ _ _ _ _ _ us hl => match us, hl with | [_, _], _ => rfl), g_is_row := PySem.W.mg_of X G a10,
    f_is_dealing := f11, fd_is_dealing := _, F_is_dealing := (fun_mk (st := s_is_dealing) l11 c11 k11), b_is_dealing := (fun_mk (st := s_is_dealing) l11 c11 k11).binds (ps := ["book", "thing"]) (fun _ _ _ _ _ _ us hl => match us, hl with | [_, _], _ => rfl), g_is_dealing := PySem.W.mg_of X G a11,
    f_is_given := f12, fd_is_given := _, F_is_given := (fun_mk (st := s_is_given) l12 c12 k12), b_is_given := (fun_mk (st := s_is_given) l12 c12 k12).binds (ps := ["thing"]) (fun _ _ _ _ _ _ us hl => match us, hl with | [_], _ => rfl), g_is_given := PySem.W.mg_of X G a12,
    f_has_form := f13, fd_has_form := _, F_has_form := (fun_mk (st := s_has_form) l13 c13 k13), b_has_form := (fun_mk (st := s_has_form) l13 c13 k13).binds (ps := ["thing"]) (fun _ _ _ _ _ _ us hl => match us, hl with | [_], _ => rfl), g_has_form := PySem.W.mg_of X G a13,
    f_check_scheme := f14, fd_check_scheme := _, F_check_scheme := (fun_mk (st := s_check_scheme) l14 c14 k14), b_check_scheme := (fun_mk (st := s_check_scheme) l14 c14 k14).binds (ps := ["thing"]) (fun _ _ _ _ _ _ us hl => match us, hl with | [_], _ => rfl), g_check_scheme := PySem.W.mg_of X G a14,
    f_told := f15, fd_told := _, F_told := (fun_mk (st := s_told) l15 c15 k15), b_told := (fun_mk (st := s_told) l15 c15 k15).binds (ps := ["scheme", "x", "p"]) (fun _ _ _ _ _ _ us hl => match us, hl with | [_, _, _], _ => rfl), g_told := PySem.W.mg_of X G a15,
    f_wrong_pair := f16, fd_wrong_pair := _, F_wrong_pair := (fun_mk (st := s_wrong_pair) l16 c16 k16), b_wrong_pair := (fun_mk (st := s_wrong_pair) l16 c16 k16).binds (ps := ["book", "scheme"]) (fun _ _ _ _ _ _ us hl => match us, hl with | [_, _], _ => rfl), g_wrong_pair := PySem.W.mg_of X G a16,
    f_is_scheme := f17, fd_is_scheme := _, F_is_scheme := (fun_mk (st := s_is_scheme) l17 c17 k17), b_is_scheme := (fun_mk (st := s_is_scheme) l17 c17 k17).binds (ps := ["book", "thing"]) (fun _ _ _ _ _ _ us hl => match us, hl with | [_, _], _ => rfl), g_is_scheme := PySem.W.mg_of X G a17,
    f_first_wrong := f18, fd_first_wrong := _, F_first_wrong := (fun_mk (st := s_first_wrong) l18 c18 k18), b_first_wrong := (fun_mk (st := s_first_wrong) l18 c18 k18).binds (ps := ["book", "scheme"]) (fun _ _ _ _ _ _ us hl => match us, hl with | [_, _], _ => rfl), g_first_wrong := PySem.W.mg_of X G a18,
    f_slots_of := f19, fd_slots_of := _, F_slots_of := (fun_mk (st := s_slots_of) l19 c19 k19), b_slots_of := (fun_mk (st := s_slots_of) l19 c19 k19).binds (ps := ["scheme"]) (fun _ _ _ _ _ _ us hl => match us, hl with | [_], _ => rfl), g_slots_of := PySem.W.mg_of X G a19,
    f_many_slots := f20, fd_many_slots := _, F_many_slots := (fun_mk (st := s_many_slots) l20 c20 k20), b_many_slots := (fun_mk (st := s_many_slots) l20 c20 k20).binds (ps := ["scheme"]) (fun _ _ _ _ _ _ us hl => match us, hl with | [_], _ => rfl), g_many_slots := PySem.W.mg_of X G a20,
    f_scheme_of := f21, fd_scheme_of := _, F_scheme_of := (fun_mk (st := s_scheme_of) l21 c21 k21), b_scheme_of := (fun_mk (st := s_scheme_of) l21 c21 k21).binds (ps := ["book", "dealing"]) (fun _ _ _ _ _ _ us hl => match us, hl with | [_, _], _ => rfl), g_scheme_of := PySem.W.mg_of X G a21,
    f__law_tape := f22, fd__law_tape := _, F__law_tape := (fun_mk (st := s__law_tape) l22 c22 k22), b__law_tape := (fun_mk (st := s__law_tape) l22 c22 k22).binds (ps := ["_law_script"]) (fun _ _ _ _ _ _ us hl => match us, hl with | [_], _ => rfl), g__law_tape := PySem.W.mg_of X G a22,
    f__law_pick := f23, fd__law_pick := _, F__law_pick := (fun_mk (st := s__law_pick) l23 c23 k23), b__law_pick := (fun_mk (st := s__law_pick) l23 c23 k23).binds (ps := ["_law_tape_here", "_law_many"]) (fun _ _ _ _ _ _ us hl => match us, hl with | [_, _], _ => rfl), g__law_pick := PySem.W.mg_of X G a23,
    f__law_great := f24, fd__law_great := _, F__law_great := (fun_mk (st := s__law_great) l24 c24 k24), b__law_great := (fun_mk (st := s__law_great) l24 c24 k24).binds (ps := ["_law_tape_here"]) (fun _ _ _ _ _ _ us hl => match us, hl with | [_], _ => rfl), g__law_great := PySem.W.mg_of X G a24,
    f__law_parents := f25, fd__law_parents := _, F__law_parents := (fun_mk (st := s__law_parents) l25 c25 k25), b__law_parents := (fun_mk (st := s__law_parents) l25 c25 k25).binds (ps := ["_law_tape_here", "_law_number", "_law_kind"]) (fun _ _ _ _ _ _ us hl => match us, hl with | [_, _, _], _ => rfl), g__law_parents := PySem.W.mg_of X G a25,
    f__law_rows := f26, fd__law_rows := _, F__law_rows := (fun_mk (st := s__law_rows) l26 c26 k26), b__law_rows := (fun_mk (st := s__law_rows) l26 c26 k26).binds (ps := ["_law_tape_here", "_law_many"]) (fun _ _ _ _ _ _ us hl => match us, hl with | [_, _], _ => rfl), g__law_rows := PySem.W.mg_of X G a26,
    f__law_above := f27, fd__law_above := _, F__law_above := (fun_mk (st := s__law_above) l27 c27 k27), b__law_above := (fun_mk (st := s__law_above) l27 c27 k27).binds (ps := ["_law_rows_here"]) (fun _ _ _ _ _ _ us hl => match us, hl with | [_], _ => rfl), g__law_above := PySem.W.mg_of X G a27,
    f__law_lines := f28, fd__law_lines := _, F__law_lines := (fun_mk (st := s__law_lines) l28 c28 k28), b__law_lines := (fun_mk (st := s__law_lines) l28 c28 k28).binds (ps := ["_law_tape_here", "_law_above_here"]) (fun _ _ _ _ _ _ us hl => match us, hl with | [_, _], _ => rfl), g__law_lines := PySem.W.mg_of X G a28,
    f__law_numbers := f29, fd__law_numbers := _, F__law_numbers := (fun_mk (st := s__law_numbers) l29 c29 k29), b__law_numbers := (fun_mk (st := s__law_numbers) l29 c29 k29).binds (ps := ["_law_tape_here", "_law_lines_here", "_law_many"]) (fun _ _ _ _ _ _ us hl => match us, hl with | [_, _, _], _ => rfl), g__law_numbers := PySem.W.mg_of X G a29,
    f__law_entry := f30, fd__law_entry := _, F__law_entry := (fun_mk (st := s__law_entry) l30 c30 k30), b__law_entry := (fun_mk (st := s__law_entry) l30 c30 k30).binds (ps := ["_law_tape_here", "_law_line", "_law_numbers_here", "_law_flags"]) (fun _ _ _ _ _ _ us hl => match us, hl with | [_, _, _, _], _ => rfl), g__law_entry := PySem.W.mg_of X G a30,
    f__law_right := f31, fd__law_right := _, F__law_right := (fun_mk (st := s__law_right) l31 c31 k31), b__law_right := (fun_mk (st := s__law_right) l31 c31 k31).binds (ps := ["_law_tape_here", "_law_above_here", "_law_lines_here"]) (fun _ _ _ _ _ _ us hl => match us, hl with | [_, _, _], _ => rfl), g__law_right := PySem.W.mg_of X G a31,
    f__law_says := f32, fd__law_says := _, F__law_says := (fun_mk (st := s__law_says) l32 c32 k32), b__law_says := (fun_mk (st := s__law_says) l32 c32 k32).binds (ps := ["_law_scheme", "_law_x", "_law_p"]) (fun _ _ _ _ _ _ us hl => match us, hl with | [_, _, _], _ => rfl), g__law_says := PySem.W.mg_of X G a32,
    f__law_first := f33, fd__law_first := _, F__law_first := (fun_mk (st := s__law_first) l33 c33 k33), b__law_first := (fun_mk (st := s__law_first) l33 c33 k33).binds (ps := ["_law_scheme", "_law_above_here"]) (fun _ _ _ _ _ _ us hl => match us, hl with | [_, _], _ => rfl), g__law_first := PySem.W.mg_of X G a33,
    f__law_same_pair := f34, fd__law_same_pair := _, F__law_same_pair := (fun_mk (st := s__law_same_pair) l34 c34 k34), b__law_same_pair := (fun_mk (st := s__law_same_pair) l34 c34 k34).binds (ps := ["_law_told", "_law_due"]) (fun _ _ _ _ _ _ us hl => match us, hl with | [_, _], _ => rfl), g__law_same_pair := PySem.W.mg_of X G a34,
    f__law_pairs := f35, fd__law_pairs := _, F__law_pairs := (fun_mk (st := s__law_pairs) l35 c35 k35), b__law_pairs := (fun_mk (st := s__law_pairs) l35 c35 k35).binds (ps := ["_law_above_here"]) (fun _ _ _ _ _ _ us hl => match us, hl with | [_], _ => rfl), g__law_pairs := PySem.W.mg_of X G a35,
    f__law_lot := f36, fd__law_lot := _, F__law_lot := (fun_mk (st := s__law_lot) l36 c36 k36), b__law_lot := (fun_mk (st := s__law_lot) l36 c36 k36).binds (ps := ["_law_tape_here", "_law_above_here", "_law_pair"]) (fun _ _ _ _ _ _ us hl => match us, hl with | [_, _, _], _ => rfl), g__law_lot := PySem.W.mg_of X G a36,
    f__law_near := f37, fd__law_near := _, F__law_near := (fun_mk (st := s__law_near) l37 c37 k37), b__law_near := (fun_mk (st := s__law_near) l37 c37 k37).binds (ps := ["_law_tape_here", "_law_one", "_law_other"]) (fun _ _ _ _ _ _ us hl => match us, hl with | [_, _, _], _ => rfl), g__law_near := PySem.W.mg_of X G a37,
    f__law_forced := f38, fd__law_forced := _, F__law_forced := (fun_mk (st := s__law_forced) l38 c38 k38), b__law_forced := (fun_mk (st := s__law_forced) l38 c38 k38).binds (ps := ["_law_tape_here", "_law_above_here", "_law_pair"]) (fun _ _ _ _ _ _ us hl => match us, hl with | [_, _, _], _ => rfl), g__law_forced := PySem.W.mg_of X G a38,
    f__law_few := f39, fd__law_few := _, F__law_few := (fun_mk (st := s__law_few) l39 c39 k39), b__law_few := (fun_mk (st := s__law_few) l39 c39 k39).binds (ps := ["_law_tape_here", "_law_above_here", "_law_lot_here"]) (fun _ _ _ _ _ _ us hl => match us, hl with | [_, _, _], _ => rfl), g__law_few := PySem.W.mg_of X G a39,
    f__law_is_wrong := f40, fd__law_is_wrong := _, F__law_is_wrong := (fun_mk (st := s__law_is_wrong) l40 c40 k40), b__law_is_wrong := (fun_mk (st := s__law_is_wrong) l40 c40 k40).binds (ps := ["_law_book", "_law_above_here", "_law_scheme"]) (fun _ _ _ _ _ _ us hl => match us, hl with | [_, _, _], _ => rfl), g__law_is_wrong := PySem.W.mg_of X G a40,
    f_law := _, fd_law := _, F_law := (fun_mk (st := s_law) l41 c41 k41), b_law := (fun_mk (st := s_law) l41 c41 k41).binds (ps := ["_law_script"]) (fun _ _ _ _ _ _ us hl => match us, hl with | [_], _ => rfl), g_law := PySem.W.mg_of X G a41,
    z_abs := PySem.W.mg_none_of X G z_abs,
    z_all := PySem.W.mg_none_of X G z_all,
    z_any := PySem.W.mg_none_of X G z_any,
    z_bool := PySem.W.mg_none_of X G z_bool,
    z_enumerate := PySem.W.mg_none_of X G z_enumerate,
    z_int := PySem.W.mg_none_of X G z_int,
    z_isinstance := PySem.W.mg_none_of X G z_isinstance,
    z_len := PySem.W.mg_none_of X G z_len,
    z_list := PySem.W.mg_none_of X G z_list,
    z_max := PySem.W.mg_none_of X G z_max,
    z_range := PySem.W.mg_none_of X G z_range,
    z_set := PySem.W.mg_none_of X G z_set,
    z_sorted := PySem.W.mg_none_of X G z_sorted,
    z_tuple := PySem.W.mg_none_of X G z_tuple,
    z_zip := PySem.W.mg_none_of X G z_zip }⟩
end Lk
open PySem PySem.W PyProof.Rows
set_option maxHeartbeats 0 in
theorem PySem.Challenge.cw_latekinds_k17_whole_no_scheme_with_two_s_holds : PySem.Challenge.rw_latekinds_k17_whole_no_scheme_with_two_s.Holds := by
  w_on; o_law; k_head; (case hw => w_witness2)
  k_fill
  refine L2.walk_of (l := PySem.Challenge.rw_latekinds_k17_whole_no_scheme_with_two_s) (n := 63) (k := 7) (x := "_law_script") (CX := fun _ => L2.CX0) (sp := fun w => Lk.sp_law _) rfl (by decide) rfl ⟨rfl, by decide, by decide⟩ (fun w h Y => PySem.W.kIn_of Y) ?F (fun _ _ a ns hl _ hS => ⟨a, ns, rfl, hS, hl, fun _ => rfl⟩) (fun _ _ _ _ _ h => h)
  case F =>
    intro w mg fa h KX G hmg
    refine' Lk.all_mk KX G hmg ?gc_Book ?pg_Book ?hd_Book ?po_Book ?sa_Book ?mk_Book ?kc_Book ?ta_Book ?tn_Book ?tt_Book ?tm_Book ?n_Book_parents ?n_Book_bits ?k_MOST_KINDS ?k_MOST_PARENTS ?a0 ?l0 ?c0 ?k0 ?a1 ?l1 ?c1 ?k1 ?a2 ?l2 ?c2 ?k2 ?a3 ?l3 ?c3 ?k3 ?a4 ?l4 ?c4 ?k4 ?a5 ?i5 ?l5 ?c5 ?k5 ?a6 ?i6 ?l6 ?c6 ?k6 ?a7 ?l7 ?c7 ?k7 ?a8 ?l8 ?c8 ?k8 ?a9 ?l9 ?c9 ?k9 ?a10 ?l10 ?c10 ?k10 ?a11 ?l11 ?c11 ?k11 ?a12 ?l12 ?c12 ?k12 ?a13 ?l13 ?c13 ?k13 ?a14 ?l14 ?c14 ?k14 ?a15 ?l15 ?c15 ?k15 ?a16 ?l16 ?c16 ?k16 ?a17 ?l17 ?c17 ?k17 ?a18 ?l18 ?c18 ?k18 ?a19 ?l19 ?c19 ?k19 ?a20 ?l20 ?c20 ?k20 ?a21 ?l21 ?c21 ?k21 ?a22 ?l22 ?c22 ?k22 ?a23 ?l23 ?c23 ?k23 ?a24 ?l24 ?c24 ?k24 ?a25 ?l25 ?c25 ?k25 ?a26 ?l26 ?c26 ?k26 ?a27 ?l27 ?c27 ?k27 ?a28 ?l28 ?c28 ?k28 ?a29 ?l29 ?c29 ?k29 ?a30 ?l30 ?c30 ?k30 ?a31 ?l31 ?c31 ?k31 ?a32 ?l32 ?c32 ?k32 ?a33 ?l33 ?c33 ?k33 ?a34 ?l34 ?c34 ?k34 ?a35 ?l35 ?c35 ?k35 ?a36 ?l36 ?c36 ?k36 ?a37 ?l37 ?c37 ?k37 ?a38 ?l38 ?c38 ?k38 ?a39 ?l39 ?c39 ?k39 ?a40 ?l40 ?c40 ?k40 ?a41 ?l41 ?c41 ?k41 ?z_abs ?z_all ?z_any ?z_bool ?z_enumerate ?z_int ?z_isinstance ?z_len ?z_list ?z_max ?z_range ?z_set ?z_sorted ?z_tuple ?z_zip
    (case gc_Book => k_is)
    (case pg_Book => k_is)
    (case hd_Book => k_is)
    (case po_Book => k_is)
    (case sa_Book => k_is)
    (case mk_Book => k_is)
    (case kc_Book => k_is)
    (case ta_Book => k_is)
    (case tn_Book => k_is)
    (case tt_Book => k_is)
    (case tm_Book => k_is)
    (case n_Book_parents => k_is)
    (case n_Book_bits => k_is)
    (case a0 => k_is)
    (case l0 => k_is)
    (case c0 => k_is)
    (case k0 => k_is)
    (case a1 => k_is)
    (case l1 => k_is)
    (case c1 => k_is)
    (case k1 => k_is)
    (case a2 => k_is)
    (case l2 => k_is)
    (case c2 => k_is)
    (case k2 => k_is)
    (case a3 => k_is)
    (case l3 => k_is)
    (case c3 => k_is)
    (case k3 => k_is)
    (case a4 => k_is)
    (case l4 => k_is)
    (case c4 => k_is)
    (case k4 => k_is)
    (case a5 => k_is)
    (case i5 => k_is)
    (case l5 => k_is)
    (case c5 => k_is)
    (case k5 => k_is)
    (case a6 => k_is)
    (case i6 => k_is)
    (case l6 => k_is)
    (case c6 => k_is)
    (case k6 => k_is)
    (case a7 => k_is)
    (case l7 => k_is)
    (case c7 => k_is)
    (case k7 => k_is)
    (case a8 => k_is)
    (case l8 => k_is)
    (case c8 => k_is)
    (case k8 => k_is)
    (case a9 => k_is)
    (case l9 => k_is)
    (case c9 => k_is)
    (case k9 => k_is)
    (case a10 => k_is)
    (case l10 => k_is)
    (case c10 => k_is)
    (case k10 => k_is)
    (case a11 => k_is)
    (case l11 => k_is)
    (case c11 => k_is)
    (case k11 => k_is)
    (case a12 => k_is)
    (case l12 => k_is)
    (case c12 => k_is)
    (case k12 => k_is)
    (case a13 => k_is)
    (case l13 => k_is)
    (case c13 => k_is)
    (case k13 => k_is)
    (case a14 => k_is)
    (case l14 => k_is)
    (case c14 => k_is)
    (case k14 => k_is)
    (case a15 => k_is)
    (case l15 => k_is)
    (case c15 => k_is)
    (case k15 => k_is)
    (case a16 => k_is)
    (case l16 => k_is)
    (case c16 => k_is)
    (case k16 => k_is)
    (case a17 => k_is)
    (case l17 => k_is)
    (case c17 => k_is)
    (case k17 => k_is)
    (case a18 => k_is)
    (case l18 => k_is)
    (case c18 => k_is)
    (case k18 => k_is)
    (case a19 => k_is)
    (case l19 => k_is)
    (case c19 => k_is)
    (case k19 => k_is)
    (case a20 => k_is)
    (case l20 => k_is)
    (case c20 => k_is)
    (case k20 => k_is)
    (case a21 => k_is)
    (case l21 => k_is)
    (case c21 => k_is)
    (case k21 => k_is)
    (case a22 => k_is)
    (case l22 => k_is)
    (case c22 => k_is)
    (case k22 => k_is)
    (case a23 => k_is)
    (case l23 => k_is)
    (case c23 => k_is)
    (case k23 => k_is)
    (case a24 => k_is)
    (case l24 => k_is)
    (case c24 => k_is)
    (case k24 => k_is)
    (case a25 => k_is)
    (case l25 => k_is)
    (case c25 => k_is)
    (case k25 => k_is)
    (case a26 => k_is)
    (case l26 => k_is)
    (case c26 => k_is)
    (case k26 => k_is)
    (case a27 => k_is)
    (case l27 => k_is)
    (case c27 => k_is)
    (case k27 => k_is)
    (case a28 => k_is)
    (case l28 => k_is)
    (case c28 => k_is)
    (case k28 => k_is)
    (case a29 => k_is)
    (case l29 => k_is)
    (case c29 => k_is)
    (case k29 => k_is)
    (case a30 => k_is)
    (case l30 => k_is)
    (case c30 => k_is)
    (case k30 => k_is)
    (case a31 => k_is)
    (case l31 => k_is)
    (case c31 => k_is)
    (case k31 => k_is)
    (case a32 => k_is)
    (case l32 => k_is)
    (case c32 => k_is)
    (case k32 => k_is)
    (case a33 => k_is)
    (case l33 => k_is)
    (case c33 => k_is)
    (case k33 => k_is)
    (case a34 => k_is)
    (case l34 => k_is)
    (case c34 => k_is)
    (case k34 => k_is)
    (case a35 => k_is)
    (case l35 => k_is)
    (case c35 => k_is)
    (case k35 => k_is)
    (case a36 => k_is)
    (case l36 => k_is)
    (case c36 => k_is)
    (case k36 => k_is)
    (case a37 => k_is)
    (case l37 => k_is)
    (case c37 => k_is)
    (case k37 => k_is)
    (case a38 => k_is)
    (case l38 => k_is)
    (case c38 => k_is)
    (case k38 => k_is)
    (case a39 => k_is)
    (case l39 => k_is)
    (case c39 => k_is)
    (case k39 => k_is)
    (case a40 => k_is)
    (case l40 => k_is)
    (case c40 => k_is)
    (case k40 => k_is)
    (case a41 => k_is)
    (case l41 => k_is)
    (case c41 => k_is)
    (case k41 => k_is)
    (case k_MOST_KINDS => k_is)
    (case k_MOST_PARENTS => k_is)
    (case z_abs => k_is)
    (case z_all => k_is)
    (case z_any => k_is)
    (case z_bool => k_is)
    (case z_enumerate => k_is)
    (case z_int => k_is)
    (case z_isinstance => k_is)
    (case z_len => k_is)
    (case z_list => k_is)
    (case z_max => k_is)
    (case z_range => k_is)
    (case z_set => k_is)
    (case z_sorted => k_is)
    (case z_tuple => k_is)
    (case z_zip => k_is)
#print axioms PySem.Challenge.cw_latekinds_k17_whole_no_scheme_with_two_s_holds
