import PyProof.Rows.All
import Wide.All
import OpenK.AllK
import Wide.FinOn
import HandS.ForMost
import HandS.IsInst
import HandS.Rev
import HandS.Wide
import HandS.SortInts
import HandS.TupAny
import HandS.Codes
import HandS.SetFor
import HandS.Strs
import HandS.Zip
import HandS.Conv
import HandS.OwnEq
import HandS.TupMul
import HandS.Text
import HandS.WideBits
import KE.BitLaws
import KE.KDictList
import KE.GoesEnum
import HandS.Style
import HandS.ForExc
import HandS.ExcInit
import HandS.Nested
import HandS.ExcIs
import HandS.ExcField
import HandS.DictComp
import KE.KExcSuper
import KE.RegKSuper
import KE.RegKTryMore
import KE.RegKIsAll
import KE.Datum
import KE.KIndexOf
import KE.SortData
import PySem.Challenge.RW_latekinds_k59_whole_kinds_that_quarrel
set_option Elab.async false
set_option linter.all false
set_option maxRecDepth 100000
set_option maxHeartbeats 4000000
namespace Lk
open PySem L2
def top (i : Nat) : Stmt := PySem.Challenge.pw_latekinds_k59_whole_kinds_that_quarrel.main.body.getD i (.Pass ⟨0, 0, 0, 0⟩)
abbrev s_NoOrder___init__ : Stmt := inClass (top 3) 0
abbrev s_NoFields___init__ : Stmt := inClass (top 4) 0
abbrev s_is_integer : Stmt := top 6
abbrev s_is_within : Stmt := top 7
abbrev s_is_lot : Stmt := top 8
abbrev s_are_all : Stmt := top 9
abbrev s_are_parents : Stmt := top 13
abbrev s_Book_fill : Stmt := inClass (top 14) 1
abbrev s_Book___init__ : Stmt := inClass (top 14) 0
abbrev s_book_of : Stmt := top 15
abbrev s_many_of : Stmt := top 16
abbrev s_is_one : Stmt := top 17
abbrev s_are_apart : Stmt := top 18
abbrev s_forebears_of : Stmt := top 19
abbrev s_reordered : Stmt := top 20
abbrev s_check_fields : Stmt := top 23
abbrev s_heirs_bits : Stmt := top 24
abbrev s_all_quarrels : Stmt := top 25
abbrev s_quarrels : Stmt := top 26
abbrev s__law_hand : Stmt := top 28
abbrev s__law_draw : Stmt := top 29
abbrev s__law_is : Stmt := top 30
abbrev s__law_parents : Stmt := top 31
abbrev s__law_sheet : Stmt := top 32
abbrev s__law_lots : Stmt := top 33
abbrev s__law_brought : Stmt := top 34
abbrev s__law_pairs : Stmt := top 35
abbrev s__law_graph : Stmt := top 36
abbrev s__law_order : Stmt := top 37
abbrev s_law : Stmt := top 38
/-! ### what is kept -/
theorem Same.at {H H' : Hp} {a : Addr} {o : HO} (e : Same H H') (h : H a = some o) : H' a = some o := e a o h
theorem Same.new {H H' : Hp} {p : Addr} {o : HO} (e : Same H H') (h : H' p = none) : Same H (upd H' p o) := fun b u z => by
  have z2 := e b u z
  rw [upd_ne (ne_of_none z2 h)]
  exact z2
theorem Same.mut {H H' : Hp} {p : Addr} {o : HO} (e : Same H H') (h : H p = none) : Same H (upd H' p o) := fun b u z => by
  rw [upd_ne (ne_of_none z h)]
  exact e b u z
theorem upd_at {H : Hp} {p a : Addr} {o u : HO} (n : a ≠ p) (h : H a = some u) : upd H p o a = some u := by
  rw [upd_ne n]
  exact h
theorem upd_at' {H : Hp} {p a : Addr} {o u : HO} (h : H a = some u) (n : a ≠ p) : upd H p o a = some u := upd_at n h
/-- the readings of len, list(..), tuple(..) by name -/
def rLenQ (K : PySem.W.Frag) : List V → Hp → VK → Prop := fun xs H Q => ∃ p ys, xs = [.ref p] ∧ (SqL K H p ys ∨ SqT K H p ys) ∧ Q (.int ys.length) H
def rListQ (K : PySem.W.Frag) : List V → Hp → VK → Prop := fun xs H Q => ∃ p ys, xs = [.ref p] ∧ (SqL K H p ys ∨ SqT K H p ys) ∧ ∀ l, H l = none → Q (.ref l) (upd H l (.lst ys))
def rTupQ (K : PySem.W.Frag) : List V → Hp → VK → Prop := fun xs H Q => ∃ p ys, xs = [.ref p] ∧ ((SqL K H p ys ∧ ∀ l, H l = none → Q (.ref l) (upd H l (.tup ys))) ∨ (SqT K H p ys ∧ Q (.ref p) H))
/-- new in H -/
structure Nw (H : Hp) (p : Addr) : Prop where
  e : H p = none
theorem Nw.ne {H : Hp} {a p : Addr} {o : HO} (w : Nw H p) (h : H a = some o) : a ≠ p := ne_of_none h w.e
/-- a tape: its address, its list's, the list -/
structure Tp where
  t : Addr
  l : Addr
  ns : List Int
structure Tape (τ : Tp) (H : Hp) : Prop where
  list : H τ.l = some (.lst (τ.ns.map V.int))
  ne : τ.l ≠ τ.t
  here : ∃ i c s n : Int, H τ.t = some (.lst [.ref τ.l, .int i, .int c, .int s, .int n]) ∧ 0 ≤ i
/-- all but the tape is kept, the tape is a tape -/
structure Mv (τ : Tp) (H0 H : Hp) : Prop where
  was : Tape τ H0
  keep : ∀ a o, a ≠ τ.t → H0 a = some o → H a = some o
  now : Tape τ H
structure Mz (τ : Tp) (H0 H : Hp) : Prop where
  mv : Mv τ H0 H
section
variable {τ : Tp} {H0 H H1 H2 : Hp} {p a : Addr} {o : HO}
theorem Tape.mv (h : Tape τ H) : Mv τ H H := ⟨h, fun _ _ _ e => e, h⟩
theorem Tape.mz (h : Tape τ H) : Mz τ H H := ⟨h.mv⟩
theorem Mv.self (m : Mv τ H0 H) : Mv τ H H := m.now.mv
theorem Mv.trans (m : Mv τ H0 H1) (k : Mv τ H1 H2) : Mv τ H0 H2 := ⟨m.was, fun a o n e => k.keep a o n (m.keep a o n e), k.now⟩
theorem Mz.trans (m : Mz τ H0 H1) (k : Mv τ H1 H2) : Mz τ H0 H2 := ⟨m.mv.trans k⟩
theorem Tape.new (h : Tape τ H) (n : H p = none) : Tape τ (upd H p o) := by
  obtain ⟨h1, h2, i, c, s, k, h3, h4⟩ := h
  exact ⟨upd_at (ne_of_none h1 n) h1, h2, i, c, s, k, upd_at (ne_of_none h3 n) h3, h4⟩
theorem Mv.new (m : Mv τ H0 H) (n : H p = none) : Mv τ H0 (upd H p o) := ⟨m.was, fun a u e z => upd_at (ne_of_none (m.keep a u e z) n) (m.keep a u e z), m.now.new n⟩
theorem Mz.new (m : Mz τ H0 H) (n : H p = none) : Mz τ H0 (upd H p o) := ⟨m.mv.new n⟩
theorem Mv.neF (m : Mv τ H0 H) (n : H0 p = none) : p ≠ τ.t := fun e => by
  obtain ⟨_, _, _, _, h, _⟩ := m.was.here
  rw [e, h] at n
  cases n
theorem Mv.neN (m : Mv τ H0 H) (n : H p = none) : p ≠ τ.t := fun e => by
  obtain ⟨_, _, _, _, h, _⟩ := m.now.here
  rw [e, h] at n
  cases n
theorem Mv.mut (m : Mv τ H0 H) (n : H0 p = none) : Mv τ H0 (upd H p o) := by
  obtain ⟨i, c, s, k, h3, h4⟩ := m.now.here
  have n1 : τ.l ≠ p := ne_of_none m.was.list n
  exact ⟨m.was, fun a u e z => upd_at (ne_of_none z n) (m.keep a u e z), upd_at n1 m.now.list, m.now.ne, i, c, s, k, upd_at (m.neF n).symm h3, h4⟩
theorem Mz.mut (m : Mz τ H0 H) (n : H0 p = none) : Mz τ H0 (upd H p o) := ⟨m.mv.mut n⟩
theorem Mv.free (m : Mv τ H0 H) (n : H p = none) : H0 p = none := by
  cases e : H0 p with
  | none => rfl
  | some o =>
    by_cases z : p = τ.t
    · obtain ⟨_, _, _, _, h, _⟩ := m.now.here
      rw [z, h] at n
      cases n
    · rw [m.keep p o z e] at n
      cases n
theorem Mz.free (m : Mz τ H0 H) (n : H p = none) : H0 p = none := m.mv.free n
theorem Mv.at (m : Mv τ H0 H) (n : a ≠ τ.t) (h : H0 a = some o) : H a = some o := m.keep a o n h
theorem Mv.at' (m : Mv τ H0 H) (h : H0 a = some o) (n : a ≠ τ.t) : H a = some o := m.keep a o n h
theorem Mz.at (m : Mz τ H0 H) (n : a ≠ τ.t) (h : H0 a = some o) : H a = some o := m.mv.keep a o n h
theorem Mv.neT {xs : List V} (m : Mv τ H0 H) (h : H a = some (.tup xs)) : a ≠ τ.t := fun e => by
  obtain ⟨_, _, _, _, z, _⟩ := m.now.here
  rw [e, z] at h
  cases h
theorem Mv.neT0 {xs : List V} (m : Mv τ H0 H) (h : H0 a = some (.tup xs)) : a ≠ τ.t := m.was.mv.neT h
theorem Mv.atT {xs : List V} (m : Mv τ H0 H) (h : H0 a = some (.tup xs)) : H a = some (.tup xs) := m.keep a _ (m.neT0 h) h
theorem Tape.same (h : Tape τ H) (s : Same H H1) : Tape τ H1 := by
  obtain ⟨h1, h2, i, c, s', k, h3, h4⟩ := h
  exact ⟨s _ _ h1, h2, i, c, s', k, s _ _ h3, h4⟩
theorem Mv.same (m : Mv τ H0 H) (s : Same H H1) : Mv τ H0 H1 := by
  obtain ⟨h1, h2, i, c, s', k, h3, h4⟩ := m.now
  exact ⟨m.was, fun a o e z => s a o (m.keep a o e z), s _ _ h1, h2, i, c, s', k, s _ _ h3, h4⟩
theorem Mz.same (m : Mz τ H0 H) (s : Same H H1) : Mz τ H0 H1 := ⟨m.mv.same s⟩
end
theorem iteD {c A B : Prop} [Decidable c] (h1 : c → A) (h2 : ¬ c → B) : if decide c = true then A else B := by
  by_cases h : c
  · rw [decide_eq_true h]
    exact iteT (h1 h)
  · rw [decide_eq_false h]
    exact iteF (h2 h)
theorem iteDY {c A B : Prop} [Decidable c] (h : c) (h1 : A) : if decide c = true then A else B := by
  rw [decide_eq_true h]
  exact iteT h1
theorem iteDN {c A B : Prop} [Decidable c] (h : ¬ c) (h1 : B) : if decide c = true then A else B := by
  rw [decide_eq_false h]
  exact iteF h1
theorem iteET {b : Bool} {A B : Prop} (h : b = true) (k : A) : if b = true then A else B := by
  rw [h]
  exact iteT k
theorem iteEF {b : Bool} {A B : Prop} (h : b = false) (k : B) : if b = true then A else B := by
  rw [h]
  exact iteF k
theorem iteB {b : Bool} {A B : Prop} (h1 : b = true → A) (h2 : b = false → B) : if b = true then A else B := by
  cases b with
  | true => exact iteT (h1 rfl)
  | false => exact iteF (h2 rfl)
theorem fmod_in {x m : Int} (h : 0 < m) : 0 ≤ x.fmod m ∧ x.fmod m < m := by
  rw [Int.fmod_eq_emod_of_nonneg x (Int.le_of_lt h)]
  exact ⟨Int.emod_nonneg x (by omega), Int.emod_lt_of_pos x h⟩
theorem Mv.put {τ : Tp} {H0 H : Hp} (m : Mv τ H0 H) {xs : List V} {i c s n : Int} (e : xs = [.ref τ.l, .int i, .int c, .int s, .int n]) (h : 0 ≤ i) : Mv τ H0 (upd H τ.t (.lst xs)) := by
  subst e
  exact ⟨m.was, fun a o k z => upd_at k (m.keep a o k z), upd_at m.now.ne m.now.list, m.now.ne, i, c, s, n, upd_same, h⟩
theorem le_lineB {n : Nat} (h : Nat.ble n 100000 = true) : n ≤ sizeLine := Nat.le_trans (Nat.le_of_ble_eq_true h) (by decide)
theorem fmod64 {x m : Int} (h : 0 < m) (h2 : m ≤ 2 ^ 64) : -(2 ^ 64) < x.fmod m ∧ x.fmod m < 2 ^ 64 := by
  have q := fmod_in (x := x) h
  omega
theorem at_ints {ns : List Int} {i : Int} (h0 : 0 ≤ i) (h : i < ((ns.map V.int).length : Int)) : ∃ v : Int, atI (ns.map V.int) i = some (.int v) := by
  rw [List.length_map] at h
  have hj : i.toNat < ns.length := by omega
  refine ⟨ns[i.toNat], at_of (j := i.toNat) (by omega) ?_⟩
  rw [List.getElem?_map, List.getElem?_eq_getElem hj]
  rfl
theorem dec_int {a b : Int} : decide (V.int a = V.int b) = decide (a = b) := by
  by_cases h : a = b
  · rw [decide_eq_true h, h, decide_eq_true rfl]
  · rw [decide_eq_false h, decide_eq_false fun e => h (V.int.inj e)]
theorem dec_nat {a b : Nat} : decide (V.int (a : Int) = V.int (b : Int)) = decide (a = b) := by
  rw [dec_int]
  exact decide_eq_decide.mpr Int.ofNat_inj
theorem iteI {a b : Int} {A B : Prop} (h1 : a = b → A) (h2 : ¬ a = b → B) : if decide (V.int a = V.int b) = true then A else B := by
  rw [dec_int]
  exact iteD h1 h2
/-! ### kinds of things -/
def isIntB : V → Bool
  | .int _ => true
  | _ => false
def withinB (v : V) (lo hi : Int) : Bool := match v with
  | .int i => decide (lo ≤ i) && decide (i ≤ hi)
  | _ => false
structure IntK (K : PySem.W.Frag) (H : Hp) (v : V) : Prop where
  ex : ∃ (t : Value) (bi bb : Bool), TyX K H v t ∧ PySem.W.kitOne K t (.type "int") = some bi ∧ PySem.W.kitOne K t (.type "bool") = some bb ∧ (bi && !bb) = isIntB v
section
variable {K : PySem.W.Frag} {H : Hp}
theorem IntK.int (i : Int) : IntK K H (.int i) := ⟨_, true, false, .base (.int i), kit_ty (by decide +kernel), kit_ty (by decide +kernel), rfl⟩
theorem IntK.bl (b : Bool) : IntK K H (.bl b) := ⟨_, true, true, .base (.bl b), kit_ty (by decide +kernel), kit_ty (by decide +kernel), rfl⟩
theorem IntK.non : IntK K H .non := ⟨_, false, false, .base .non, kit_ty (by decide +kernel), kit_ty (by decide +kernel), rfl⟩
theorem IntK.str (s : Str) : IntK K H (.str s) := ⟨_, false, false, .base (.str s), kit_ty (by decide +kernel), kit_ty (by decide +kernel), rfl⟩
theorem IntK.tup {a : Addr} {xs : List V} (h : H a = some (.tup xs)) : IntK K H (.ref a) := ⟨_, false, false, .base (.tup h), kit_ty (by decide +kernel), kit_ty (by decide +kernel), rfl⟩
theorem IntK.lst {a : Addr} {xs : List V} (h : H a = some (.lst xs)) : IntK K H (.ref a) := ⟨_, false, false, .base (.lst h), kit_ty (by decide +kernel), kit_ty (by decide +kernel), rfl⟩
theorem IntK.dK {a : Addr} {xs : List (Key × V)} (h : H a = some (.dK xs)) : IntK K H (.ref a) := ⟨_, false, false, .base (.dK h), kit_ty (by decide +kernel), kit_ty (by decide +kernel), rfl⟩
theorem ty_tup {a : Addr} {xs : List V} (h : H a = some (.tup xs)) : TyX K H (.ref a) (.type "tuple") := .base (.tup h)
theorem ty_int (i : Int) : TyX K H (.int i) (.type "int") := .base (.int i)
theorem ty_bl (b : Bool) : TyX K H (.bl b) (.type "bool") := .base (.bl b)
theorem tup_tup : PySem.W.kitOne K (.type "tuple") (.type "tuple") = some true := kit_ty (by decide +kernel)
theorem int_tup : PySem.W.kitOne K (.type "int") (.type "tuple") = some false := kit_ty (by decide +kernel)
theorem int_int : PySem.W.kitOne K (.type "int") (.type "int") = some true := kit_ty (by decide +kernel)
theorem int_bool : PySem.W.kitOne K (.type "int") (.type "bool") = some false := kit_ty (by decide +kernel)
theorem bool_bool : PySem.W.kitOne K (.type "bool") (.type "bool") = some true := kit_ty (by decide +kernel)
end
/-- tuples stay -/
def TK (H H' : Hp) : Prop := ∀ a xs, H a = some (.tup xs) → H' a = some (.tup xs)
theorem Same.tk {H H' : Hp} (s : Same H H') : TK H H' := fun a _ h => s a _ h
theorem Mv.tk {τ : Tp} {H H' : Hp} (m : Mv τ H H') : TK H H' := fun a _ h => m.keep a _ (m.neT0 h) h
theorem TK.trans {H H1 H2 : Hp} (a : TK H H1) (b : TK H1 H2) : TK H H2 := fun x xs h => b x xs (a x xs h)
theorem TK.mut {H : Hp} {p : Addr} {o : HO} {ys : List V} (h : H p = some (.lst ys)) : TK H (upd H p o) := fun a xs e => upd_at (ne_of e h (by intro z; cases z)) e
theorem TK.new {H : Hp} {p : Addr} {o : HO} (h : H p = none) : TK H (upd H p o) := fun a xs e => upd_at (ne_of_none e h) e
/-! ### len(set(a tuple of whole numbers)); list(reversed(a list)) -/
section
open PySem.Spec PyProof.Rows
variable {X : Cx}
def tLenSetU (K : PySem.W.Frag) (ta : TE) : TE := fun σ H Q => ta σ H fun x H1 => ∃ (l : Addr) (ns : List Int), x = .ref l ∧ SqT K H1 l (ns.map V.int) ∧ ns.length ≤ 4000 ∧ ∀ ks : List Int, ks.Nodup → (∀ k, k ∈ ks ↔ k ∈ ns) → Q (.int (ks.length : Nat)) H1
theorem pe_lenSetU {a : Expr} {ta : TE} {p p2 q pos : Pos} (hg : Gl X "len") (hm : X.mg "len" = none) (hg2 : Gl X "set") (hm2 : X.mg "set" = none) (ha : PE X a ta) (calm : X.calm = true := by rfl)
    (na : starEach [a] X.env = (false, eval a X.env) :: starEach [] X.env := by rfl) : PE X (.Call (.Name "len" p) [.Call (.Name "set" p2) [a] [] q] [] pos) (tLenSetU X.K ta) := by
  constructor
  intro pins s σ H Q I h
  refine Call_ (ld_blt I hg hm boot_len (PyProof.Rows.callWith_builtin1 (PyProof.Rows.args_cons ?_ rfl) rfl rfl))
  refine Call_ (ld_blt I hg2 hm2 PyProof.Rows.boot_set (PyProof.Rows.callWith_type1 (PyProof.Rows.args_cons (thn (ha.run pins s σ H _ I h) fun v s1 ⟨x, H1, I1, r1, q1⟩ => PyProof.Rows.args_nil ?_) na) na rfl))
  obtain ⟨l, ns, ex, hq, hl, done⟩ := q1
  subst ex
  obtain rfl : v = Value.ref l := r1
  obtain ⟨its, rv, pt, hz⟩ := I1.tuple hq
  have hi : PyProof.Rows.IntsAre its.toArray.toList ns := by simpa using ints_of_vals rv
  refine call_set_tupI ns (I1.ok.hd calm) (show s1.heap.IsTuple l its.toArray from pt) hi (by unfold scanBound; omega) fun h' tk c R1 hcn kp => PyProof.Rows.args_nil ?_
  obtain ⟨o, es, ep, t, ho, hex, hdt, g, nd, mem, hb, hf, hn, hr, hl2⟩ := R1
  have I2 : Inv X pins σ H1 { s1 with heap := h', toks := tk } := I1.kept kp
  have le : (es.toList.map keyOf).length = es.size := by rw [List.length_map, Array.length_toList]
  refine call_len_set ho hex hdt hf (by omega) ⟨.int es.size, H1, I2.tok _, ⟨_, rfl⟩, ?_⟩
  rw [← le]
  exact done _ nd fun k => by rw [← mem k, decide_eq_true_eq]
end
/-! ### set(a list of whole numbers) -/
section
open PySem.Spec PyProof.Rows PySem.Calls
variable {P : Program} {w : World} {A : Around} {E : Value → Shared → Prop} {s : Shared}
set_option maxHeartbeats 4000000 in
theorem call_set_listR {l : Addr} {items : Array Value} (ns : List Int) {Q : Value → Shared → Prop} (hh : A.handled = none) (hl : s.heap.IsList l items) (hit : IntsAre items.toList ns) (hb : ns.length + 1 < scanBound)
    (h : ∀ (h' : Heap) (tk c : Nat), SetR w h' s.heap.objs.size (fun j => decide (j ∈ ns)) c → c ≤ ns.length → (∀ b o, s.heap.get? b = some o → h'.get? b = some o) → Q (.ref s.heap.objs.size) { s with heap := h', toks := tk }) :
    wpAny (model P w) A (call (.type "set") [.ref l]) Q E s := by
  have hisz : items.size = ns.length := by
    have q := IntsAre.length hit
    rw [Array.length_toList] at q
    exact q
  obtain ⟨c, tl, hmro⟩ := F.called_set.mro
  have hmade := F.called_set.made
  have hsub := F.called_set.sub
  refine wpAny_call (codeAny_of_tree ?_)
  show wpAny _ _ (callAny (.type "set") _) _ _ _
  refine wpAny_pure ⟨Code.quiet_builtin _ (by decide +kernel), codeAny_builtin F.entry_type_call ?_⟩
  rw [Around.under_plain (weight_type_call_type "set" [.ref l] []) rfl]
  have h1 := F.called_set.notType
  have h2 := F.called_set.canCreate
  have hct := F.typeCall_set_1 (.ref l)
  repeat (any_goals (first | assumption | wp_step))
  refine codeAny_mono (code_set_led1 (.ref l) (E := E) (Q₁ := fun obj s₁ => obj = .ref s.heap.objs.size ∧ s₁ = { s with heap := s.heap.push { cls := .type "set", dict := none, data := .set #[] 0 (.fresh 0 0 (!w.params.followText "set-order")) } }) ⟨rfl, rfl⟩) fun r s₁ hr => ?_
  cases r with
  | error e => exact hr
  | ok fl =>
    cases fl with
    | ret obj =>
      obtain ⟨rfl, rfl⟩ := hr
      have hS : (s.heap.push { cls := .type "set", dict := none, data := .set #[] 0 (.fresh 0 0 (!w.params.followText "set-order")) }).get? s.heap.objs.size = some { cls := .type "set", dict := none, data := .set #[] 0 (.fresh 0 0 (!w.params.followText "set-order")) } := Heap.get?_push_size _ rfl
      have hT : Shared.TypeIs { s with heap := s.heap.push { cls := .type "set", dict := none, data := .set #[] 0 (.fresh 0 0 (!w.params.followText "set-order")) } } (.ref s.heap.objs.size) "set" := ⟨_, hS, rfl⟩
      have hli := F.called_set.init.lookup
      have hbi := F.called_set.init.bind (.ref s.heap.objs.size)
      repeat (any_goals (first | assumption | wp_step))
      refine codeAny_mono (codeAny_call_builtin (R := wants (fun r s₂ => r = .none ∧ ∃ h' tk c, s₂ = { s with heap := h', toks := tk } ∧ SetR w h' s.heap.objs.size (fun j => decide (j ∈ ns)) c ∧ c ≤ ns.length ∧
          (∀ b o, s.heap.get? b = some o → h'.get? b = some o)) E) F.called_set.init.plain F.entry_set_init (check_set_init_1 hT ?_)) fun r₂ s₂ hr₂ => ?_
      · obtain ⟨ol, hol, hcl, nl, hdl⟩ := hl
        obtain ⟨ocls, odict, odata, oslots⟩ := ol
        simp only at hcl hdl
        subst hcl; subst hdl
        have hol' : (s.heap.push { cls := .type "set", dict := none, data := .set #[] 0 (.fresh 0 0 (!w.params.followText "set-order")) }).get? l = some { cls := .type "list", dict := odict, data := .seq items nl, slots := oslots } := Heap.get?_push_of_some _ hol
        have hsls := F.sub_list_set
        have hslf := F.sub_list_frozenset
        have hne : (Value.type "list" == Value.type "dict") = false := by decide
        have hl1 : (s.heap.push { cls := .type "set", dict := none, data := .set #[] 0 (.fresh 0 0 (!w.params.followText "set-order")) }).IsList l items := ⟨_, hol', rfl, nl, rfl⟩
        unfold Builtin.«set.__init__» noKeywords Builtin.Frozenset.updateFrom
        generalize hPI : pyIter = PI
        wp_walk
        subst hPI
        refine wpAny_pyIter_list hl1 ?_
        refine wpAny_bind (wpAny_runValue ?_)
        have hlS : l < s.heap.objs.size := Heap.lt_size hol
        have hh3 : A.in1.in1.in1.handled = none := by simp [hh]
        have hz1 : (s.heap.push { cls := .type "set", dict := none, data := .set #[] 0 (.fresh 0 0 (!w.params.followText "set-order")) }).objs.size = s.heap.objs.size + 1 := Heap.size_push ..
        have hneI : l ≠ (s.heap.push { cls := .type "set", dict := none, data := .set #[] 0 (.fresh 0 0 (!w.params.followText "set-order")) }).objs.size := by
          rw [Heap.size_push]; exact Nat.ne_of_lt (Nat.lt_succ_of_lt hlS)
        have hSf : s.heap.objs.size ∉ [(s.heap.push { cls := .type "set", dict := none, data := .set #[] 0 (.fresh 0 0 (!w.params.followText "set-order")) }).objs.size, l] := by
          rw [Heap.size_push]; simp only [List.mem_cons, List.mem_singleton, List.not_mem_nil, or_false, not_or]
          exact ⟨Nat.ne_of_lt (Nat.lt_succ_self _), Nat.ne_of_gt hlS⟩
        have hval : ∀ (i : Nat) (v : Value), items[i]? = some v → ∃ k t, ns[i]? = some k ∧ v = .int k t := fun i v hv => by
          have hi : i < ns.length := by rw [← hisz]; exact (Array.getElem?_eq_some_iff.mp hv).1
          obtain ⟨t, e⟩ := PyProof.Rows.IntsAre.int_at hit i v (by rw [Array.getElem?_toList]; exact hv)
          refine ⟨ns[i], t, List.getElem?_eq_getElem hi, ?_⟩
          rw [e, List.getD_eq_getElem?_getD, List.getElem?_eq_getElem hi] <;> rfl
        refine set_update_ints ((Walks.list hh3 _ l hneI items).toS) s.heap.objs.size
          hSf ns hisz hb hval (items.size - 0) 0 _ (by omega) (Nat.zero_le _)
          ⟨⟨_, Heap.get?_push_size _ rfl, rfl, rfl⟩, (hl1.push _)⟩ ?hS0 ?hR
        case hS0 =>
          have hget : ((s.heap.push { cls := .type "set", dict := none, data := .set #[] 0 (.fresh 0 0 (!w.params.followText "set-order")) }).push { cls := .type "list_iterator", data := .fields #[.ref l, .int 0 0] }).get? s.heap.objs.size
              = some { cls := .type "set", dict := none, data := .set #[] 0 (.fresh 0 0 (!w.params.followText "set-order")) } := Heap.get?_push_of_some _ hS
          exact ⟨0, Nat.le_refl 0, setR_new_at hget⟩
        case hR =>
          intro s' c' hm hc' hS'
          obtain ⟨h', g2, d', tk', os'⟩ := s'
          have eg : g2 = s.gens := hm.gens
          have ed : d' = s.drawn := hm.drawn
          have eo : os' = s.os := hm.os
          subst eg; subst ed; subst eo
          show wpAny _ _ _ _ _ _
          refine wpAny_pure ?_
          show wpAny _ _ (ret Value.none) _ _ _
          rw [hisz] at hc'
          refine wpAny_pure ⟨rfl, h', tk', c', rfl, hS', hc', fun b o e => ?_⟩
          have hb0 : b < s.heap.objs.size := Heap.lt_size e
          have hb1 : b ≠ s.heap.objs.size := Nat.ne_of_lt hb0
          have hb2 : b ≠ (s.heap.push { cls := .type "set", dict := none, data := .set #[] 0 (.fresh 0 0 (!w.params.followText "set-order")) }).objs.size := by
            rw [Heap.size_push]; exact Nat.ne_of_lt (Nat.lt_succ_of_lt hb0)
          exact hm.heap b o (by simp only [List.mem_cons, List.mem_singleton, List.not_mem_nil, or_false, not_or]; exact ⟨hb1, hb2⟩) (Heap.get?_push_of_some _ (Heap.get?_push_of_some _ e))
      · cases r₂ with
        | error e => exact hr₂
        | ok fl₂ =>
          cases fl₂ with
          | ret r =>
            obtain ⟨rfl, h', tk, c', rfl, hS', hc', hk'⟩ := hr₂
            repeat (any_goals (first | assumption | wp_step))
            exact h _ _ _ hS' hc' hk'
          | _ => exact hr₂.elim
    | _ => exact hr.elim
variable {X : Cx}
def rSetL (w : World) (K : PySem.W.Frag) : List V → Hp → VK → Prop := fun xs H Q => ∃ (a : Addr) (ns : List Int), xs = [.ref a] ∧ SqL K H a (ns.map V.int) ∧ ns.length ≤ 4000 ∧ ∀ (p : Addr) (c : Nat), c ≤ ns.length → (∃ ks : List Int, ks.Nodup ∧ ks.length = c ∧ ∀ k, k ∈ ks ↔ k ∈ ns) → H p = none → Q (.ref p) (upd H p (SetO w p (fun j => decide (j ∈ ns)) c))
theorem cr_setL (hc : X.calm = true) : CallR X (.type "set") (rSetL X.w X.K) := by
  intro pins s σ H xs us Q I r h
  obtain ⟨a, ns, rfl, hq, hl, q⟩ := h
  rw [Vals.ref1 r]
  obtain ⟨its, rv, pl, hz⟩ := I.list hq
  refine call_set_listR ns (I.ok.hd hc) pl.isList (by simpa using ints_of_vals rv) (by unfold scanBound; omega) fun h' tk c R hc' k => ?_
  have nw : H s.heap.objs.size = none := I.hok.fresh (Nat.le_refl _)
  have kk : ∃ ks : List Int, ks.Nodup ∧ ks.length = c ∧ ∀ k, k ∈ ks ↔ k ∈ ns := by
    obtain ⟨o, es, ep, t, ho, hex, hd, g, nd, mem, hb, hf, hn, hr, hl2⟩ := R
    exact ⟨es.toList.map keyOf, nd, by rw [List.length_map, Array.length_toList]; exact hn, fun k => by rw [← mem k, decide_eq_true_eq]⟩
  exact ⟨.ref _, _, I.laid (t' := tk) k (Nat.le_refl _) (setO_new R), rfl, q _ c hc' kk nw⟩
end
/-! ### enumerate(a tuple) -/
section
open PySem.Spec PyProof.Rows PySem.Calls
set_option maxHeartbeats 4000000 in
theorem meets_enum1 {v : Value} {o : Obj} {HH : Heap → Prop} (B : Begins v o HH) :
    Meets (Builtin.«enumerate.__new__» ⟨[.type "enumerate", v], []⟩) (fun _ R s => HH s.heap ∧
      R (.ok (.ret (.ref (s.heap.push o).objs.size))) { s with heap := (s.heap.push o).push { cls := .type "enumerate", data := .fields #[.none, .bool false, .ref s.heap.objs.size, rawInt 0, .none, .none] } }) :=
  .of_wp fun prog w A R s both => by
    obtain ⟨hp, g, d, tk, os⟩ := s
    obtain ⟨h1, h⟩ := both
    have hsub := sub_enumerate
    have it1 : ∀ {A' : Around} {E : Value → Shared → Prop} {Q : Value → Shared → Prop}, Q (.ref hp.objs.size) ⟨hp.push o, g, d, tk, os⟩ → wpAny (model prog w) A' (pyIter v) Q E ⟨hp, g, d, tk, os⟩ := fun q => B.iter prog w _ _ ⟨hp, g, d, tk, os⟩ _ h1 q
    wp_walk using it1
    refine wpAny_stack_any fun st => wpAny_pure ?_
    split
    · rename_i c _ _ _ _ _
      cases (c == Value.type "enumerate") <;> (wp_walk using it1; exact ⟨_, rfl, h⟩)
    · wp_walk using it1
      exact ⟨_, rfl, h⟩
section
variable {prog : Program} {w : World} {A : Around} {E : Value → Shared → Prop} {s : Shared}
theorem call_enum1 {v : Value} {o : Obj} {HH : Heap → Prop} {Q : Value → Shared → Prop} (B : Begins v o HH) (h1 : HH s.heap)
    (fin : ∀ h', IsEnum h' (s.heap.objs.size + 1) s.heap.objs.size 0 .none → h'.get? s.heap.objs.size = some o → h'.objs.size = s.heap.objs.size + 2 → (∀ b u, s.heap.get? b = some u → h'.get? b = some u) → Q (.ref (s.heap.objs.size + 1)) { s with heap := h' }) :
    wpAny (model prog w) A (call (.type "enumerate") [v]) Q E s := by
  refine callType_new F.called_enumerate (by decide) (F.typeCall_enumerate_1 _) (F.newCall_enumerate_1 _) (fun obj => F.args_object_init_2 obj _) F.entry_enumerate_new (meets_enum1 B) ⟨h1, ?_⟩
  have hz : (s.heap.push o).objs.size = s.heap.objs.size + 1 := Heap.size_push ..
  show _ ∧ _
  rw [hz]
  have he : ((s.heap.push o).push { cls := .type "enumerate", data := .fields #[.none, .bool false, .ref s.heap.objs.size, rawInt 0, .none, .none] }).get? (s.heap.objs.size + 1) = some { cls := .type "enumerate", data := .fields #[.none, .bool false, .ref s.heap.objs.size, rawInt 0, .none, .none] } := by
    rw [← hz]
    exact Heap.get?_push_size (s.heap.push o) rfl
  exact ⟨⟨_, he, rfl⟩, fin _ he (Heap.get?_push_of_some _ (Heap.get?_push_size _ B.free)) (by rw [Heap.size_push, hz]) fun b u x => Heap.get?_push_of_some _ (Heap.get?_push_of_some _ x)⟩
end
/-- a tuple's iterator behind its end -/
theorem draws_end {prog : Program} {w : World} {A : Around} (calm : A.handled = none) (it t : Addr) (items : Array Value) (i : Nat) (hi : items[i]? = none) :
    Draws prog w A it [it, t] i (fun _ _ => True) (fun j h => j = i ∧ h.IsTupleIter it t j ∧ h.IsTuple t items) where
  live := fun _ _ st => let ⟨o, ho, _⟩ := st.2.1; ⟨o, ho⟩
  frame := fun _ _ _ st hk => ⟨st.1, st.2.1.at fun o e => hk it (by simp) o e, st.2.2.at fun o e => hk t (by simp) o e⟩
  item := fun j s Q E hj st _ => absurd st.1 (Nat.ne_of_lt hj)
  done := fun s Q E st hE => wpAny_nextOf_tuple_end calm st.2.1 st.2.2 hi hE
/-- the tuple at a, each item in a new pair -/
def IteT (K : PySem.W.Frag) (a : Addr) : It :=
  ⟨fun i H => ∃ (xs : List V) (x : V), SqT K H a xs ∧ xs[i]? = some x, fun i H v H' => ∃ T x, v = .ref T ∧ H T = none ∧ H' = upd H T (.tup [.int (i : Nat), x]) ∧ ∀ xs, SqT K H a xs → xs[i]? = some x, fun i H => ∃ xs : List V, SqT K H a xs ∧ xs.length ≤ i⟩
theorem turn_enumT {P : Program} {w : World} {K : PySem.W.Frag} {elts : List Expr} {kk : Nat} {tpos : Pos} (a e it : Addr) :
    Turn P w K (.Tuple elts kk tpos) (IteT K a) [e, it] e (fun i h => (∃ old, IsEnum h e it ((i : Nat) : Int) old) ∧ h.IsTupleIter it a i ∧ e ≠ it ∧ e ≠ a ∧ it ≠ a) where
  mem := by simp
  obj := fun i h st b hb => by
    obtain ⟨⟨old, he⟩, ⟨o, ho, hc, hd⟩, _⟩ := st
    rcases List.mem_cons.mp hb with z | z
    · subst z
      exact ⟨_, he, fun v q => nomatch q⟩
    · have z2 := List.mem_singleton.mp z
      subst z2
      exact ⟨o, ho, fun v q => by rw [hd] at q; cases q⟩
  keep := fun i h h' st k => let ⟨⟨old, he⟩, hi, hne⟩ := st; ⟨⟨old, k e (by simp) _ he⟩, hi.at fun o q => k it (by simp) o q, hne⟩
  item := by
    intro X hP hw hK calm i pins s σ H E I hf st hg
    subst hP hw hK
    obtain ⟨⟨old, he⟩, hit, n1, n2, n3⟩ := st
    obtain ⟨xs, x, hq, hx⟩ := hg
    obtain ⟨its, rv, p, hz⟩ := I.tuple hq
    obtain ⟨u, hu, ru⟩ := rv.get hx
    have hel : e < s.heap.objs.size := Heap.lt_size he
    have hil : it < s.heap.objs.size := by obtain ⟨_, q, _⟩ := hit; exact Heap.lt_size q
    have ilt : i < its.toArray.size := by rw [List.size_toArray]; exact (List.getElem?_eq_some_iff.mp hu).1
    have D := Draws.tuple (prog := X.prog) (w := X.w) (A := X.A.in1) (by simpa using I.ok.hd calm) it a (Ne.symm n3) its.toArray
    refine wpAny_pyNext_enum_itemD D he ⟨hit, p⟩ ilt n1 (by simp [n1, n2]) fun y h' tk hy ho hst hT hsz hk => ?_
    have ey : y = u := by
      have q : its[i]? = some y := by simpa using hy
      rw [hu] at q
      exact (Option.some.inj q).symm
    subst ey
    refine ⟨_, rfl, wpAny_letOwnedTupleGo_enum (s := { s with heap := h', toks := tk + 1 }) ho fun h2 he2 sb => ?_⟩
    have nT : h2.get? s.heap.objs.size = some { cls := .type "tuple", data := .seq #[.int i tk, y] } := (sb.2 _ (Nat.ne_of_gt hel)).trans hT
    have mk : ObjOk X.prog X.w (upd H s.heap.objs.size (.tup [.int (i : Nat), x])) h2 s.heap.objs.size (.tup [.int (i : Nat), x]) :=
      ⟨by show 2 ≤ sizeLine; decide, [.int i tk, y], .cons ⟨_, rfl⟩ (.cons ru .nil), ⟨_, nT, rfl, _, rfl⟩⟩
    have I1 : Inv X pins σ (upd H s.heap.objs.size (.tup [.int (i : Nat), x])) { s with heap := h2, toks := tk + 1 } :=
      I.turnedNew (ch := [e, it]) (fun b ob hb q => (sb.2 b (fun z => hb (by simp [z]))).trans (hk b ob (fun z => hb (by simp [z])) (fun z => hb (by simp [z])) q)) hf (Nat.le_refl _) mk
    refine ⟨.ref s.heap.objs.size, _, I1, rfl, ⟨_, x, rfl, I.hok.fresh (Nat.le_refl _), rfl, fun ys hy2 => by rw [I.tuple_inj hy2 hq]; exact hx⟩, ⟨⟨y, ?_⟩, hst.1.at fun o q => (sb.2 it (Ne.symm n1)).trans q, n1, n2, n3⟩, fun b hb => ?_⟩
    · rw [show ((i + 1 : Nat) : Int) = (i : Int) + 1 by omega]
      exact he2
    · have lt : b < s.heap.objs.size := by
        rcases List.mem_cons.mp hb with z | z
        · rw [z]; exact hel
        · rw [List.mem_singleton.mp z]; exact hil
      rw [upd_ne (Nat.ne_of_lt lt)]
      exact (hf b hb).1
  done := by
    intro X hP hw hK calm i pins s σ H E I hf st hg
    subst hP hw hK
    obtain ⟨⟨old, he⟩, hit, n1, n2, n3⟩ := st
    obtain ⟨xs, hq, hx⟩ := hg
    obtain ⟨its, rv, p, hz⟩ := I.tuple hq
    obtain ⟨f0, f1, f2, f3, f4, f5⟩ := hf it (by simp)
    have hl := rv.length
    have over : its.toArray[i]? = none := by simp; omega
    exact wpAny_pyNext_enum_endD (draws_end (by simpa using I.ok.hd calm) it a its.toArray i over) he ⟨rfl, hit, p⟩ fun h' eb => ⟨rfl, I.turned (t' := s.toks) (fun b o hb q => eb b o hb q) f0 f1 f3 f4 f5⟩
  self := fun A i s Q E st h => let ⟨⟨_, he⟩, _⟩ := st; wpAny_pyIter_enum he h
def iEnumT (K : PySem.W.Frag) (ta : TA) : TI := fun σ H R => ta σ H fun vs H1 => ∃ a xs, vs = [.ref a] ∧ SqT K H1 a xs ∧ R (IteT K a) H1
theorem pi_enumT {X : Cx} {e : Expr} {ta : TA} {p pos tpos : Pos} {elts : List Expr} {kk : Nat} (hg : Gl X "enumerate") (hm : X.mg "enumerate" = none) (ha : PA X [e] ta) (hs : starEach [e] X.env = [(false, eval e X.env)] := by rfl) :
    PI X (.Tuple elts kk tpos) (.Call (.Name "enumerate" p) [e] [] pos) (iEnumT X.K ta) := by
  constructor
  intro pins s σ H R I h
  refine Call_ (ld_blt I hg hm boot_enumerate (PyProof.Rows.callWith_type1 (thn (ha.run pos pins s σ H _ I h) fun us s1 ⟨vs, H1, I1, r1, q1⟩ => ?_) hs rfl))
  obtain ⟨a, xs, ex, hq, q⟩ := q1
  subst ex
  cases r1 with
  | cons r rr =>
    cases rr
    cases r
    obtain ⟨its, rv, tp, hz⟩ := I1.tuple hq
    have al : a < s1.heap.objs.size := by obtain ⟨_, q, _⟩ := tp; exact Heap.lt_size q
    refine call_enum1 (begins_tuple a its.toArray) (show s1.heap.IsTuple a its.toArray from tp) fun h' he hit hsz hk => wpAny_pyIter_enum he ?_
    have I2 : Inv X pins σ H1 { s1 with heap := h' } := I1.kept (t' := s1.toks) hk
    refine ⟨s1.heap.objs.size + 1, [s1.heap.objs.size + 1, s1.heap.objs.size], _, _, H1, rfl, I2, turn_enumT a (s1.heap.objs.size + 1) s1.heap.objs.size, ⟨⟨.none, he⟩, ⟨_, hit, rfl, rfl⟩, Nat.succ_ne_self _, Nat.ne_of_gt (Nat.lt_succ_of_lt al), Nat.ne_of_gt al⟩, fun b hb => ?_, q⟩
    have le : s1.heap.objs.size ≤ b := by
      rcases List.mem_cons.mp hb with z | z
      · rw [z]; exact Nat.le_add_right _ _
      · rw [List.mem_singleton.mp z]; exact Nat.le_refl _
    exact I1.fpOk le (I1.hok.fresh le)
theorem for_enumT {K : PySem.W.Frag} {a : Addr} {xs : List V} {g : TG} {tb : TS} {D : Ends} {σ : L2.St} {H : Hp} (Pv : Nat → L2.St → Hp → Prop) (h0 : Pv 0 σ H) (hq : ∀ i σ H, Pv i σ H → SqT K H a xs)
    (hs : ∀ (i : Nat) (x : V) (t : Addr) (σ : L2.St) (H : Hp), xs[i]? = some x → Pv i σ H → H t = none → g (.ref t) σ (upd H t (.tup [.int (i : Nat), x])) fun σ2 H2 => tb { D with nx := Pv (i + 1), ct := Pv (i + 1), bk := D.nx } σ2 H2)
    (hd : ∀ σ H, Pv xs.length σ H → D.nx σ H) : ∃ W : Nat → Nat → L2.St → Hp → Prop, (∃ m, W 0 m σ H) ∧ ∀ i m σ H, W i m σ H →
      ((IteT K a).stop i H ∧ D.nx σ H) ∨ ((IteT K a).go i H ∧ ∃ N : L2.St → Hp → Prop, (∀ σ' H', N σ' H' → ∃ m', m' < m ∧ W (i + 1) m' σ' H') ∧ ∀ v H', (IteT K a).yld i H v H' → g v σ H' fun σ2 H2 => tb { D with nx := N, ct := N, bk := D.nx } σ2 H2) := by
  refine ⟨fun i m σ H => m = xs.length - i ∧ i ≤ xs.length ∧ Pv i σ H, ⟨_, rfl, Nat.zero_le _, h0⟩, ?_⟩
  rintro i m σ H ⟨rfl, hi, p⟩
  have q := hq i σ H p
  by_cases lt : i < xs.length
  · refine .inr ⟨⟨xs, _, q, List.getElem?_eq_getElem lt⟩, Pv (i + 1), fun σ' H' p2 => ⟨_, by omega, rfl, lt, p2⟩, fun v H' y => ?_⟩
    obtain ⟨t, x, rfl, nt, rfl, f⟩ := y
    exact hs i x t σ H (f xs q) p nt
  · have e : i = xs.length := by omega
    subst e
    exact .inl ⟨⟨xs, q, Nat.le_refl _⟩, hd σ H p⟩
end
/-! ### x |= e -/
theorem ip_or {X : Cx} : PIp X .BitOr (ipI fun i j => Builtin.bitOr i j) := by
  intro pins s σ H x y v u Q I r1 r2 h
  exact iop_or pins s σ H x y v u Q I r1 r2 h
/-! ### comprehensions -/
theorem filterMap_range_succ {α : Type} (f : Nat → Option α) (n : Nat) : (List.range (n + 1)).filterMap f = (List.range n).filterMap f ++ (f n).toList := by
  rw [List.range_succ, List.filterMap_append]
  cases e : f n with
  | none => simp [e]
  | some v => simp [e]
theorem filterMap_range_len {α : Type} (f : Nat → Option α) (n : Nat) : ((List.range n).filterMap f).length ≤ n := by
  have h := List.length_filterMap_le f (List.range n)
  rw [List.length_range] at h
  exact h
theorem lt_line {n : Nat} (h : n ≤ 100000) : n < sizeLine := Nat.lt_of_le_of_lt h (by decide)
theorem lc_rangeF {lo : Int} {n : Nat} {g : TG} {tt : TT} {te : TE} {vs : List Nat} {σ : St} {H1 : Hp} {D : Addr} {Qd : Hp → Prop} (f : Nat → Option V) (nD : H1 D = none) (hn : n ≤ 100000)
    (hs : ∀ (i : Nat) (H : Hp) (N : V → Hp → Prop) (M : Hp → Prop), i < n → Same H1 H → (∀ v H4, f i = some v → Same H H4 → N v H4) → (∀ H4, f i = none → Same H H4 → M H4) → g (.int (lo + (i : Int))) (wipe σ vs) H fun σ2 H2 => wipe σ2 vs = wipe σ vs ∧ tt σ2 H2 fun b H3 => if b = true then te σ2 H3 N else M H3)
    (hd : ∀ H, Same H1 H → H D = some (.lst ((List.range n).filterMap f)) → Qd H) : ∃ W : Nat → Nat → Hp → Prop, (∃ m, W 0 m (upd H1 D (.lst []))) ∧ ∀ i m H, W i m H →
      ((Itr lo n).stop i H ∧ Qd H) ∨ ((Itr lo n).go i H ∧ ∃ Nx : Hp → Prop, (∀ H', Nx H' → ∃ m', m' < m ∧ W (i + 1) m' H') ∧ ∀ x H', (Itr lo n).yld i H x H' → g x (wipe σ vs) H' fun σ2 H2 => wipe σ2 vs = wipe σ vs ∧ tt σ2 H2 fun b H3 =>
        if b = true then te σ2 H3 fun y H4 => ∃ acc, H4 D = some (.lst acc) ∧ acc.length < sizeLine ∧ Nx (upd H4 D (.lst (acc ++ [y]))) else Nx H3) := by
  refine lc_range (lo := lo) (n := n) (fun i H => Same H1 H ∧ H D = some (.lst ((List.range i).filterMap f))) ⟨Same.new (Same.refl H1) nD, upd_same⟩ (fun i H hi p => ?_) (fun H p => hd H p.1 p.2)
  have il : i < n := hi
  have hz := filterMap_range_len f i
  refine hs i H _ _ hi p.1 (fun v H4 e s => ⟨_, s _ _ p.2, lt_line (by omega), ?_, ?_⟩) (fun H4 e s => ⟨?_, ?_⟩)
  · exact Same.mut (Same.trans p.1 s) nD
  · rw [filterMap_range_succ, e]
    exact upd_same
  · exact Same.trans p.1 s
  · rw [filterMap_range_succ, e, s _ _ p.2]
    simp
theorem lc_rangeM {lo : Int} {n : Nat} {g : TG} {tt : TT} {te : TE} {vs : List Nat} {σ : St} {H1 : Hp} {D : Addr} {Qd : Hp → Prop} {τ : Tp} (R : Nat → V → Hp → Prop) (st : ∀ i v H H', R i v H → TK H H' → R i v H') (t : Tape τ H1) (nD : H1 D = none) (hn : n ≤ 100000)
    (hs : ∀ (i : Nat) (H : Hp) (N : V → Hp → Prop) (M : Hp → Prop), i < n → Mv τ H1 H → (∀ v H4, Mv τ H H4 → R i v H4 → N v H4) → g (.int (lo + (i : Int))) (wipe σ vs) H fun σ2 H2 => wipe σ2 vs = wipe σ vs ∧ tt σ2 H2 fun b H3 => if b = true then te σ2 H3 N else M H3)
    (hd : ∀ H acc, Mv τ H1 H → H D = some (.lst acc) → acc.length = n → (∀ (j : Nat) v, acc[j]? = some v → R j v H) → Qd H) : ∃ W : Nat → Nat → Hp → Prop, (∃ m, W 0 m (upd H1 D (.lst []))) ∧ ∀ i m H, W i m H →
      ((Itr lo n).stop i H ∧ Qd H) ∨ ((Itr lo n).go i H ∧ ∃ Nx : Hp → Prop, (∀ H', Nx H' → ∃ m', m' < m ∧ W (i + 1) m' H') ∧ ∀ x H', (Itr lo n).yld i H x H' → g x (wipe σ vs) H' fun σ2 H2 => wipe σ2 vs = wipe σ vs ∧ tt σ2 H2 fun b H3 =>
        if b = true then te σ2 H3 fun y H4 => ∃ acc, H4 D = some (.lst acc) ∧ acc.length < sizeLine ∧ Nx (upd H4 D (.lst (acc ++ [y]))) else Nx H3) := by
  refine lc_range (lo := lo) (n := n) (fun i H => Mv τ H1 H ∧ ∃ acc, H D = some (.lst acc) ∧ acc.length = i ∧ ∀ (j : Nat) v, acc[j]? = some v → R j v H) ⟨(t.mv).new nD, [], upd_same, rfl, fun j v e => by simp at e⟩ (fun i H hi p => ?_) (fun H p => ?_)
  · obtain ⟨m, acc, hD, hlen, hR⟩ := p
    have il : i < n := hi
    refine hs i H _ _ hi m (fun v H4 m4 r => ⟨acc, m4.keep _ _ (t.mv.neF nD) hD, lt_line (by omega), (m.trans m4).mut nD, acc ++ [v], upd_same, by rw [List.length_append, hlen]; rfl, fun j u e => ?_⟩)
    have k1 : TK H4 (upd H4 D (.lst (acc ++ [v]))) := TK.mut (m4.keep _ _ (t.mv.neF nD) hD)
    by_cases hj : j < acc.length
    · rw [List.getElem?_append_left hj] at e
      exact st _ _ _ _ (st _ _ _ _ (hR j u e) m4.tk) k1
    · rw [List.getElem?_append_right (by omega)] at e
      have hj2 : j = i := by
        have q := (List.getElem?_eq_some_iff.mp e).1
        rw [List.length_singleton] at q
        omega
      rw [hj2, hlen, Nat.sub_self] at e
      have e2 : v = u := Option.some.inj e
      rw [← e2, hj2]
      exact st _ _ _ _ r k1
  · obtain ⟨m, acc, hD, hlen, hR⟩ := p
    exact hd H acc m hD hlen hR
theorem lc_listF {K : PySem.W.Frag} {a : Addr} {xs : List V} {g : TG} {tt : TT} {te : TE} {vs : List Nat} {σ : St} {H1 : Hp} {D : Addr} {Qd : Hp → Prop} (f : Nat → Option V) (hx : H1 a = some (.lst xs)) (nD : H1 D = none) (hn : xs.length ≤ 100000)
    (hs : ∀ (i : Nat) (x : V) (H : Hp) (N : V → Hp → Prop) (M : Hp → Prop), xs[i]? = some x → Same H1 H → (∀ v H4, f i = some v → Same H H4 → N v H4) → (∀ H4, f i = none → Same H H4 → M H4) → g x (wipe σ vs) H fun σ2 H2 => wipe σ2 vs = wipe σ vs ∧ tt σ2 H2 fun b H3 => if b = true then te σ2 H3 N else M H3)
    (hd : ∀ H, Same H1 H → H D = some (.lst ((List.range xs.length).filterMap f)) → Qd H) : ∃ W : Nat → Nat → Hp → Prop, (∃ m, W 0 m (upd H1 D (.lst []))) ∧ ∀ i m H, W i m H →
      ((Itl K a).stop i H ∧ Qd H) ∨ ((Itl K a).go i H ∧ ∃ Nx : Hp → Prop, (∀ H', Nx H' → ∃ m', m' < m ∧ W (i + 1) m' H') ∧ ∀ x H', (Itl K a).yld i H x H' → g x (wipe σ vs) H' fun σ2 H2 => wipe σ2 vs = wipe σ vs ∧ tt σ2 H2 fun b H3 =>
        if b = true then te σ2 H3 fun y H4 => ∃ acc, H4 D = some (.lst acc) ∧ acc.length < sizeLine ∧ Nx (upd H4 D (.lst (acc ++ [y]))) else Nx H3) := by
  refine lc_list (K := K) (a := a) (xs := xs) (fun i H => Same H1 H ∧ H D = some (.lst ((List.range i).filterMap f))) ⟨Same.new (Same.refl H1) nD, upd_same⟩ (fun i H _ p => SqL.of (p.1 _ _ hx)) (fun i x H hi p => ?_) (fun H p => hd H p.1 p.2)
  have il : i < xs.length := (List.getElem?_eq_some_iff.mp hi).1
  have hz := filterMap_range_len f i
  refine hs i x H _ _ hi p.1 (fun v H4 e s => ⟨_, s _ _ p.2, lt_line (by omega), ?_, ?_⟩) (fun H4 e s => ⟨?_, ?_⟩)
  · exact Same.mut (Same.trans p.1 s) nD
  · rw [filterMap_range_succ, e]
    exact upd_same
  · exact Same.trans p.1 s
  · rw [filterMap_range_succ, e, s _ _ p.2]
    simp
theorem lc_listM {K : PySem.W.Frag} {a : Addr} {xs : List V} {g : TG} {tt : TT} {te : TE} {vs : List Nat} {σ : St} {H1 : Hp} {D : Addr} {Qd : Hp → Prop} {τ : Tp} (R : Nat → V → Hp → Prop) (st : ∀ i v H H', R i v H → TK H H' → R i v H') (hx : H1 a = some (.lst xs)) (ne_a : a ≠ τ.t) (t : Tape τ H1) (nD : H1 D = none) (hn : xs.length ≤ 100000)
    (hs : ∀ (i : Nat) (x : V) (H : Hp) (N : V → Hp → Prop) (M : Hp → Prop), xs[i]? = some x → Mv τ H1 H → (∀ v H4, Mv τ H H4 → R i v H4 → N v H4) → g x (wipe σ vs) H fun σ2 H2 => wipe σ2 vs = wipe σ vs ∧ tt σ2 H2 fun b H3 => if b = true then te σ2 H3 N else M H3)
    (hd : ∀ H acc, Mv τ H1 H → H D = some (.lst acc) → acc.length = xs.length → (∀ (j : Nat) v, acc[j]? = some v → R j v H) → Qd H) : ∃ W : Nat → Nat → Hp → Prop, (∃ m, W 0 m (upd H1 D (.lst []))) ∧ ∀ i m H, W i m H →
      ((Itl K a).stop i H ∧ Qd H) ∨ ((Itl K a).go i H ∧ ∃ Nx : Hp → Prop, (∀ H', Nx H' → ∃ m', m' < m ∧ W (i + 1) m' H') ∧ ∀ x H', (Itl K a).yld i H x H' → g x (wipe σ vs) H' fun σ2 H2 => wipe σ2 vs = wipe σ vs ∧ tt σ2 H2 fun b H3 =>
        if b = true then te σ2 H3 fun y H4 => ∃ acc, H4 D = some (.lst acc) ∧ acc.length < sizeLine ∧ Nx (upd H4 D (.lst (acc ++ [y]))) else Nx H3) := by
  refine lc_list (K := K) (a := a) (xs := xs) (fun i H => Mv τ H1 H ∧ ∃ acc, H D = some (.lst acc) ∧ acc.length = i ∧ ∀ (j : Nat) v, acc[j]? = some v → R j v H) ⟨(t.mv).new nD, [], upd_same, rfl, fun j v e => by simp at e⟩ (fun i H _ p => SqL.of (p.1.keep _ _ ne_a hx)) (fun i x H hi p => ?_) (fun H p => ?_)
  · obtain ⟨m, acc, hD, hlen, hR⟩ := p
    have il : i < xs.length := (List.getElem?_eq_some_iff.mp hi).1
    refine hs i x H _ _ hi m (fun v H4 m4 r => ⟨acc, m4.keep _ _ (t.mv.neF nD) hD, lt_line (by omega), (m.trans m4).mut nD, acc ++ [v], upd_same, by rw [List.length_append, hlen]; rfl, fun j u e => ?_⟩)
    have k1 : TK H4 (upd H4 D (.lst (acc ++ [v]))) := TK.mut (m4.keep _ _ (t.mv.neF nD) hD)
    by_cases hj : j < acc.length
    · rw [List.getElem?_append_left hj] at e
      exact st _ _ _ _ (st _ _ _ _ (hR j u e) m4.tk) k1
    · rw [List.getElem?_append_right (by omega)] at e
      have hj2 : j = i := by
        have q := (List.getElem?_eq_some_iff.mp e).1
        rw [List.length_singleton] at q
        omega
      rw [hj2, hlen, Nat.sub_self] at e
      have e2 : v = u := Option.some.inj e
      rw [← e2, hj2]
      exact st _ _ _ _ r k1
  · obtain ⟨m, acc, hD, hlen, hR⟩ := p
    exact hd H acc m hD hlen hR
theorem lc_tupF {K : PySem.W.Frag} {a : Addr} {xs : List V} {g : TG} {tt : TT} {te : TE} {vs : List Nat} {σ : St} {H1 : Hp} {D : Addr} {Qd : Hp → Prop} (f : Nat → Option V) (hx : H1 a = some (.tup xs)) (nD : H1 D = none) (hn : xs.length ≤ 100000)
    (hs : ∀ (i : Nat) (x : V) (H : Hp) (N : V → Hp → Prop) (M : Hp → Prop), xs[i]? = some x → Same H1 H → (∀ v H4, f i = some v → Same H H4 → N v H4) → (∀ H4, f i = none → Same H H4 → M H4) → g x (wipe σ vs) H fun σ2 H2 => wipe σ2 vs = wipe σ vs ∧ tt σ2 H2 fun b H3 => if b = true then te σ2 H3 N else M H3)
    (hd : ∀ H, Same H1 H → H D = some (.lst ((List.range xs.length).filterMap f)) → Qd H) : ∃ W : Nat → Nat → Hp → Prop, (∃ m, W 0 m (upd H1 D (.lst []))) ∧ ∀ i m H, W i m H →
      ((Itt K a).stop i H ∧ Qd H) ∨ ((Itt K a).go i H ∧ ∃ Nx : Hp → Prop, (∀ H', Nx H' → ∃ m', m' < m ∧ W (i + 1) m' H') ∧ ∀ x H', (Itt K a).yld i H x H' → g x (wipe σ vs) H' fun σ2 H2 => wipe σ2 vs = wipe σ vs ∧ tt σ2 H2 fun b H3 =>
        if b = true then te σ2 H3 fun y H4 => ∃ acc, H4 D = some (.lst acc) ∧ acc.length < sizeLine ∧ Nx (upd H4 D (.lst (acc ++ [y]))) else Nx H3) := by
  refine lc_tup (K := K) (a := a) (xs := xs) (fun i H => Same H1 H ∧ H D = some (.lst ((List.range i).filterMap f))) ⟨Same.new (Same.refl H1) nD, upd_same⟩ (fun i H _ p => SqT.of (p.1 _ _ hx)) (fun i x H hi p => ?_) (fun H p => hd H p.1 p.2)
  have il : i < xs.length := (List.getElem?_eq_some_iff.mp hi).1
  have hz := filterMap_range_len f i
  refine hs i x H _ _ hi p.1 (fun v H4 e s => ⟨_, s _ _ p.2, lt_line (by omega), ?_, ?_⟩) (fun H4 e s => ⟨?_, ?_⟩)
  · exact Same.mut (Same.trans p.1 s) nD
  · rw [filterMap_range_succ, e]
    exact upd_same
  · exact Same.trans p.1 s
  · rw [filterMap_range_succ, e, s _ _ p.2]
    simp
theorem lc_tupM {K : PySem.W.Frag} {a : Addr} {xs : List V} {g : TG} {tt : TT} {te : TE} {vs : List Nat} {σ : St} {H1 : Hp} {D : Addr} {Qd : Hp → Prop} {τ : Tp} (R : Nat → V → Hp → Prop) (st : ∀ i v H H', R i v H → TK H H' → R i v H') (hx : H1 a = some (.tup xs)) (ne_a : a ≠ τ.t) (t : Tape τ H1) (nD : H1 D = none) (hn : xs.length ≤ 100000)
    (hs : ∀ (i : Nat) (x : V) (H : Hp) (N : V → Hp → Prop) (M : Hp → Prop), xs[i]? = some x → Mv τ H1 H → (∀ v H4, Mv τ H H4 → R i v H4 → N v H4) → g x (wipe σ vs) H fun σ2 H2 => wipe σ2 vs = wipe σ vs ∧ tt σ2 H2 fun b H3 => if b = true then te σ2 H3 N else M H3)
    (hd : ∀ H acc, Mv τ H1 H → H D = some (.lst acc) → acc.length = xs.length → (∀ (j : Nat) v, acc[j]? = some v → R j v H) → Qd H) : ∃ W : Nat → Nat → Hp → Prop, (∃ m, W 0 m (upd H1 D (.lst []))) ∧ ∀ i m H, W i m H →
      ((Itt K a).stop i H ∧ Qd H) ∨ ((Itt K a).go i H ∧ ∃ Nx : Hp → Prop, (∀ H', Nx H' → ∃ m', m' < m ∧ W (i + 1) m' H') ∧ ∀ x H', (Itt K a).yld i H x H' → g x (wipe σ vs) H' fun σ2 H2 => wipe σ2 vs = wipe σ vs ∧ tt σ2 H2 fun b H3 =>
        if b = true then te σ2 H3 fun y H4 => ∃ acc, H4 D = some (.lst acc) ∧ acc.length < sizeLine ∧ Nx (upd H4 D (.lst (acc ++ [y]))) else Nx H3) := by
  refine lc_tup (K := K) (a := a) (xs := xs) (fun i H => Mv τ H1 H ∧ ∃ acc, H D = some (.lst acc) ∧ acc.length = i ∧ ∀ (j : Nat) v, acc[j]? = some v → R j v H) ⟨(t.mv).new nD, [], upd_same, rfl, fun j v e => by simp at e⟩ (fun i H _ p => SqT.of (p.1.keep _ _ ne_a hx)) (fun i x H hi p => ?_) (fun H p => ?_)
  · obtain ⟨m, acc, hD, hlen, hR⟩ := p
    have il : i < xs.length := (List.getElem?_eq_some_iff.mp hi).1
    refine hs i x H _ _ hi m (fun v H4 m4 r => ⟨acc, m4.keep _ _ (t.mv.neF nD) hD, lt_line (by omega), (m.trans m4).mut nD, acc ++ [v], upd_same, by rw [List.length_append, hlen]; rfl, fun j u e => ?_⟩)
    have k1 : TK H4 (upd H4 D (.lst (acc ++ [v]))) := TK.mut (m4.keep _ _ (t.mv.neF nD) hD)
    by_cases hj : j < acc.length
    · rw [List.getElem?_append_left hj] at e
      exact st _ _ _ _ (st _ _ _ _ (hR j u e) m4.tk) k1
    · rw [List.getElem?_append_right (by omega)] at e
      have hj2 : j = i := by
        have q := (List.getElem?_eq_some_iff.mp e).1
        rw [List.length_singleton] at q
        omega
      rw [hj2, hlen, Nat.sub_self] at e
      have e2 : v = u := Option.some.inj e
      rw [← e2, hj2]
      exact st _ _ _ _ r k1
  · obtain ⟨m, acc, hD, hlen, hR⟩ := p
    exact hd H acc m hD hlen hR
/-! ### comprehensions over zip -/
theorem lc_zipLF {K : PySem.W.Frag} {a b : Addr} {xs ys : List V} {g : TG} {tt : TT} {te : TE} {vs : List Nat} {σ : St} {H1 : Hp} {D : Addr} {Qd : Hp → Prop} (f : Nat → Option V) (hx : H1 a = some (.lst xs)) (hy : H1 b = some (.lst ys)) (hl : xs.length = ys.length) (nD : H1 D = none) (hn : xs.length ≤ 100000)
    (hs : ∀ (i : Nat) (x y : V) (Z : Addr) (H : Hp) (N : V → Hp → Prop) (M : Hp → Prop), xs[i]? = some x → ys[i]? = some y → Same H1 H → H Z = some (.tup [x, y]) → (∀ v H4, f i = some v → Same H H4 → N v H4) → (∀ H4, f i = none → Same H H4 → M H4) → g (.ref Z) (wipe σ vs) H fun σ2 H2 => wipe σ2 vs = wipe σ vs ∧ tt σ2 H2 fun b H3 => if b = true then te σ2 H3 N else M H3)
    (hd : ∀ H, Same H1 H → H D = some (.lst ((List.range xs.length).filterMap f)) → Qd H) : ∃ W : Nat → Nat → Hp → Prop, (∃ m, W 0 m (upd H1 D (.lst []))) ∧ ∀ i m H, W i m H →
      ((Itz K a b).stop i H ∧ Qd H) ∨ ((Itz K a b).go i H ∧ ∃ Nx : Hp → Prop, (∀ H', Nx H' → ∃ m', m' < m ∧ W (i + 1) m' H') ∧ ∀ x H', (Itz K a b).yld i H x H' → g x (wipe σ vs) H' fun σ2 H2 => wipe σ2 vs = wipe σ vs ∧ tt σ2 H2 fun b H3 =>
        if b = true then te σ2 H3 fun y H4 => ∃ acc, H4 D = some (.lst acc) ∧ acc.length < sizeLine ∧ Nx (upd H4 D (.lst (acc ++ [y]))) else Nx H3) := by
  refine ⟨fun i m H => m = xs.length - i ∧ i ≤ xs.length ∧ Same H1 H ∧ H D = some (.lst ((List.range i).filterMap f)), ⟨xs.length, rfl, Nat.zero_le _, Same.new (Same.refl H1) nD, upd_same⟩, ?_⟩
  rintro i m H ⟨rfl, hi, s, hD⟩
  have qx : SqL K H a xs := SqL.of (s _ _ hx)
  have qy : SqL K H b ys := SqL.of (s _ _ hy)
  have hz := filterMap_range_len f i
  by_cases hlt : i < xs.length
  · have ex : xs[i]? = some xs[i] := List.getElem?_eq_getElem hlt
    have hlt2 : i < ys.length := by omega
    have ey : ys[i]? = some ys[i] := List.getElem?_eq_getElem hlt2
    refine .inr ⟨⟨xs, ys, _, _, qx, qy, ex, ey⟩, fun H => i < xs.length ∧ Same H1 H ∧ H D = some (.lst ((List.range (i + 1)).filterMap f)), fun H' p' => ⟨xs.length - (i + 1), by omega, rfl, hlt, p'.2⟩, fun v H' y => ?_⟩
    obtain ⟨Z, x', y', rfl, hZ, rfl, f1, f2⟩ := y
    have s1 : Same H (upd H Z (.tup [x', y'])) := Same.new (Same.refl H) hZ
    refine hs i x' y' Z _ _ _ (f1 xs qx) (f2 ys qy) (s.trans s1) upd_same (fun v H4 e s4 => ⟨_, s4 _ _ (s1 _ _ hD), lt_line (by omega), hlt, ?_, ?_⟩) (fun H4 e s4 => ⟨hlt, ?_, ?_⟩)
    · exact Same.mut ((s.trans s1).trans s4) nD
    · rw [filterMap_range_succ, e]
      exact upd_same
    · exact (s.trans s1).trans s4
    · rw [filterMap_range_succ, e, s4 _ _ (s1 _ _ hD)]
      simp
  · have e : i = xs.length := by omega
    subst e
    exact .inl ⟨⟨xs, ys, qx, qy, Or.inl (Nat.le_refl _)⟩, hd H s hD⟩
theorem lc_zipTF {K : PySem.W.Frag} {a b : Addr} {xs ys : List V} {g : TG} {tt : TT} {te : TE} {vs : List Nat} {σ : St} {H1 : Hp} {D : Addr} {Qd : Hp → Prop} (f : Nat → Option V) (hx : H1 a = some (.tup xs)) (hy : H1 b = some (.tup ys)) (hl : xs.length = ys.length) (nD : H1 D = none) (hn : xs.length ≤ 100000)
    (hs : ∀ (i : Nat) (x y : V) (Z : Addr) (H : Hp) (N : V → Hp → Prop) (M : Hp → Prop), xs[i]? = some x → ys[i]? = some y → Same H1 H → H Z = some (.tup [x, y]) → (∀ v H4, f i = some v → Same H H4 → N v H4) → (∀ H4, f i = none → Same H H4 → M H4) → g (.ref Z) (wipe σ vs) H fun σ2 H2 => wipe σ2 vs = wipe σ vs ∧ tt σ2 H2 fun b H3 => if b = true then te σ2 H3 N else M H3)
    (hd : ∀ H, Same H1 H → H D = some (.lst ((List.range xs.length).filterMap f)) → Qd H) : ∃ W : Nat → Nat → Hp → Prop, (∃ m, W 0 m (upd H1 D (.lst []))) ∧ ∀ i m H, W i m H →
      ((RZ.ItzT K a b).stop i H ∧ Qd H) ∨ ((RZ.ItzT K a b).go i H ∧ ∃ Nx : Hp → Prop, (∀ H', Nx H' → ∃ m', m' < m ∧ W (i + 1) m' H') ∧ ∀ x H', (RZ.ItzT K a b).yld i H x H' → g x (wipe σ vs) H' fun σ2 H2 => wipe σ2 vs = wipe σ vs ∧ tt σ2 H2 fun b H3 =>
        if b = true then te σ2 H3 fun y H4 => ∃ acc, H4 D = some (.lst acc) ∧ acc.length < sizeLine ∧ Nx (upd H4 D (.lst (acc ++ [y]))) else Nx H3) := by
  refine ⟨fun i m H => m = xs.length - i ∧ i ≤ xs.length ∧ Same H1 H ∧ H D = some (.lst ((List.range i).filterMap f)), ⟨xs.length, rfl, Nat.zero_le _, Same.new (Same.refl H1) nD, upd_same⟩, ?_⟩
  rintro i m H ⟨rfl, hi, s, hD⟩
  have qx : SqT K H a xs := SqT.of (s _ _ hx)
  have qy : SqT K H b ys := SqT.of (s _ _ hy)
  have hz := filterMap_range_len f i
  by_cases hlt : i < xs.length
  · have ex : xs[i]? = some xs[i] := List.getElem?_eq_getElem hlt
    have hlt2 : i < ys.length := by omega
    have ey : ys[i]? = some ys[i] := List.getElem?_eq_getElem hlt2
    refine .inr ⟨⟨xs, ys, _, _, qx, qy, ex, ey⟩, fun H => i < xs.length ∧ Same H1 H ∧ H D = some (.lst ((List.range (i + 1)).filterMap f)), fun H' p' => ⟨xs.length - (i + 1), by omega, rfl, hlt, p'.2⟩, fun v H' y => ?_⟩
    obtain ⟨Z, x', y', rfl, hZ, rfl, f1, f2⟩ := y
    have s1 : Same H (upd H Z (.tup [x', y'])) := Same.new (Same.refl H) hZ
    refine hs i x' y' Z _ _ _ (f1 xs qx) (f2 ys qy) (s.trans s1) upd_same (fun v H4 e s4 => ⟨_, s4 _ _ (s1 _ _ hD), lt_line (by omega), hlt, ?_, ?_⟩) (fun H4 e s4 => ⟨hlt, ?_, ?_⟩)
    · exact Same.mut ((s.trans s1).trans s4) nD
    · rw [filterMap_range_succ, e]
      exact upd_same
    · exact (s.trans s1).trans s4
    · rw [filterMap_range_succ, e, s4 _ _ (s1 _ _ hD)]
      simp
  · have e : i = xs.length := by omega
    subst e
    exact .inl ⟨⟨xs, ys, qx, qy, Or.inl (Nat.le_refl _)⟩, hd H s hD⟩
/-! comprehensions whose items are new things -/
theorem lc_rangeR {lo : Int} {n : Nat} {g : TG} {tt : TT} {te : TE} {vs : List Nat} {σ : St} {H1 : Hp} {D : Addr} {Qd : Hp → Prop} (R : Nat → V → Hp → Prop) (st : ∀ i v H H', R i v H → TK H H' → R i v H') (nD : H1 D = none) (hn : n ≤ 100000)
    (hs : ∀ (i : Nat) (H : Hp) (N : V → Hp → Prop) (M : Hp → Prop), i < n → Same H1 H → (∀ v H4, Same H H4 → R i v H4 → N v H4) → g (.int (lo + (i : Int))) (wipe σ vs) H fun σ2 H2 => wipe σ2 vs = wipe σ vs ∧ tt σ2 H2 fun b H3 => if b = true then te σ2 H3 N else M H3)
    (hd : ∀ H acc, Same H1 H → H D = some (.lst acc) → acc.length = n → (∀ (j : Nat) v, acc[j]? = some v → R j v H) → Qd H) : ∃ W : Nat → Nat → Hp → Prop, (∃ m, W 0 m (upd H1 D (.lst []))) ∧ ∀ i m H, W i m H →
      ((Itr lo n).stop i H ∧ Qd H) ∨ ((Itr lo n).go i H ∧ ∃ Nx : Hp → Prop, (∀ H', Nx H' → ∃ m', m' < m ∧ W (i + 1) m' H') ∧ ∀ x H', (Itr lo n).yld i H x H' → g x (wipe σ vs) H' fun σ2 H2 => wipe σ2 vs = wipe σ vs ∧ tt σ2 H2 fun b H3 =>
        if b = true then te σ2 H3 fun y H4 => ∃ acc, H4 D = some (.lst acc) ∧ acc.length < sizeLine ∧ Nx (upd H4 D (.lst (acc ++ [y]))) else Nx H3) := by
  refine lc_range (lo := lo) (n := n) (fun i H => Same H1 H ∧ ∃ acc, H D = some (.lst acc) ∧ acc.length = i ∧ ∀ (j : Nat) v, acc[j]? = some v → R j v H) ⟨Same.new (Same.refl H1) nD, [], upd_same, rfl, fun j v e => by simp at e⟩ (fun i H hi p => ?_) (fun H p => ?_)
  · obtain ⟨m, acc, hD, hlen, hR⟩ := p
    have il : i < n := hi
    refine hs i H _ _ hi m (fun v H4 m4 r => ⟨acc, m4 _ _ hD, lt_line (by omega), Same.mut (Same.trans m m4) nD, acc ++ [v], upd_same, by rw [List.length_append, hlen]; rfl, fun j u e => ?_⟩)
    have k1 : TK H4 (upd H4 D (.lst (acc ++ [v]))) := TK.mut (m4 _ _ hD)
    by_cases hj : j < acc.length
    · rw [List.getElem?_append_left hj] at e
      exact st _ _ _ _ (st _ _ _ _ (hR j u e) (Same.tk m4)) k1
    · rw [List.getElem?_append_right (by omega)] at e
      have hj2 : j = i := by
        have q := (List.getElem?_eq_some_iff.mp e).1
        rw [List.length_singleton] at q
        omega
      rw [hj2, hlen, Nat.sub_self] at e
      have e2 : v = u := Option.some.inj e
      rw [← e2, hj2]
      exact st _ _ _ _ r k1
  · obtain ⟨m, acc, hD, hlen, hR⟩ := p
    exact hd H acc m hD hlen hR
theorem lc_listR {K : PySem.W.Frag} {a : Addr} {xs : List V} {g : TG} {tt : TT} {te : TE} {vs : List Nat} {σ : St} {H1 : Hp} {D : Addr} {Qd : Hp → Prop} (R : Nat → V → Hp → Prop) (st : ∀ i v H H', R i v H → TK H H' → R i v H') (hx : H1 a = some (.lst xs)) (nD : H1 D = none) (hn : xs.length ≤ 100000)
    (hs : ∀ (i : Nat) (x : V) (H : Hp) (N : V → Hp → Prop) (M : Hp → Prop), xs[i]? = some x → Same H1 H → (∀ v H4, Same H H4 → R i v H4 → N v H4) → g x (wipe σ vs) H fun σ2 H2 => wipe σ2 vs = wipe σ vs ∧ tt σ2 H2 fun b H3 => if b = true then te σ2 H3 N else M H3)
    (hd : ∀ H acc, Same H1 H → H D = some (.lst acc) → acc.length = xs.length → (∀ (j : Nat) v, acc[j]? = some v → R j v H) → Qd H) : ∃ W : Nat → Nat → Hp → Prop, (∃ m, W 0 m (upd H1 D (.lst []))) ∧ ∀ i m H, W i m H →
      ((Itl K a).stop i H ∧ Qd H) ∨ ((Itl K a).go i H ∧ ∃ Nx : Hp → Prop, (∀ H', Nx H' → ∃ m', m' < m ∧ W (i + 1) m' H') ∧ ∀ x H', (Itl K a).yld i H x H' → g x (wipe σ vs) H' fun σ2 H2 => wipe σ2 vs = wipe σ vs ∧ tt σ2 H2 fun b H3 =>
        if b = true then te σ2 H3 fun y H4 => ∃ acc, H4 D = some (.lst acc) ∧ acc.length < sizeLine ∧ Nx (upd H4 D (.lst (acc ++ [y]))) else Nx H3) := by
  refine lc_list (K := K) (a := a) (xs := xs) (fun i H => Same H1 H ∧ ∃ acc, H D = some (.lst acc) ∧ acc.length = i ∧ ∀ (j : Nat) v, acc[j]? = some v → R j v H) ⟨Same.new (Same.refl H1) nD, [], upd_same, rfl, fun j v e => by simp at e⟩ (fun i H _ p => SqL.of (p.1 _ _ hx)) (fun i x H hi p => ?_) (fun H p => ?_)
  · obtain ⟨m, acc, hD, hlen, hR⟩ := p
    have il : i < xs.length := (List.getElem?_eq_some_iff.mp hi).1
    refine hs i x H _ _ hi m (fun v H4 m4 r => ⟨acc, m4 _ _ hD, lt_line (by omega), Same.mut (Same.trans m m4) nD, acc ++ [v], upd_same, by rw [List.length_append, hlen]; rfl, fun j u e => ?_⟩)
    have k1 : TK H4 (upd H4 D (.lst (acc ++ [v]))) := TK.mut (m4 _ _ hD)
    by_cases hj : j < acc.length
    · rw [List.getElem?_append_left hj] at e
      exact st _ _ _ _ (st _ _ _ _ (hR j u e) (Same.tk m4)) k1
    · rw [List.getElem?_append_right (by omega)] at e
      have hj2 : j = i := by
        have q := (List.getElem?_eq_some_iff.mp e).1
        rw [List.length_singleton] at q
        omega
      rw [hj2, hlen, Nat.sub_self] at e
      have e2 : v = u := Option.some.inj e
      rw [← e2, hj2]
      exact st _ _ _ _ r k1
  · obtain ⟨m, acc, hD, hlen, hR⟩ := p
    exact hd H acc m hD hlen hR
theorem lc_tupR {K : PySem.W.Frag} {a : Addr} {xs : List V} {g : TG} {tt : TT} {te : TE} {vs : List Nat} {σ : St} {H1 : Hp} {D : Addr} {Qd : Hp → Prop} (R : Nat → V → Hp → Prop) (st : ∀ i v H H', R i v H → TK H H' → R i v H') (hx : H1 a = some (.tup xs)) (nD : H1 D = none) (hn : xs.length ≤ 100000)
    (hs : ∀ (i : Nat) (x : V) (H : Hp) (N : V → Hp → Prop) (M : Hp → Prop), xs[i]? = some x → Same H1 H → (∀ v H4, Same H H4 → R i v H4 → N v H4) → g x (wipe σ vs) H fun σ2 H2 => wipe σ2 vs = wipe σ vs ∧ tt σ2 H2 fun b H3 => if b = true then te σ2 H3 N else M H3)
    (hd : ∀ H acc, Same H1 H → H D = some (.lst acc) → acc.length = xs.length → (∀ (j : Nat) v, acc[j]? = some v → R j v H) → Qd H) : ∃ W : Nat → Nat → Hp → Prop, (∃ m, W 0 m (upd H1 D (.lst []))) ∧ ∀ i m H, W i m H →
      ((Itt K a).stop i H ∧ Qd H) ∨ ((Itt K a).go i H ∧ ∃ Nx : Hp → Prop, (∀ H', Nx H' → ∃ m', m' < m ∧ W (i + 1) m' H') ∧ ∀ x H', (Itt K a).yld i H x H' → g x (wipe σ vs) H' fun σ2 H2 => wipe σ2 vs = wipe σ vs ∧ tt σ2 H2 fun b H3 =>
        if b = true then te σ2 H3 fun y H4 => ∃ acc, H4 D = some (.lst acc) ∧ acc.length < sizeLine ∧ Nx (upd H4 D (.lst (acc ++ [y]))) else Nx H3) := by
  refine lc_tup (K := K) (a := a) (xs := xs) (fun i H => Same H1 H ∧ ∃ acc, H D = some (.lst acc) ∧ acc.length = i ∧ ∀ (j : Nat) v, acc[j]? = some v → R j v H) ⟨Same.new (Same.refl H1) nD, [], upd_same, rfl, fun j v e => by simp at e⟩ (fun i H _ p => SqT.of (p.1 _ _ hx)) (fun i x H hi p => ?_) (fun H p => ?_)
  · obtain ⟨m, acc, hD, hlen, hR⟩ := p
    have il : i < xs.length := (List.getElem?_eq_some_iff.mp hi).1
    refine hs i x H _ _ hi m (fun v H4 m4 r => ⟨acc, m4 _ _ hD, lt_line (by omega), Same.mut (Same.trans m m4) nD, acc ++ [v], upd_same, by rw [List.length_append, hlen]; rfl, fun j u e => ?_⟩)
    have k1 : TK H4 (upd H4 D (.lst (acc ++ [v]))) := TK.mut (m4 _ _ hD)
    by_cases hj : j < acc.length
    · rw [List.getElem?_append_left hj] at e
      exact st _ _ _ _ (st _ _ _ _ (hR j u e) (Same.tk m4)) k1
    · rw [List.getElem?_append_right (by omega)] at e
      have hj2 : j = i := by
        have q := (List.getElem?_eq_some_iff.mp e).1
        rw [List.length_singleton] at q
        omega
      rw [hj2, hlen, Nat.sub_self] at e
      have e2 : v = u := Option.some.inj e
      rw [← e2, hj2]
      exact st _ _ _ _ r k1
  · obtain ⟨m, acc, hD, hlen, hR⟩ := p
    exact hd H acc m hD hlen hR
/-! comprehensions within comprehensions -/
theorem blk_in {X : Cx} {s : Shared} {H : Hp} {sc0 sc1 scope : Scope} {cl : List (Str × Addr)} {C : Addr} {env : Env} {fp : List Addr} {N : List Str} {own : List (Str × Nat)} (hN : X.N = N) (hs : env.scope = sc1) (h : blkC N (relS sc0 sc1) scope own = true) :
    BlkOk (X.blk s H sc0 (compEnvC sc0 cl C env) fp).N (X.blk s H sc0 (compEnvC sc0 cl C env) fp).env.scope scope own := by
  subst hN hs
  exact blkOk_by h
theorem pi_tupK {X : Cx} {K : PySem.W.Frag} {tg l : Expr} {tl : TE} (hK : X.K = K) (h : PE X l tl) : PI X tg l (iTup K tl) := by
  subst hK
  exact pi_tup h
theorem pi_listK {X : Cx} {K : PySem.W.Frag} {tg l : Expr} {tl : TE} (hK : X.K = K) (h : PE X l tl) : PI X tg l (iList K tl) := by
  subst hK
  exact pi_list h
theorem pe_fldK {X : Cx} {K : PySem.W.Frag} {e : Expr} {f : Str} {pos : Pos} {ta : TE} (hK : X.K = K) (h : PE X e ta) (hb : attributeBase e f X.env (eval e X.env) = eval e X.env) : PE X (.Attribute e f pos) (tFld K ta f) := by
  subst hK
  exact pe_fld h hb
theorem pg_tupK {X : Cx} {K : PySem.W.Frag} {es : List Expr} {k : Nat} {pos : Pos} {t : TGs} (n : Nat) (hc : X.calm = true) (hK : X.K = K) (h : PGs X es t)
    (hn : (assignEach es X.env).length = n := by rfl) (hst : (assignEach es X.env).findIdx? (·.1) = none := by rfl) : PG X (.Tuple es k pos) (gTup K n t) := by
  subst hK
  exact pg_tup hc h hn hst
/-! ### words -/
theorem tYes_go {σ : L2.St} {H : Hp} {Q : Bool → Hp → Prop} (h : Q true H) : tYes σ H Q := h
local macro_rules | `(tactic| tm_at "fld") => `(tactic| fail "fld")
local macro_rules | `(tactic| tm_at "hp") => `(tactic| first
  | assumption
  | (with_reducible exact upd_same)
  | exact Same.at (by assumption) (by tm_at "hp")
  | exact Mv.atT (by assumption) (by tm_at "hp")
  | exact Mv.at' (by assumption) (by tm_at "hp") (by tm_at "ne")
  | ((rw [upd_ne ?n]) <;> first | (tm_at "hp") | (tm_at "ne") | fail "upd")
  | fail "hp")
local macro_rules | `(tactic| tm_at "ne") => `(tactic| first
  | assumption
  | exact Ne.symm (by assumption)
  | exact Nw.ne (by assumption) (by tm_at "hp")
  | exact Ne.symm (Nw.ne (by assumption) (by tm_at "hp"))
  | fail "ne")
local macro_rules | `(tactic| tm_at "sq") => `(tactic| first
  | assumption
  | exact SqL.of (by tm_at "hp")
  | exact Same.seq (by assumption) (by tm_at "sq")
  | fail "sq")
local macro_rules | `(tactic| tm_at "sqt") => `(tactic| first
  | assumption
  | exact SqT.of (by tm_at "hp")
  | fail "sqt")
local macro_rules | `(tactic| tm_at "len") => `(tactic| first
  | omega
  | ((simp only [List.length_map, List.length_append, List.length_singleton, List.length_cons, List.length_nil, List.length_replicate, List.length_range]); omega)
  | fail "len")
local macro_rules | `(tactic| tm_at "sd") => `(tactic| first
  | decide
  | omega
  | exact ⟨by decide, by decide⟩
  | exact ⟨by omega, by omega⟩
  | exact Or.inr ⟨by decide, by decide⟩
  | exact Or.inl ⟨by omega, by omega⟩
  | exact Or.inl ⟨by decide, by decide⟩
  | exact Or.inr ⟨by omega, by omega⟩
  | exact Or.inl (fmod64 (by decide) (by decide))
  | exact ⟨by decide, by decide, by decide⟩
  | fail "sd")
local macro_rules | `(tactic| tm_at "w") => `(tactic| repeat (first
  | (with_reducible refine iteDY (by omega) ?_)
  | (with_reducible refine iteDN (by omega) ?_)
  | (refine ⟨_, rfl, ?_⟩)
  | (refine ⟨_, _, rfl, rfl, ?_⟩)
  | (refine ⟨_, _, _, _, rfl, rfl, by tm_at "sq", by rfl, ?_⟩)
  | (refine ⟨_, _, _, _, rfl, rfl, by tm_at "hp", by rfl, ?_⟩)
  | (refine ⟨_, _, _, _, rfl, rfl, by tm_at "sqt", by rfl, ?_⟩)
  | (refine ⟨_, _, _, _, rfl, rfl, by tm_at "sqt", atI_nat (by assumption), ?_⟩)
  | (refine ⟨_, _, _, _, rfl, rfl, by tm_at "sq", atI_nat (by assumption), ?_⟩)
  | (refine ⟨_, _, rfl, by tm_at "sqt", rfl, _, _, rfl, _, _, rfl, rfl, ?_⟩)
  | (refine ⟨_, _, rfl, by tm_at "sqt", rfl, _, _, rfl, _, _, rfl, _, _, rfl, rfl, ?_⟩)
  | (refine ⟨_, _, _, _, _, rfl, ClsV.ty _, by assumption, by assumption, ?_⟩)
  | (refine And.intro (rfl : scal _ _ = true) ?_)
  | (with_reducible refine iteET (by rfl) ?_)
  | (with_reducible refine iteEF (by rfl) ?_)
  | (refine And.intro (IntK.int _) ?_)
  | (with_reducible refine tYes_go ?_)
  | (refine And.intro (by (with_reducible refine le_lineB ?_); rfl) ?_)
  | (refine ⟨_, _, rfl, Or.inl ⟨SqL.of (by tm_at "hp"), ?_⟩⟩)
  | (refine And.intro (Or.inl ⟨rfl, _, SqL.of (by tm_at "hp")⟩) ?_)
  | (refine ⟨_, _, _, rfl, rfl, by tm_at "hp", lt_line (by tm_at "len"), ?_⟩)
  | (refine And.intro rfl ?_)
  | (refine Or.inl ⟨_, rfl, ?_⟩)
  | (refine ⟨_, _, rfl, Or.inl (by tm_at "sq"), ?_⟩)
  | (refine ⟨_, _, rfl, Or.inr (by tm_at "sqt"), ?_⟩)
  | (refine And.intro (by tm_at "sd") ?_)
  | (tm_at "fld")
  | fail "w"))
/-! ### lists of whole numbers -/
/-- an item of a list is a whole number -/
def IsI (v : V) : Prop := ∃ i : Int, v = .int i
theorem ints_of {xs : List V} (h : ∀ v ∈ xs, IsI v) : ∃ ns : List Int, xs = ns.map V.int := by
  induction xs with
  | nil => exact ⟨[], rfl⟩
  | cons x r ih =>
    obtain ⟨ns, e⟩ := ih fun v hv => h v (List.mem_cons_of_mem _ hv)
    obtain ⟨i, ei⟩ := h x List.mem_cons_self
    exact ⟨i :: ns, by rw [ei, e]; rfl⟩
theorem ints_at {xs : List V} (h : ∀ (j : Nat) v, xs[j]? = some v → IsI v) : ∃ ns : List Int, xs = ns.map V.int := ints_of fun v hv => by
  obtain ⟨j, hj, e⟩ := List.mem_iff_getElem.mp hv
  exact h j v (by rw [List.getElem?_eq_getElem hj, e])
theorem mem_app {P : V → Prop} {xs : List V} {y : V} (h : ∀ v ∈ xs, P v) (hy : P y) : ∀ v ∈ xs ++ [y], P v := fun v hv => by
  rcases List.mem_append.mp hv with hv | hv
  · exact h v hv
  · rw [List.mem_singleton.mp hv]
    exact hy
theorem len_app {xs : List V} {y : V} {n : Nat} (h : xs.length = n) : (xs ++ [y]).length = n + 1 := by
  rw [List.length_append, h]
  rfl
/-- the item at a place of a list of whole numbers -/
theorem int_here {ns : List Int} {i : Nat} {x : V} (h : (ns.map V.int)[i]? = some x) : ∃ z, ns[i]? = some z ∧ x = .int z ∧ i < ns.length := by
  rw [List.getElem?_map] at h
  cases e : ns[i]? with
  | none => rw [e] at h; cases h
  | some z => rw [e] at h; exact ⟨z, rfl, (Option.some.inj h).symm, (List.getElem?_eq_some_iff.mp e).1⟩
theorem map_snoc (ks : List Int) (k : Int) : ks.map V.int ++ [V.int k] = (ks ++ [k]).map V.int := by rw [List.map_append]; rfl
theorem inV_int (k : Int) (ks : List Int) : inV (.int k) (ks.map V.int) = decide (k ∈ ks) := by
  unfold inV
  rw [List.any_map]
  by_cases h : k ∈ ks
  · rw [decide_eq_true h]
    exact List.any_eq_true.mpr ⟨k, h, beq_self_eq_true k⟩
  · rw [decide_eq_false h]
    refine List.any_eq_false.mpr fun y hy z => h ?_
    have e : y = k := eq_of_beq (show (y == k) = true from z)
    rw [← e]
    exact hy
theorem flat_ints (ks : List Int) : (ks.map V.int).all flatV = true := List.all_eq_true.mpr fun v hv => by
  obtain ⟨i, _, rfl⟩ := List.mem_map.mp hv
  rfl
theorem len_of_same {a b : List Int} (ha : a.Nodup) (hb : b.Nodup) (h : ∀ k, k ∈ a ↔ k ∈ b) : a.length = b.length := ((List.perm_ext_iff_of_nodup ha hb).mpr h).length_eq
theorem dp_ints {K : PySem.W.Frag} {H : Hp} : ∀ ns : List Int, DpAll K H (ns.map V.int) (ns.map PyData.int)
  | [] => .nil
  | n :: r => .cons (.int n) (dp_ints r)
theorem range_items {α : Type} (S : List α) (f : α → V) : (List.range S.length).filterMap (fun i => S[i]?.map f) = S.map f := by
  have key : ∀ n, n ≤ S.length → (List.range n).filterMap (fun i => S[i]?.map f) = (S.take n).map f := by
    intro n
    induction n with
    | zero => intro _; rfl
    | succ n ih =>
      intro h
      rw [filterMap_range_succ, ih (by omega), List.take_add_one, List.map_append]
      rw [List.getElem?_eq_getElem (show n < S.length by omega)]
      rfl
  rw [key _ (Nat.le_refl _), List.take_length]
theorem lay_ints : ∀ ns : List Int, PyData.canLayAll0 (ns.map PyData.int) = true
  | [] => rfl
  | n :: r => by
    show (PyData.canLay0 (.int n) && PyData.canLayAll0 (r.map PyData.int)) = true
    rw [lay_ints r]
    rfl
theorem deep_ints : ∀ ns : List Int, PyData.depthAll (ns.map PyData.int) ≤ 1
  | [] => by simp [PyData.depthAll]
  | n :: r => by
    have ih := deep_ints r
    simp only [List.map_cons, PyData.depthAll, PyData.depth]
    omega
theorem shaped_ints (ns : List Int) : SeqAt.shaped (.tuple (ns.map PyData.int)) = true := by
  have h := deep_ints ns
  have h2 : PyData.depth (.tuple (ns.map PyData.int)) ≤ 64 := by
    simp only [PyData.depth]
    omega
  exact Bool.and_eq_true_iff.mpr ⟨lay_ints ns, decide_eq_true h2⟩
theorem same_ints (ns : List Int) : PyData.eqv (.tuple (ns.map PyData.int)) (.tuple (ns.map PyData.int)) = true := SeqAt.eqv_refl _ (lay_ints ns)
theorem at_map {r : List Int} {i : Int} (h0 : 0 ≤ i) (h : i < (r.length : Int)) : atI (r.map V.int) i = some (.int (r.getD i.toNat 0)) := by
  have hj : i.toNat < r.length := by omega
  refine at_of (j := i.toNat) (by omega) ?_
  rw [List.getElem?_map, List.getElem?_eq_getElem hj, List.getD_eq_getElem?_getD, List.getElem?_eq_getElem hj]
  rfl
/-! ### bits of what each kind is -/
def upBits (acc : List Nat) (n : Nat) (p : List Nat) : Nat := p.foldl (fun f q => f ||| acc.getD q 0) (2 ^ n)
theorem fold_bits (acc : List Nat) (j : Nat) : ∀ (p : List Nat) (f : Nat), (p.foldl (fun f q => f ||| acc.getD q 0) f).testBit j = (f.testBit j || p.any fun q => (acc.getD q 0).testBit j)
  | [], f => by simp
  | q :: r, f => by
    have ih := fold_bits acc j r (f ||| acc.getD q 0)
    rw [List.foldl_cons, ih, Nat.testBit_or, List.any_cons, Bool.or_assoc]
theorem upBits_at (acc : List Nat) (n : Nat) (p : List Nat) (j : Nat) : (upBits acc n p).testBit j = (decide (n = j) || p.any fun q => (acc.getD q 0).testBit j) := by
  unfold upBits
  rw [fold_bits, Nat.testBit_two_pow]
/-! ### books -/
structure InsT (K : PySem.W.Frag) (C : Addr) : Prop where
  ha : PySem.W.findIn K (.ref C) "__class__" = some (some (.builtin "object.__class__"))
  hn : PySem.W.specialIn K (.builtin "object.__class__") "__get__" = some (some (.builtin "getset_descriptor.__get__"))
  htk : PySem.W.takesIn K (.builtin "object.__class__") = some true
  hm : PySem.W.mroIn K C (.type "object") = some true
theorem pb_ne : ¬ (("parents" : Str) = "bits") := by decide +kernel
theorem bp_ne : ¬ (("bits" : Str) = "parents") := by decide +kernel
def bkF (pa lb : Addr) : List (Str × V) := putF "bits" (.ref lb) (putF "parents" (.ref pa) [])
theorem bkF_eq (pa lb : Addr) : bkF pa lb = ([("parents", V.ref pa), ("bits", V.ref lb)] : List (Str × V)) := by
  show (if ("parents" : Str) = "bits" then [(("parents" : Str), V.ref lb)] else (("parents" : Str), V.ref pa) :: putF "bits" (V.ref lb) []) = ([("parents", V.ref pa), ("bits", V.ref lb)] : List (Str × V))
  rw [if_neg pb_ne]
  all_goals rfl
theorem bkF_parents (pa lb : Addr) : (bkF pa lb).lookup ("parents" : Str) = some (.ref pa) := by
  unfold bkF
  rw [lookup_putF, if_neg pb_ne, lookup_putF, if_pos rfl]
theorem bkF_bits (pa lb : Addr) : (bkF pa lb).lookup ("bits" : Str) = some (.ref lb) := by
  unfold bkF
  rw [lookup_putF, if_pos rfl]
theorem bkF_no (pa lb : Addr) {m : Str} (h1 : ¬ m = "bits") (h2 : ¬ m = "parents") : (bkF pa lb).lookup m = none := by
  unfold bkF
  rw [lookup_putF, if_neg h1, lookup_putF, if_neg h2]
  all_goals rfl
theorem bkF_putP (pa lb p : Addr) : putF "parents" (.ref p) (bkF pa lb) = bkF p lb := by
  rw [bkF_eq, bkF_eq]
  show (if ("parents" : Str) = "parents" then (("parents" : Str), V.ref p) :: [(("bits" : Str), V.ref lb)] else _) = ([("parents", V.ref p), ("bits", V.ref lb)] : List (Str × V))
  rw [if_pos rfl]
theorem bkF_putB (pa lb l : Addr) : putF "bits" (.ref l) (bkF pa lb) = bkF pa l := by
  rw [bkF_eq, bkF_eq]
  show (if ("parents" : Str) = "bits" then _ else (("parents" : Str), V.ref pa) :: (if ("bits" : Str) = "bits" then [(("bits" : Str), V.ref l)] else _)) = ([("parents", V.ref pa), ("bits", V.ref l)] : List (Str × V))
  rw [if_neg pb_ne, if_pos rfl]
/-- the fields of a book that is being made: none, or an elder filling's -/
def BkFs (fs : List (Str × V)) : Prop := fs = [] ∨ ∃ pa lb, fs = bkF pa lb
theorem BkFs.put {fs : List (Str × V)} (h : BkFs fs) (p l : Addr) : putF "bits" (.ref l) (putF "parents" (.ref p) fs) = bkF p l := by
  rcases h with rfl | ⟨a, b, rfl⟩
  · rfl
  · rw [bkF_putP, bkF_putB]
theorem BkFs.len {fs : List (Str × V)} (h : BkFs fs) : fs.length < 500 := by
  rcases h with rfl | ⟨a, b, rfl⟩
  · decide
  · rw [bkF_eq]
    show 2 < 500
    decide
theorem BkFs.len1 {fs : List (Str × V)} (h : BkFs fs) (p : Addr) : (putF "parents" (.ref p) fs).length < 1000 := by
  have q := length_putF "parents" (.ref p) fs
  have r := h.len
  omega
theorem BkFs.fill {fs : List (Str × V)} (h : BkFs fs) : fs.lookup ("fill" : Str) = none := by
  rcases h with rfl | ⟨a, b, rfl⟩
  · rfl
  · exact bkF_no _ _ (by decide +kernel) (by decide +kernel)
def natsV (p : List Nat) : List V := p.map fun q : Nat => V.int (q : Int)
/-- parents: a tuple of tuples of numbers -/
def ParL (H : Hp) (vs : List V) (P : List (List Nat)) : Prop := vs.length = P.length ∧ ∀ (j : Nat) p, P[j]? = some p → ∃ a, vs[j]? = some (.ref a) ∧ H a = some (.tup (natsV p))
def ParAt (H : Hp) (pa : Addr) (P : List (List Nat)) : Prop := ∃ vs, H pa = some (.tup vs) ∧ ParL H vs P
theorem ParL.tk {H H' : Hp} {vs : List V} {P : List (List Nat)} (h : ParL H vs P) (k : TK H H') : ParL H' vs P := ⟨h.1, fun j p e => by
  obtain ⟨a, e1, e2⟩ := h.2 j p e
  exact ⟨a, e1, k _ _ e2⟩⟩
theorem ParAt.tk {H H' : Hp} {pa : Addr} {P : List (List Nat)} (h : ParAt H pa P) (k : TK H H') : ParAt H' pa P := by
  obtain ⟨vs, e, l⟩ := h
  exact ⟨vs, k _ _ e, l.tk k⟩
/-- each parent stands ahead -/
def RtP (P : List (List Nat)) : Prop := ∀ (j : Nat) p, P[j]? = some p → ∀ q ∈ p, q < j
/-- the bits of all kinds -/
def bitsOf (P : List (List Nat)) : List Nat := P.foldl (fun acc p => acc ++ [upBits acc acc.length p]) []
def isA (P : List (List Nat)) (x p : Nat) : Bool := ((bitsOf P).getD x 0).testBit p
theorem bitsOf_snoc (P : List (List Nat)) (p : List Nat) : bitsOf (P ++ [p]) = bitsOf P ++ [upBits (bitsOf P) (bitsOf P).length p] := by
  unfold bitsOf
  rw [List.foldl_append]
  rfl
theorem bitsOf_len (P : List (List Nat)) : (bitsOf P).length = P.length := by
  have key : ∀ (r : List (List Nat)) (acc : List Nat), (r.foldl (fun acc p => acc ++ [upBits acc acc.length p]) acc).length = acc.length + r.length := by
    intro r
    induction r with
    | nil => intro acc; simp
    | cons x r ih =>
      intro acc
      rw [List.foldl_cons, ih, List.length_append]
      simp only [List.length_cons, List.length_nil]
      omega
  rw [show bitsOf P = P.foldl (fun acc p => acc ++ [upBits acc acc.length p]) [] from rfl, key]
  simp
/-- a book: its address, its dict, its parents' tuple, its bits' list -/
structure Bk where
  b : Addr
  dx : Addr
  pa : Addr
  lb : Addr
structure BookAt (C : Addr) (H : Hp) (k : Bk) (P : List (List Nat)) : Prop where
  ins : H k.b = some (.ins C k.dx (bkF k.pa k.lb))
  par : ParAt H k.pa P
  bits : H k.lb = some (.lst (natsV (bitsOf P)))
theorem BookAt.same {C : Addr} {H H' : Hp} {k : Bk} {P : List (List Nat)} (h : BookAt C H k P) (s : Same H H') : BookAt C H' k P := ⟨s _ _ h.ins, h.par.tk (Same.tk s), s _ _ h.bits⟩
/-- all but b is kept -/
def But (b : Addr) (H H' : Hp) : Prop := ∀ a o, a ≠ b → H a = some o → H' a = some o
/-- the parents of a kind with a number are right -/
structure OkL (q : List Nat) (m : Nat) : Prop where
  asc : q.Pairwise (· < ·)
  lt : ∀ x ∈ q, x < m
  few : q.length ≤ 6
structure OkP (P : List (List Nat)) : Prop where
  ok : ∀ (j : Nat) q, P[j]? = some q → OkL q j
  few : P.length ≤ 400
theorem OkP.rt {P : List (List Nat)} (h : OkP P) : RtP P := fun j p e q hq => (h.ok j p e).lt q hq
theorem OkP.nil : OkP [] := ⟨fun j q e => by simp at e, by decide⟩
theorem OkP.take {P : List (List Nat)} (h : OkP P) (m : Nat) : OkP (P.take m) := by
  refine ⟨fun j q e => ?_, ?_⟩
  · rw [List.getElem?_take] at e
    split at e
    · exact h.ok j q e
    · cases e
  · have := h.few
    rw [List.length_take]
    omega
theorem natsV_len (q : List Nat) : (natsV q).length = q.length := by unfold natsV; rw [List.length_map]
theorem natsV_int {K : PySem.W.Frag} {H : Hp} (q : List Nat) : ∀ x ∈ natsV q, IntK K H x := fun x hx => by
  unfold natsV at hx
  obtain ⟨n, _, rfl⟩ := List.mem_map.mp hx
  exact IntK.int _
theorem natsV_at {q : List Nat} {i : Nat} {n : Nat} (h : q[i]? = some n) : (natsV q)[i]? = some (.int (n : Int)) := by
  unfold natsV
  rw [List.getElem?_map, h]
  rfl
theorem natsV_here {q : List Nat} {i : Nat} {x : V} (h : (natsV q)[i]? = some x) : ∃ n : Nat, q[i]? = some n ∧ x = .int (n : Int) ∧ i < q.length := by
  unfold natsV at h
  rw [List.getElem?_map] at h
  cases e : q[i]? with
  | none => rw [e] at h; cases h
  | some z => rw [e] at h; exact ⟨z, rfl, (Option.some.inj h).symm, (List.getElem?_eq_some_iff.mp e).1⟩
theorem natsV_snoc (q : List Nat) (n : Nat) : natsV q ++ [V.int (n : Int)] = natsV (q ++ [n]) := by unfold natsV; rw [List.map_append]; rfl
theorem ParL.here {H : Hp} {vs : List V} {P : List (List Nat)} (h : ParL H vs P) {j : Nat} {x : V} (e : vs[j]? = some x) : ∃ a p, x = .ref a ∧ P[j]? = some p ∧ H a = some (.tup (natsV p)) := by
  have hj := (List.getElem?_eq_some_iff.mp e).1
  rw [h.1] at hj
  obtain ⟨a, e1, e2⟩ := h.2 j _ (List.getElem?_eq_getElem hj)
  rw [e] at e1
  exact ⟨a, _, Option.some.inj e1, List.getElem?_eq_getElem hj, e2⟩
theorem ParL.nil {H : Hp} : ParL H [] [] := ⟨rfl, fun j p e => by simp at e⟩
theorem ParL.snoc {H : Hp} {vs : List V} {P : List (List Nat)} (h : ParL H vs P) {a : Addr} {p : List Nat} (e : H a = some (.tup (natsV p))) : ParL H (vs ++ [.ref a]) (P ++ [p]) := by
  refine ⟨by rw [List.length_append, List.length_append, h.1]; rfl, fun j q hq => ?_⟩
  by_cases hj : j < P.length
  · rw [List.getElem?_append_left hj] at hq
    rw [List.getElem?_append_left (by rw [h.1]; exact hj)]
    exact h.2 j q hq
  · rw [List.getElem?_append_right (by omega)] at hq
    have l := (List.getElem?_eq_some_iff.mp hq).1
    rw [List.length_singleton] at l
    have ej : j - P.length = 0 := by omega
    rw [ej] at hq
    have er : p = q := Option.some.inj hq
    rw [List.getElem?_append_right (by rw [h.1]; omega), h.1, ej, ← er]
    exact ⟨a, rfl, e⟩
theorem ParL.take {H : Hp} {vs : List V} {P : List (List Nat)} (h : ParL H vs P) (m : Nat) : ParL H (vs.take m) (P.take m) := by
  refine ⟨by rw [List.length_take, List.length_take, h.1], fun j q hq => ?_⟩
  rw [List.getElem?_take] at hq
  split at hq
  · rename_i hm
    rw [List.getElem?_take_of_lt hm]
    exact h.2 j q hq
  · cases hq
theorem But.same {b : Addr} {H H1 H2 : Hp} (s : Same H H1) (k : But b H1 H2) : But b H H2 := fun a o n e => k a o n (s a o e)
theorem But.new {b : Addr} {H H1 H2 : Hp} (s : Same H H1) (n : H b = none) (k : But b H1 H2) : Same H H2 := fun a o e => k a o (ne_of_none e n) (s a o e)
/-- a book that was made between H and H' -/
structure Made (C : Addr) (H H' : Hp) (k : Bk) (P : List (List Nat)) : Prop where
  same : Same H H'
  here : BookAt C H' k P
  nb : Nw H k.b
  nl : Nw H k.lb
theorem Made.later {C : Addr} {H H1 H2 : Hp} {k : Bk} {P : List (List Nat)} (m : Made C H H1 k P) (s : Same H1 H2) : Made C H H2 k P := ⟨m.same.trans s, m.here.same s, m.nb, m.nl⟩
theorem Made.early {C : Addr} {H H1 H2 : Hp} {k : Bk} {P : List (List Nat)} (s : Same H H1) (m : Made C H1 H2 k P) : Made C H H2 k P := ⟨s.trans m.same, m.here, ⟨s.free m.nb.e⟩, ⟨s.free m.nl.e⟩⟩
theorem BookAt.mv {C : Addr} {H H' : Hp} {k : Bk} {P : List (List Nat)} {τ : Tp} (h : BookAt C H k P) (m : Mv τ H H') (n : k.lb ≠ τ.t) : BookAt C H' k P :=
  ⟨m.keep _ _ (fun e => by obtain ⟨_, _, _, _, z, _⟩ := m.was.here; rw [← e, h.ins] at z; cases z) h.ins, h.par.tk m.tk, m.keep _ _ n h.bits⟩
/-! ### who is what: the plain law -/
theorem bitsOf_take : ∀ (P : List (List Nat)) (m : Nat), bitsOf (P.take m) = (bitsOf P).take m := by
  have key : ∀ (n : Nat) (P : List (List Nat)), P.length = n → ∀ m, bitsOf (P.take m) = (bitsOf P).take m := by
    intro n
    induction n with
    | zero =>
      intro P h m
      have e : P = [] := List.length_eq_zero_iff.mp h
      subst e
      simp [bitsOf]
    | succ n ih =>
      intro P h m
      have hne : P ≠ [] := by intro e; rw [e] at h; cases h
      have e : P = P.dropLast ++ [P.getLast hne] := (List.dropLast_concat_getLast hne).symm
      have hl : P.dropLast.length = n := by rw [List.length_dropLast, h]; rfl
      by_cases hm : m ≤ n
      · rw [e, List.take_append_of_le_length (by omega), ih _ hl, bitsOf_snoc, List.take_append_of_le_length (by rw [bitsOf_len]; omega)]
      · rw [List.take_of_length_le (by omega), List.take_of_length_le (by rw [bitsOf_len]; omega)]
  exact fun P => key P.length P rfl
theorem bitsOf_at (P : List (List Nat)) (j : Nat) (p : List Nat) (h : P[j]? = some p) : (bitsOf P)[j]? = some (upBits ((bitsOf P).take j) j p) := by
  have hj := (List.getElem?_eq_some_iff.mp h).1
  have e : P.take (j + 1) = P.take j ++ [p] := by rw [List.take_add_one, h]; rfl
  have e2 : (bitsOf P).take (j + 1) = (bitsOf P).take j ++ [upBits ((bitsOf P).take j) j p] := by
    have hl : ((bitsOf P).take j).length = j := by rw [List.length_take, bitsOf_len]; omega
    rw [← bitsOf_take, e, bitsOf_snoc, bitsOf_take, hl]
  have e3 : ((bitsOf P).take (j + 1))[j]? = (bitsOf P)[j]? := List.getElem?_take_of_lt (Nat.lt_succ_self j)
  have hl : ((bitsOf P).take j).length = j := by rw [List.length_take, bitsOf_len]; omega
  rw [← e3, e2, List.getElem?_append_right (by omega), hl, Nat.sub_self]
  rfl
theorem upBits_take {acc : List Nat} {j : Nat} {p : List Nat} (h : ∀ q ∈ p, q < j) : upBits (acc.take j) j p = upBits acc j p := by
  unfold upBits
  have key : ∀ (p : List Nat) (f : Nat), (∀ q ∈ p, q < j) → p.foldl (fun f q => f ||| (acc.take j).getD q 0) f = p.foldl (fun f q => f ||| acc.getD q 0) f := by
    intro p
    induction p with
    | nil => intro f _; rfl
    | cons q r ih =>
      intro f hq
      have e : (acc.take j).getD q 0 = acc.getD q 0 := by
        rw [List.getD_eq_getElem?_getD, List.getD_eq_getElem?_getD, List.getElem?_take_of_lt (hq q List.mem_cons_self)]
      rw [List.foldl_cons, List.foldl_cons, e, ih _ fun z hz => hq z (List.mem_cons_of_mem _ hz)]
  exact key p _ h
theorem isA_rec {P : List (List Nat)} (hR : RtP P) {x : Nat} {p : List Nat} (h : P[x]? = some p) (j : Nat) : isA P x j = (decide (x = j) || p.any fun q => isA P q j) := by
  have e : (bitsOf P).getD x 0 = upBits (bitsOf P) x p := by
    rw [List.getD_eq_getElem?_getD, bitsOf_at P x p h, upBits_take (hR x p h)]
    rfl
  unfold isA
  rw [e, upBits_at]
theorem isA_out {P : List (List Nat)} {x : Nat} (h : P.length ≤ x) (j : Nat) : isA P x j = false := by
  unfold isA
  rw [List.getD_eq_getElem?_getD, List.getElem?_eq_none (by rw [bitsOf_len]; exact h)]
  exact Nat.zero_testBit j
theorem isA_lt {P : List (List Nat)} {x j : Nat} (h : isA P x j = true) : x < P.length := by
  by_cases hx : x < P.length
  · exact hx
  · rw [isA_out (by omega)] at h
    cases h
theorem isA_le {P : List (List Nat)} (hR : RtP P) : ∀ {x j : Nat}, isA P x j = true → j ≤ x := by
  intro x
  induction x using Nat.strongRecOn with
  | ind x ih =>
    intro j h
    have hx := isA_lt h
    rw [isA_rec hR (List.getElem?_eq_getElem hx), Bool.or_eq_true, decide_eq_true_eq, List.any_eq_true] at h
    rcases h with h | ⟨q, hq, h⟩
    · omega
    · have l := hR x _ (List.getElem?_eq_getElem hx) q hq
      have := ih q l h
      omega
theorem isA_refl {P : List (List Nat)} (hR : RtP P) {x : Nat} (hx : x < P.length) : isA P x x = true := by
  rw [isA_rec hR (List.getElem?_eq_getElem hx), decide_eq_true rfl]
  rfl
theorem isA_trans {P : List (List Nat)} (hR : RtP P) : ∀ {x y z : Nat}, isA P x y = true → isA P y z = true → isA P x z = true := by
  intro x
  induction x using Nat.strongRecOn with
  | ind x ih =>
    intro y z h h2
    have hx := isA_lt h
    rw [isA_rec hR (List.getElem?_eq_getElem hx), Bool.or_eq_true, decide_eq_true_eq, List.any_eq_true] at h
    rcases h with h | ⟨q, hq, h⟩
    · rw [h]
      exact h2
    · have l := hR x _ (List.getElem?_eq_getElem hx) q hq
      rw [isA_rec hR (List.getElem?_eq_getElem hx), Bool.or_eq_true, List.any_eq_true]
      exact .inr ⟨q, hq, ih q l h h2⟩
theorem isA_take {P : List (List Nat)} {m x : Nat} (h : x < m) (j : Nat) : isA (P.take m) x j = isA P x j := by
  unfold isA
  rw [bitsOf_take, List.getD_eq_getElem?_getD, List.getD_eq_getElem?_getD, List.getElem?_take_of_lt h]
theorem RtP.take {P : List (List Nat)} (h : RtP P) (m : Nat) : RtP (P.take m) := fun j p e q hq => by
  rw [List.getElem?_take] at e
  split at e
  · exact h j p e q hq
  · cases e
theorem RtP.snoc {P : List (List Nat)} (h : RtP P) {p : List Nat} (hp : ∀ q ∈ p, q < P.length) : RtP (P ++ [p]) := fun j r e q hq => by
  by_cases hj : j < P.length
  · rw [List.getElem?_append_left hj] at e
    exact h j r e q hq
  · rw [List.getElem?_append_right (by omega)] at e
    have l := (List.getElem?_eq_some_iff.mp e).1
    rw [List.length_singleton] at l
    have ej : j - P.length = 0 := by omega
    rw [ej] at e
    have er : p = r := Option.some.inj e
    rw [← er] at hq
    have := hp q hq
    omega
/-- forebears, heirs; the lowest of a lot; plain parents -/
def foreB (P : List (List Nat)) (x : Nat) : List Nat := (List.range x).filter fun p => isA P x p
def heirB (P : List (List Nat)) (p : Nat) : List Nat := (List.range P.length).filter fun x => decide (p < x) && isA P x p
def lowB (P : List (List Nat)) (L : List Nat) : List Nat := L.filter fun p => !(L.any fun x => !decide (x = p) && isA P x p)
def plainB (P : List (List Nat)) : List (List Nat) := (List.range P.length).map fun x => lowB P (foreB P x)
theorem plainB_len (P : List (List Nat)) : (plainB P).length = P.length := by
  unfold plainB
  rw [List.length_map, List.length_range]
theorem plainB_at {P : List (List Nat)} {x : Nat} (h : x < P.length) : (plainB P)[x]? = some (lowB P (foreB P x)) := by
  unfold plainB
  rw [List.getElem?_map, List.getElem?_range h]
  rfl
theorem mem_foreB {P : List (List Nat)} {x p : Nat} : p ∈ foreB P x ↔ p < x ∧ isA P x p = true := by
  unfold foreB
  rw [List.mem_filter, List.mem_range]
theorem plainB_rt (P : List (List Nat)) : RtP (plainB P) := fun j p e q hq => by
  have hj := (List.getElem?_eq_some_iff.mp e).1
  rw [plainB_len] at hj
  rw [plainB_at hj] at e
  rw [← Option.some.inj e] at hq
  exact (mem_foreB.mp (List.mem_filter.mp hq).1).1
theorem low_above {P : List (List Nat)} (hR : RtP P) {x p : Nat} (hp : p < x) (h : isA P x p = true) : ∃ q ∈ lowB P (foreB P x), isA P q p = true := by
  have key : ∀ n q, x - q = n → q < x → isA P x q = true → isA P q p = true → ∃ q ∈ lowB P (foreB P x), isA P q p = true := by
    intro n
    induction n using Nat.strongRecOn with
    | ind n ih =>
      intro q hn hq hxq hqp
      by_cases hl : q ∈ lowB P (foreB P x)
      · exact ⟨q, hl, hqp⟩
      · have hf : q ∈ foreB P x := mem_foreB.mpr ⟨hq, hxq⟩
        have ha : ((foreB P x).any fun y => !decide (y = q) && isA P y q) = true := by
          cases e : ((foreB P x).any fun y => !decide (y = q) && isA P y q) with
          | true => rfl
          | false => exact absurd (List.mem_filter.mpr ⟨hf, by simp [e]⟩) hl
        obtain ⟨y, hy, hz⟩ := List.any_eq_true.mp ha
        rw [Bool.and_eq_true, Bool.not_eq_true', decide_eq_false_iff_not] at hz
        have l := isA_le hR hz.2
        obtain ⟨y1, y2⟩ := mem_foreB.mp hy
        exact ih (x - y) (by omega) y rfl y1 y2 (isA_trans hR hz.2 hqp)
  exact key _ p rfl hp h (isA_refl hR (by have := isA_lt h; omega))
theorem isA_plain {P : List (List Nat)} (hR : RtP P) : ∀ (x j : Nat), isA (plainB P) x j = isA P x j := by
  intro x
  induction x using Nat.strongRecOn with
  | ind x ih =>
    intro j
    by_cases hx : x < P.length
    · have l : ∀ q ∈ lowB P (foreB P x), q < x ∧ isA P x q = true := fun q hq => mem_foreB.mp (List.mem_filter.mp hq).1
      rw [isA_rec (plainB_rt P) (plainB_at hx)]
      rw [Bool.eq_iff_iff, Bool.or_eq_true, decide_eq_true_eq, List.any_eq_true]
      constructor
      · rintro (h | ⟨q, hq, h⟩)
        · rw [← h]
          exact isA_refl hR hx
        · rw [ih q (l q hq).1] at h
          exact isA_trans hR (l q hq).2 h
      · intro h
        by_cases e : x = j
        · exact .inl e
        · have := isA_le hR h
          obtain ⟨q, hq, hz⟩ := low_above hR (by omega) h
          exact .inr ⟨q, hq, by rw [ih q (l q hq).1]; exact hz⟩
    · rw [isA_out (P := P) (by omega), isA_out (P := plainB P) (by rw [plainB_len]; omega)]
theorem foreB_plain {P : List (List Nat)} (hR : RtP P) (x : Nat) : foreB (plainB P) x = foreB P x := by
  unfold foreB
  congr 1
  funext j
  rw [isA_plain hR]
theorem lowB_plain {P : List (List Nat)} (hR : RtP P) (L : List Nat) : lowB (plainB P) L = lowB P L := by
  unfold lowB
  congr 1
  funext p
  congr 2
  funext x
  rw [isA_plain hR]
theorem plainB_plainB {P : List (List Nat)} (hR : RtP P) : plainB (plainB P) = plainB P := by
  show (List.range (plainB P).length).map (fun x => lowB (plainB P) (foreB (plainB P) x)) = (List.range P.length).map fun x => lowB P (foreB P x)
  rw [plainB_len]
  congr 1
  funext x
  rw [foreB_plain hR, lowB_plain hR]
/-- 300 in a row, 300 beside one another -/
def chainP (n : Nat) : List (List Nat) := [] :: (List.range n).map fun k => [k]
def wideP (n : Nat) : List (List Nat) := List.replicate n []
theorem chainP_len (n : Nat) : (chainP n).length = n + 1 := by simp [chainP]
theorem chainP_at {n j : Nat} (h : j < n) : (chainP n)[j + 1]? = some [j] := by
  unfold chainP
  rw [List.getElem?_cons_succ, List.getElem?_map, List.getElem?_range h]
  rfl
theorem chainP_rt (n : Nat) : RtP (chainP n) := fun j p e q hq => by
  cases j with
  | zero => rw [show (chainP n)[0]? = some [] from rfl] at e; rw [← Option.some.inj e] at hq; cases hq
  | succ j =>
    have hj := (List.getElem?_eq_some_iff.mp e).1
    rw [chainP_len] at hj
    rw [chainP_at (by omega)] at e
    rw [← Option.some.inj e, List.mem_singleton] at hq
    omega
theorem isA_chain {n : Nat} : ∀ {x : Nat}, x ≤ n → ∀ j, isA (chainP n) x j = decide (j ≤ x)
  | 0, _, j => by
    rw [isA_rec (chainP_rt n) (show (chainP n)[0]? = some [] from rfl)]
    simp only [List.any_nil, Bool.or_false]
    exact decide_eq_decide.mpr (by omega)
  | x + 1, h, j => by
    rw [isA_rec (chainP_rt n) (chainP_at (by omega)), List.any_cons, List.any_nil, Bool.or_false, isA_chain (by omega) j, ← Bool.decide_or]
    exact decide_eq_decide.mpr (by omega)
theorem wideP_rt (n : Nat) : RtP (wideP n) := fun j p e q hq => by
  have := List.mem_of_getElem? e
  rw [List.eq_of_mem_replicate this] at hq
  cases hq
theorem isA_wide {n x : Nat} (h : x < n) (j : Nat) : isA (wideP n) x j = decide (x = j) := by
  rw [isA_rec (wideP_rt n) (p := []) (by unfold wideP; rw [List.getElem?_replicate, if_pos h])]
  simp
/-- the items of a list are tuples of numbers -/
def RN (f : Nat → List Nat) (i : Nat) (v : V) (H : Hp) : Prop := ∃ a, v = .ref a ∧ H a = some (.tup (natsV (f i)))
theorem RN.tk (f : Nat → List Nat) (i : Nat) (v : V) (H H' : Hp) (h : RN f i v H) (k : TK H H') : RN f i v H' := by
  obtain ⟨a, e, x⟩ := h
  exact ⟨a, e, k _ _ x⟩
theorem parL_of {H : Hp} {acc : List V} {n : Nat} {f : Nat → List Nat} (hl : acc.length = n) (h : ∀ (j : Nat) v, acc[j]? = some v → RN f j v H) : ParL H acc ((List.range n).map f) := by
  refine ⟨by rw [hl, List.length_map, List.length_range], fun j p e => ?_⟩
  have hj := (List.getElem?_eq_some_iff.mp e).1
  rw [List.length_map, List.length_range] at hj
  rw [List.getElem?_map, List.getElem?_range hj] at e
  have ep : f j = p := Option.some.inj e
  obtain ⟨a, e1, e2⟩ := h j _ (List.getElem?_eq_getElem (by omega))
  rw [ep] at e2
  exact ⟨a, by rw [List.getElem?_eq_getElem (by omega), e1], e2⟩
/-- the parents of the kind i -/
def RowR (i : Nat) (v : V) (H : Hp) : Prop := ∃ a q, v = .ref a ∧ H a = some (.tup (natsV q)) ∧ OkL q i
theorem RowR.tk {i : Nat} {v : V} {H H' : Hp} (h : RowR i v H) (k : TK H H') : RowR i v H' := by
  obtain ⟨a, q, e, x, o⟩ := h
  exact ⟨a, q, e, k _ _ x, o⟩
theorem rows_of {H : Hp} {acc : List V} {n : Nat} (hn : n ≤ 400) (hl : acc.length = n) (h : ∀ (j : Nat) v, acc[j]? = some v → RowR j v H) : ∃ P, ParL H acc P ∧ OkP P ∧ P.length = n := by
  obtain ⟨f, hf⟩ := Classical.axiomOfChoice (r := fun (j : Nat) (q : List Nat) => j < n → ∃ a, acc[j]? = some (.ref a) ∧ H a = some (.tup (natsV q)) ∧ OkL q j) (fun j => by
    by_cases hj : j < n
    · obtain ⟨a, q, e, x, o⟩ := h j _ (List.getElem?_eq_getElem (by omega))
      exact ⟨q, fun _ => ⟨a, by rw [List.getElem?_eq_getElem (by omega), e], x, o⟩⟩
    · exact ⟨[], fun z => absurd z hj⟩)
  refine ⟨(List.range n).map f, parL_of hl fun j v e => ?_, ⟨fun j q e => ?_, ?_⟩, ?_⟩
  · have hj := (List.getElem?_eq_some_iff.mp e).1
    obtain ⟨a, e1, e2, _⟩ := hf j (by omega)
    rw [e] at e1
    exact ⟨a, Option.some.inj e1, e2⟩
  · have hj := (List.getElem?_eq_some_iff.mp e).1
    rw [List.length_map, List.length_range] at hj
    rw [List.getElem?_map, List.getElem?_range hj] at e
    obtain ⟨_, _, _, o⟩ := hf j hj
    rw [← Option.some.inj e]
    exact o
  · rw [List.length_map, List.length_range]
    exact hn
  · rw [List.length_map, List.length_range]
theorem nats_of {n : Nat} : ∀ {ns : List Int}, ns.Pairwise (· < ·) → (∀ x ∈ ns, ∃ z : Nat, z < n ∧ x = (z : Int)) → ∃ ks : List Nat, ns = ks.map (fun z : Nat => (z : Int)) ∧ (∀ k ∈ ks, k < n) ∧ ks.Pairwise (· < ·)
  | [], _, _ => ⟨[], rfl, (fun k hk => by cases hk), List.Pairwise.nil⟩
  | x :: r, hp, h => by
    obtain ⟨h1, h2⟩ := List.pairwise_cons.mp hp
    obtain ⟨ks, e, hk, hkp⟩ := nats_of h2 fun y hy => h y (List.mem_cons_of_mem _ hy)
    obtain ⟨z, hz, ez⟩ := h x List.mem_cons_self
    refine ⟨z :: ks, by rw [e, ez]; rfl, fun k hk2 => ?_, List.pairwise_cons.mpr ⟨fun k hk2 => ?_, hkp⟩⟩
    · rcases List.mem_cons.mp hk2 with e2 | e2
      · rw [e2]; exact hz
      · exact hk k e2
    · have := h1 (k : Int) (by rw [e]; exact List.mem_map.mpr ⟨k, hk2, rfl⟩)
      omega
theorem nodup_le : ∀ (m : Nat) {ks : List Nat}, ks.Nodup → (∀ k ∈ ks, k < m) → ks.length ≤ m
  | 0, [], _, _ => Nat.le_refl _
  | 0, k :: r, _, h => absurd (h k List.mem_cons_self) (Nat.not_lt_zero _)
  | m + 1, ks, hn, h => by
    by_cases z : m ∈ ks
    · have l := List.length_erase_of_mem z
      have ih := nodup_le m (hn.erase m) fun k hk => by
        have q := (List.Nodup.mem_erase_iff hn).mp hk
        have := h k q.2
        omega
      have := List.length_pos_of_mem z
      omega
    · have ih := nodup_le m hn fun k hk => by
        have := h k hk
        have : k ≠ m := fun e => z (e ▸ hk)
        omega
      omega
/-! ### clauses -/
def optV : Option Int → V
  | none => .non
  | some i => .int i
def ClsL (H : Hp) (vs : List V) (Cs : List (Nat × Int)) : Prop := vs.length = Cs.length ∧ ∀ (j : Nat) c, Cs[j]? = some c → ∃ a, vs[j]? = some (.ref a) ∧ H a = some (.tup [.int (c.1 : Int), .int c.2])
def ClsAt (H : Hp) (a : Addr) (Cs : List (Nat × Int)) : Prop := ∃ vs, H a = some (.tup vs) ∧ ClsL H vs Cs
theorem ClsL.tk {H H' : Hp} {vs : List V} {Cs : List (Nat × Int)} (h : ClsL H vs Cs) (k : TK H H') : ClsL H' vs Cs := ⟨h.1, fun j p e => by
  obtain ⟨a, e1, e2⟩ := h.2 j p e
  exact ⟨a, e1, k _ _ e2⟩⟩
theorem ClsAt.tk {H H' : Hp} {a : Addr} {Cs : List (Nat × Int)} (h : ClsAt H a Cs) (k : TK H H') : ClsAt H' a Cs := by
  obtain ⟨vs, e, l⟩ := h
  exact ⟨vs, k _ _ e, l.tk k⟩
theorem ClsL.here {H : Hp} {vs : List V} {Cs : List (Nat × Int)} (h : ClsL H vs Cs) {j : Nat} {x : V} (e : vs[j]? = some x) : ∃ a c, x = .ref a ∧ Cs[j]? = some c ∧ H a = some (.tup [.int (c.1 : Int), .int c.2]) := by
  have hj := (List.getElem?_eq_some_iff.mp e).1
  rw [h.1] at hj
  obtain ⟨a, e1, e2⟩ := h.2 j _ (List.getElem?_eq_getElem hj)
  rw [e] at e1
  exact ⟨a, _, Option.some.inj e1, List.getElem?_eq_getElem hj, e2⟩
theorem ClsL.take {H : Hp} {vs : List V} {Cs : List (Nat × Int)} (h : ClsL H vs Cs) (m : Nat) : ClsL H (vs.take m) (Cs.take m) := by
  refine ⟨by rw [List.length_take, List.length_take, h.1], fun j q hq => ?_⟩
  rw [List.getElem?_take] at hq
  split at hq
  · rename_i hm
    rw [List.getElem?_take_of_lt hm]
    exact h.2 j q hq
  · cases hq
theorem ClsL.snoc {H : Hp} {vs : List V} {Cs : List (Nat × Int)} (h : ClsL H vs Cs) {a : Addr} {c : Nat × Int} (e : H a = some (.tup [.int (c.1 : Int), .int c.2])) : ClsL H (vs ++ [.ref a]) (Cs ++ [c]) := by
  refine ⟨by rw [List.length_append, List.length_append, h.1]; rfl, fun j q hq => ?_⟩
  by_cases hj : j < Cs.length
  · rw [List.getElem?_append_left hj] at hq
    rw [List.getElem?_append_left (by rw [h.1]; exact hj)]
    exact h.2 j q hq
  · rw [List.getElem?_append_right (by omega)] at hq
    have l := (List.getElem?_eq_some_iff.mp hq).1
    rw [List.length_singleton] at l
    have ej : j - Cs.length = 0 := by omega
    rw [ej] at hq
    have er : c = q := Option.some.inj hq
    rw [List.getElem?_append_right (by rw [h.1]; omega), h.1, ej, ← er]
    exact ⟨a, rfl, e⟩
/-- the first place that is met; the label there -/
def firstB (Cs : List (Nat × Int)) (S : Nat → Bool) : Nat := Cs.findIdx fun c => S c.1
def labB (Cs : List (Nat × Int)) (S : Nat → Bool) : Option Int := (Cs[firstB Cs S]?).map (·.2)
theorem labB_congr {Cs : List (Nat × Int)} {S T : Nat → Bool} (h : ∀ c ∈ Cs, S c.1 = T c.1) : labB Cs S = labB Cs T := by
  have key : ∀ Cs : List (Nat × Int), (∀ c ∈ Cs, S c.1 = T c.1) → firstB Cs S = firstB Cs T := by
    intro Cs
    induction Cs with
    | nil => intro _; rfl
    | cons c r ih =>
      intro h
      have ih := ih fun d hd => h d (List.mem_cons_of_mem _ hd)
      unfold firstB at ih ⊢
      rw [List.findIdx_cons, List.findIdx_cons, h c List.mem_cons_self, ih]
  unfold labB
  rw [key Cs h]
theorem first_drop {Cs : List (Nat × Int)} {S : Nat → Bool} {i : Nat} {c : Nat × Int} (hc : Cs[i]? = some c) (h : firstB Cs S = i + firstB (Cs.drop i) S) : firstB Cs S = if S c.1 then i else (i + 1) + firstB (Cs.drop (i + 1)) S := by
  have il := (List.getElem?_eq_some_iff.mp hc).1
  have hd : Cs.drop i = c :: Cs.drop (i + 1) := by
    rw [List.drop_eq_getElem_cons il]
    rw [List.getElem?_eq_getElem il] at hc
    rw [Option.some.inj hc]
  rw [h, hd]
  unfold firstB
  rw [List.findIdx_cons]
  cases S c.1 with
  | true => rfl
  | false => show i + ((Cs.drop (i + 1)).findIdx (fun c => S c.1) + 1) = _; simp only [Bool.false_eq_true, if_false]; omega
theorem all_true (n : Nat) : (List.range n).filterMap (fun _ => some (V.bl true)) = (List.replicate n true).map V.bl := by
  rw [show (fun _ : Nat => some (V.bl true)) = some ∘ (fun _ : Nat => V.bl true) from rfl, List.filterMap_eq_map, List.map_replicate]
  exact List.eq_replicate_iff.mpr ⟨by rw [List.length_map, List.length_range], fun b hb => by
    obtain ⟨x, _, e⟩ := List.mem_map.mp hb
    exact e.symm⟩
theorem all_id (n : Nat) : (List.replicate n true).all id = true := List.all_eq_true.mpr fun x hx => (List.eq_of_mem_replicate hx)
theorem filter_natsV (p : Nat → Bool) (f : Nat → Nat) (n : Nat) : (List.range n).filterMap (fun i => if p i = true then some (V.int ((f i : Nat) : Int)) else none) = natsV (((List.range n).filter p).map f) := by
  unfold natsV
  induction n with
  | zero => rfl
  | succ n ih =>
    rw [filterMap_range_succ, ih, List.range_succ, List.filter_append, List.map_append, List.map_append]
    congr 1
    rw [List.filter_cons]
    cases p n <;> rfl
theorem filter_nats (p : Nat → Bool) (n : Nat) : (List.range n).filterMap (fun i => if p i = true then some (V.int (i : Int)) else none) = natsV ((List.range n).filter p) := by
  have h := filter_natsV p id n
  rw [List.map_id] at h
  exact h
theorem slice_any {K : PySem.W.Frag} {H : Hp} {a : Addr} {xs : List V} {m : Nat} {Q : VK} (hx : H a = some (.tup xs)) (hm : m ≤ xs.length)
    (k : ∀ p H', Same H H' → H' p = some (.tup (xs.take m)) → Q (.ref p) H') : rSlA K (.ref a) none (some (m : Int)) H Q := by
  have e0 : HT.sIx xs.length 0 none = 0 := rfl
  have e1 : HT.sIx xs.length xs.length (some (m : Int)) = m := by
    rw [HT.sIx_nat]
    omega
  refine ⟨a, xs, rfl, SqT.of hx, fun e => ?_, fun _ p np => ?_⟩
  · rw [e1] at e
    exact k a H (Same.refl H) (by rw [hx, e.2, List.take_length])
  · refine k p _ (Same.new (Same.refl H) np) ?_
    rw [upd_same]
    unfold cutV
    rw [e0, e1]
    rfl
theorem ixn_nat {n j : Nat} (hj : j < n) : ixN n (j : Int) = some j := by
  unfold ixN
  rw [if_pos (by omega), if_pos (by omega)]
  simp
/-! ### words for books -/
local macro_rules | `(tactic| tm_at "fld") => `(tactic| refine ⟨_, _, _, _, _, rfl, by tm_at "hp", by assumption, by assumption, by first | exact bkF_bits _ _ | exact bkF_parents _ _ | fail "fld", ?_⟩)
section
open PySem.Spec PyProof.Rows
/-! ### super().__init__(text) in an own error over an own error over ValueError -/
section
variable {prog : Program} {w : World} {A : Around} {E : Value → Shared → Prop} {hp : Heap} {g : Array GenState} {d : Drawn} {t : Nat} {os : OsState}
variable {nm qn : Str} {C N : Addr} {bs bm sub : List Value} {hdct ab : Bool} {sn : List Str} {col : Option Bool} {dd : Option Addr} {k0 k1 k2 k3 k5 : Option Value}
theorem bound_init {u e t0 : Addr} {vals : List Value} {Q : Value → Shared → Prop} (kC : hp.get? C = some (excClassObj nm qn C N bs bm hdct sn sub ab col dd k0 k1 k2 k3 k5 "ValueError.__new__"))
    (ke : hp.get? e = some (PySem.HandSPX.excO C t0)) (ku : hp.get? u = some (PySem.W.kxs_mw "ValueError.__init__" e)) (few : vals.length ≤ sizeLine)
    (fin : ∀ h2 t2, (∀ b o, b ≠ e → hp.get? b = some o → h2.get? b = some o) → h2.get? e = some (PySem.HandSPX.excO C t2) → Q .none ⟨h2, g, d, t, os⟩) : wpAny (model prog w) A (call (.ref u) vals) Q E ⟨hp, g, d, t, os⟩ := by
  apply wpAny_call
  apply codeAny_of_tree
  change wpAny (model prog w) A.in1 (callAny (.ref u) ⟨vals, []⟩) _ _ _
  unfold callAny
  simp only
  apply wpAny_bind
  refine wpAny_load ku ?_
  have b1 : (Value.type "method-wrapper" == Value.type "method" || Value.type "method-wrapper" == Value.type "builtin_function_or_method" || Value.type "method-wrapper" == Value.type "method-wrapper") = true := by decide
  simp only [PySem.W.kxs_mw, b1, if_true]
  apply PySem.W.KFB.if_so (by decide)
  apply wpAny_bind
  refine PySem.W.check_bound_init F.excBase_ValueError.toExcCallFacts kC ke rfl ?_
  refine wpAny_pure ?_
  refine And.intro (plainId_quiet F.excBase_ValueError.init.plain _) (codeAny_builtin F.excBase_ValueError.initEntry ?_)
  rw [Around.under_plainId F.excBase_ValueError.init.plain _]
  wp_walk
  apply fin (t2 := hp.objs.size)
  · intro b o nb hb
    rw [Heap.get?_update_other _ _ (fun z => nb z.symm)]
    exact Heap.get?_push_of_some _ hb
  · rw [Heap.get?_update_self _ (Heap.get?_push_of_some _ ke) rfl]
    rfl
end
/-- what the written part says of a class and of its own __init__ that calls the one above -/
structure SupC (K : PySem.W.Frag) (mg : Str → Option Value) (prog : Program) (C f cc cda : Addr) (F : NdefX.NF) : Prop where
  ex : OexC K C
  opq : PySem.W.nsIn K cStatics "thirdparty.any" = some none
  sup : PySem.W.ks_superIn K C C "__init__" = some (some (.builtin "ValueError.__init__"))
  subV : PySem.W.subIn K (.ref C) (.type "ValueError") = some true
  mro : PySem.W.mroIn K C (.ref C) = some true
  cell : ∃ cl cld csl, K.lookup cc = some ⟨cl, cld, .cell (some (.ref C)), csl⟩
  code : ∃ ccl cdd vs ccs file tf, K.lookup cda = some ⟨ccl, cdd, .fields vs, ccs⟩ ∧ vs[2]? = some (.str file tf) ∧ ((prog.main.file : Str) == file) = true
  fn : ∃ oc od dV kV doc pm an ctv osl, K.lookup f = some ⟨oc, od, .func (PySem.W.fnX F.name F.qual F.params F.body F.scope F.cl dV kV doc pm an (.ref F.c) ctv), osl⟩
  top : (prog.main.scope.names.lookup ("super" : Str)).isSome = false
  nosup : mg "super" = none
  cl : F.cl = [(("__class__" : Str), cc)]
  c : F.c = cda
  kind : F.scope.kind = .function
  ks : F.scope.names.lookup ("super" : Str) = some .globalImplicit
  kc : F.scope.names.lookup ("__class__" : Str) = some .free
  kself : F.scope.names.lookup ("self" : Str) = some .local
  first : ∃ ar : Arg, (F.params.posonlyargs ++ F.params.args).head? = some ar ∧ ar.arg = ("self" : Str)
section
variable {X : Cx} {C f cc cda L a : Addr} {F : NdefX.NF} {σ : L2.St} {H : Hp} {s : Shared} {Q : Value → Shared → Prop} {E : Value → Shared → Prop} {p0 p1 p2 p3 p4 : Pos} {j : Nat} {msg : Str} {body : List Stmt}
theorem sup_eval (T : SupC X.K X.mg X.prog C f cc cda F) (hE : X.env = NdefX.envF F f L) (I : Inv X [] σ H s) (hN : X.N[0]? = some ("self" : Str)) (hσ : σ[0]? = some (some (.ref a))) (ha : H a = some (exo a C none)) (hb : bootBuiltins "super" = some (.type "super")) {pl : Sem Bool}
    (he : eval (.Call (.Attribute (.Call (.Name "super" p0) [] [] p1) "__init__" p2) [.Constant (.str msg) j p3] [] p4) X.env = (do
      let ov ← attributeBase (.Call (.Name "super" p0) [] [] p1) "__init__" X.env (eval (.Call (.Name "super" p0) [] [] p1) X.env)
      standAt p2.atName
      let (f, first) ← holding [ov] (getMethod ov "__init__" pl)
      callWith p4 f first (backTo p4 (starEach [.Constant (.str msg) j p3] X.env)) []))
    (h : ∀ s', Inv X [] σ H s' → Q .none s') :
    _root_.PySem.wpAt (model X.prog X.w) X.A (.func body X.env) (eval (.Call (.Attribute (.Call (.Name "super" p0) [] [] p1) "__init__" p2) [.Constant (.str msg) j p3] [] p4) X.env) Q X.xe s := by
  have KX := I.kIn
  obtain ⟨cl, cld, csl, lcell⟩ := T.cell
  obtain ⟨ccl, cdd, vs, ccs, file, tf, lcode, hvs, hfile⟩ := T.code
  obtain ⟨oc, od, dV, kV, doc, pm, an, ctv, osl, lfn⟩ := T.fn
  obtain ⟨ar, har, hself⟩ := T.first
  obtain ⟨nm, q, N, bs, bm, sn, sub, ab, col, dd, k0, k1, k2, k3, k5, hC, hbm⟩ := T.ex.cls
  obtain ⟨t1, ho⟩ := exo_at I.hok ha
  have hks : X.env.kindOf "super" = some .globalImplicit := by rw [hE]; exact T.ks
  have hkc : X.env.kindOf "__class__" = some .free := by rw [hE]; exact T.kc
  have hksf : X.env.kindOf "self" = some .local := by rw [hE]; exact T.kself
  have hkd : X.env.scope.kind = .function := I.ok.kind
  have hfu : X.env.func = some f := by rw [hE]
  have hco : X.env.code = .ref cda := by rw [hE, ← T.c]
  have hcl : X.env.cells.lookup ("__class__" : Str) = some cc := by rw [hE]; show F.cl.lookup ("__class__" : Str) = _; rw [T.cl]; rfl
  have hcls : PySem.W.clsIn X.K C = some { name := nm, bases := bs, mro := .ref C :: bm, ns := N, qualname := q, hasDict := true, slotNames := sn, subclasses := sub, abstract := ab, collection := col, hasDel := false } := by unfold PySem.W.clsIn; rw [hC] <;> rfl
  refine PySem.ks_wpAt_MethodCall ?_ he
  refine PySem.ks_wpAt_super_base hks hkc (by decide +kernel) hfu (KX _ _ lfn) rfl har hco (KX _ _ lcode) rfl hvs hfile T.top ?_
  obtain ⟨mb, g1, g2⟩ := I.mod.blt
  refine PySem.W.ks_loadName_global hkd hks (Calls.loadGlobal_builtin (by rw [I.ok.glob]; exact I.mod.glob.keeps I.bk) T.nosup (by rw [I.ok.blt]; exact g1.keeps I.bk) ((g2 "super" (by decide)).trans hb) ⟨rfl, ?_⟩)
  refine wpAny_loadName_free hkd hkc hcl ⟨_, KX _ _ lcell, rfl⟩ ?_
  obtain ⟨m, hns, hloc⟩ := I.loc
  obtain ⟨u, ru, hl⟩ := hloc 0 "self" (.ref a) hN hσ (.inl (by rw [hE]; exact T.kself))
  have hm : m "self" = some (.ref a) := by
    rcases hl with ⟨_, hl⟩ | ⟨hl, _⟩
    · cases ru
      exact hl
    · rw [hksf] at hl
      rcases hl with hl | hl <;> cases hl
  rw [hself]
  refine wpAny_loadName_local hkd hksf hns hm ?_
  have KC := KX _ _ hC
  have ia : PySem.W.InstAt s.heap a { cls := .ref C, dict := none, data := .fields #[.ref t1, .none, .none, .none, .bool false, .none] } C none := ⟨ho, rfl, rfl, trivial⟩
  have ne : a ≠ C := PySem.W.ks_ne KX ia hcls
  have hI : PySem.W.Looks (model X.prog X.w) s.heap (isInstance (.ref a) (.type "ValueError")) true := ia.type.andThen (PySem.W.looks_subIn KX T.subV)
  obtain ⟨hp, g, d, t, os⟩ := s
  refine ks_wpAny_isType_cls KC rfl ⟨rfl, ?_⟩
  refine ks_wpAny_call_super KC rfl ho rfl (fun c e => nomatch e) (PySem.W.looks_mroIn KX T.mro) (fun h1 eso kk => ?_)
  have I1 : Inv X [] σ H ⟨h1, g, d, t, os⟩ := I.kept (t' := t) kk
  have KX1 := I1.kIn
  have ia1 : PySem.W.InstAt h1 a { cls := .ref C, dict := none, data := .fields #[.ref t1, .none, .none, .none, .bool false, .none] } C none := ⟨kk _ _ ho, rfl, rfl, trivial⟩
  have hf : PySem.W.alongIn X.K "__init__" (((Value.ref C :: bm).dropWhile (· != .ref C)).drop 1) = some (some (.builtin "ValueError.__init__")) := by
    have := T.sup
    unfold PySem.W.ks_superIn at this
    rw [hcls] at this
    exact this
  refine PySem.W.kxs_getMethod PySem.W.kxs_ValueError eso (PySem.W.looks_opaque KX1 T.opq) (l₀ := .ref C :: bm) (fun A Q E s k q => wpAny_bind ((PySem.W.looks_clsIn KX1 hcls) A _ E s k (wpAny_pure q))) rfl KX1 hf (ia1.type.andThen (PySem.W.looks_subIn KX1 T.subV)) ne (by decide +kernel) ?_
  have hu0 : (h1.push (PySem.W.kxs_mw "ValueError.__init__" a)).get? h1.objs.size = some (PySem.W.kxs_mw "ValueError.__init__" a) := Heap.get?_push_at rfl rfl
  have I2 : Inv X [] σ H ⟨h1.push (PySem.W.kxs_mw "ValueError.__init__" a), g, d, t + 1, os⟩ := I1.kept (t' := t + 1) fun b o e => Heap.get?_push_of_some _ e
  have fp : FpOk X [] H h1.objs.size := I1.fpOk (Nat.le_refl _) (I1.hok.fresh (Nat.le_refl _))
  have I3 := I2.pinned (fp := [h1.objs.size]) (fun b hb => by rw [List.mem_singleton.mp hb]; exact fp) (fun b hb => by rw [List.mem_singleton.mp hb]; exact ⟨_, hu0, fun v z => nomatch z⟩)
  have pin : (h1.objs.size, PySem.W.kxs_mw "ValueError.__init__" a) ∈ ([] ++ pinsAt [h1.objs.size] (h1.push (PySem.W.kxs_mw "ValueError.__init__" a)) : List (Addr × Obj)) := by
    rw [List.nil_append]
    exact mem_pinsAt (List.mem_singleton.mpr rfl) hu0
  have ap : PA X [.Constant (.str msg) j p3] (tCons (tC (.str msg)) tNil) := pa_cons pe_str pa_nil
  show wpAny (model X.prog X.w) X.A (callWith p4 (.ref h1.objs.size) [] (backTo p4 (starEach [.Constant (.str msg) j p3] X.env)) []) Q X.xe _
  refine PySem.W.kxs_callWith (i := "ValueError.__init__") (x := a) (by rfl) ?_
  show wpAny (model X.prog X.w) X.A (evalArgs (.ref h1.objs.size) true ((false, eval (.Constant (.str msg) j p3) X.env) :: []) []) _ X.xe _
  refine PySem.Calls.evalArgs_plain (wpAny_mono (ap.run p4 _ _ σ H (fun vs H1 => vs = [V.str msg] ∧ H1 = H) I3 ⟨rfl, rfl⟩) (fun us s4 hh => ?_) fun _ _ z => z)
  obtain ⟨vs4, H4, I4, r4, ev, eH⟩ := hh
  subst eH
  have hu4 := (I4.pin _ (List.mem_append_right _ pin)).1
  refine ⟨hu4, ?_⟩
  have I5 : Inv X [] σ H4 s4 := I4.unpinned (pl := pinsAt [h1.objs.size] (h1.push (PySem.W.kxs_mw "ValueError.__init__" a)))
  obtain ⟨t5, ho5⟩ := exo_at I5.hok ha
  obtain ⟨h5, g5, d5, tk5, os5⟩ := s4
  have few : us.length ≤ sizeLine := by
    rw [← r4.length, ev]
    show 1 ≤ sizeLine
    rw [sizeLine_eq]
    omega
  refine bound_init (I5.kIn _ _ hC) ho5 hu4 few fun h6 t6 k6 e6 => ?_
  have J := I5.write (t' := tk5) (x := a) (e := a) (o := exo a C none) (by rw [ha]; exact True.intro) (.inl rfl) k6 ⟨_, e6⟩ (exo_ok e6)
  have eu : upd H4 a (exo a C none) = H4 := by
    funext b
    by_cases hb : b = a
    · rw [hb, upd_same, ha]
    · rw [upd_ne hb]
  rw [eu] at J
  exact h _ J
end
/-- an own __init__ whose first line is super().__init__(text), as a def -/
theorem sup_fn {CX : CXT} {P : Program} {w : World} {K : PySem.W.Frag} {mg : Str → Option Value} {base : Heap} {C f cc cda : Addr} {F : NdefX.NF} {N ps : List Str} {rest : List Stmt} {k : Nat} {sp : Sp} {oc : Value} {od an : Option Addr} {dV kV doc pm ctv : Value} {osl : Array (Option Value)}
    {p0 p1 p2 p3 p4 p5 : Pos} {j : Nat} {msg : Str} {pl : Sem Bool}
    (lk : K.lookup f = some ⟨oc, od, .func (PySem.W.fnX F.name F.qual F.params F.body F.scope F.cl dV kV doc pm an (.ref F.c) ctv), osl⟩) (hcd : PySem.W.codeIn K (.ref F.c) F.qual = true)
    (T : SupC K mg P C f cc cda F) (S : NdefX.NScope N ps [("__class__" : Str)] F.scope) (hN : N[0]? = some ("self" : Str)) (len : ∀ vs H Q E, sp vs H Q E → vs.length = ps.length)
    (hF : F.body = .Expr (.Call (.Attribute (.Call (.Name "super" p0) [] [] p1) "__init__" p2) [.Constant (.str msg) j p3] [] p4) p5 :: rest)
    (he : ∀ L, eval (.Call (.Attribute (.Call (.Name "super" p0) [] [] p1) "__init__" p2) [.Constant (.str msg) j p3] [] p4) (NdefX.envF F f L) = (do
      let ov ← attributeBase (.Call (.Name "super" p0) [] [] p1) "__init__" (NdefX.envF F f L) (eval (.Call (.Name "super" p0) [] [] p1) (NdefX.envF F f L))
      standAt p2.atName
      let (f', first) ← holding [ov] (getMethod ov "__init__" pl)
      callWith p4 f' first (backTo p4 (starEach [.Constant (.str msg) j p3] (NdefX.envF F f L))) []))
    (hi : ∀ L, interactive (NdefX.envF F f L) = false) (hs : ∀ L, swapsWith (.Call (.Attribute (.Call (.Name "super" p0) [] [] p1) "__init__" p2) [.Constant (.str msg) j p3] [] p4) none p5.line (NdefX.envF F f L) = pure false)
    (hb : bootBuiltins "super" = some (.type "super"))
    (hbody : ∀ (A : Around) (outer : List Env) (s : Shared) (H : Hp) (vs : List V) (Q : VK) (E : XK), Room k (A.deeper (NdefX.envF F f s.heap.objs.size)) → sp vs H Q E →
      ∃ a, vs[0]? = some (.ref a) ∧ H a = some (exo a C none) ∧ ∃ t, PSs (NdefX.ncx CX P w K mg base N F f A outer s H E) rest t ∧ t { nx := fun _ H' => Q .non H', rt := Q } (NdefX.startF N vs [none]) H) :
    FnOk P w K mg base CX (k + 1) f (PySem.W.fnX F.name F.qual F.params F.body F.scope F.cl dV kV doc pm an (.ref F.c) ctv) ps sp := by
  refine ⟨len, fun A outer s H args us vs Q E hr e0 hbd r hsp => ?_⟩
  have hl := len _ _ _ _ hsp
  have KX : K.In s.heap := e0.mod.kin.keeps fun b o e => (e0.bs b o e).1
  have lim : s.heap.NoLimit := e0.mod.nolimit.keeps fun b o e => (e0.bs b o e).1
  obtain ⟨cl, cld, csl, lcell⟩ := T.cell
  have bcell := e0.bs _ _ (e0.mod.kin _ _ lcell)
  have cells : NdefX.CellsAt F.cl [("__class__" : Str)] [none] s.heap H := by
    have look : ∀ y c, F.cl.lookup y = some c → y = ("__class__" : Str) ∧ c = cc := fun y c e => by
      rw [T.cl] at e
      by_cases hy : y = ("__class__" : Str)
      · subst hy
        have : some cc = some c := e
        exact ⟨rfl, (Option.some.inj this).symm⟩
      · have : (y == ("__class__" : Str)) = false := by simpa using hy
        simp [List.lookup, this] at e
    refine ⟨rfl, fun y c e => ?_, fun x y c h1 h2 => (look x c h1).1.trans (look y c h2).1.symm, fun i y hy => ?_⟩
    · obtain ⟨_, rfl⟩ := look y c e
      exact ⟨bcell.2, _, _, bcell.1, rfl⟩
    · have hy' : y = ("__class__" : Str) := by
        cases i with
        | zero => exact (Option.some.inj hy).symm
        | succ i => simp at hy
      subst hy'
      refine ⟨cc, by rw [T.cl]; rfl, fun v hv => ?_⟩
      cases i with
      | zero => cases hv
      | succ i => simp at hv
  refine PySem.ks_codeAny_call_defAt (fd := PySem.W.fnX F.name F.qual F.params F.body F.scope F.cl dV kV doc pm an (.ref F.c) ctv) (body := F.body) (binds := ps.zip us) hr.depth (KX _ _ lk) rfl lim (PySem.W.codeRec_of KX hcd) rfl hbd S.nocell (fun ⟨n, _⟩ hy => S.par n (List.of_mem_zip hy).1) (fun h₁ hns kp => ?_) S.co S.gen S.kind
  have I : Inv (NdefX.ncx CX P w K mg base N F f A outer s H E) [] (NdefX.startF N vs [none]) H { s with heap := h₁, toks := s.toks + (ps.zip us).length } := NdefX.inv_startN S hr.hd e0 hl r cells hns kp
  obtain ⟨a, hv0, ha, t, ht, hq⟩ := hbody A outer s H vs Q E (hr.deeper _) hsp
  show _root_.PySem.wpAt (model P w) (A.deeper (NdefX.envF F f s.heap.objs.size)) (.func F.body (NdefX.envF F f s.heap.objs.size)) (execs F.body (NdefX.envF F f s.heap.objs.size)) _ _ _
  have hσ : (NdefX.startF N vs [none])[0]? = some (some (.ref a)) := by
    unfold NdefX.startF
    rw [List.getElem?_append_left (by rw [List.length_map]; exact (List.getElem?_eq_some_iff.mp hv0).1), List.getElem?_map, hv0]
    rfl
  rw [show execs F.body (NdefX.envF F f s.heap.objs.size) = execs (.Expr (.Call (.Attribute (.Call (.Name "super" p0) [] [] p1) "__init__" p2) [.Constant (.str msg) j p3] [] p4) p5 :: rest) (NdefX.envF F f s.heap.objs.size) by rw [hF]]
  refine PySem.ks_wpAt_execs_cons (PySem.ks_wpAt_Expr_any (sup_eval (X := NdefX.ncx CX P w K mg base N F f A outer s H E) (F := F) T rfl I hN hσ ha hb (he _) fun s' J => ?_) (hi _) (hs _))
  refine _root_.PySem.wpAt_of_wpAny ?_
  refine wpAny_mono (ht.run [] s' _ H _ J hq) (fun fl s'' hs => ?_) fun e s'' hs => hs
  have fin : ∀ {σ' : L2.St} {H' : Hp} {v : V} {u : Value}, Inv (NdefX.ncx CX P w K mg base N F f A outer s H E) [] σ' H' s'' → L2.RelV v u → Q v H' → CE outer P w H s Q u s'' :=
    fun {σ' H' v u} J rv q => ⟨v, H', J.os, J.bare, J.base, J.hok, rv, q⟩
  cases fl with
  | ret u =>
    obtain ⟨v, σ', H', J, rv, q⟩ := hs
    exact fin J rv q
  | next =>
    obtain ⟨σ', H', J, q⟩ := hs
    exact fin (v := V.non) (u := Value.none) J rfl q
  | brk =>
    obtain ⟨_, _, _, q⟩ := hs
    exact False.elim q
  | cont =>
    obtain ⟨_, _, _, q⟩ := hs
    exact False.elim q
/-! ### the errors made -/
/-- an error without a field is let go of: the heap is as it was -/
theorem let_go {X : Cx} {pins : List (Addr × Obj)} {σ : L2.St} {H : Hp} {Q : XK} {hp hp2 h2 : Heap} {g1 g2 : Array GenState} {d1 d2 : Drawn} {t1 t2 : Nat} {os1 os2 : OsState} {a C : Addr} (T : Raises X (.ref C)) (I : Inv X pins σ H ⟨hp, g1, d1, t1, os1⟩)
    (ha : hp.objs.size ≤ a) (k : ∀ b o, hp.get? b = some o → hp2.get? b = some o) (un : Un (frs X.stack) [] (upd H a (exo a C none)) (upd H a (exo a C none)) hp2 h2) (hok : HOk X.prog X.w (upd H a (exo a C none)) h2) (ho : os2 = os1) (hb : AllBare g2)
    (q : Q (.ref C) none H) : MkP X pins σ Q (.ref a) ⟨h2, g2, d2, t2, os2⟩ := by
  obtain ⟨t0, hoe⟩ := exo_at hok upd_same
  have hn : H a = none := I.hok.fresh ha
  obtain ⟨G, in1, in2⟩ := restrict h2 fun b => decide (b ≠ a)
  have there : ∀ b, b ≠ a → G.get? b = h2.get? b := fun b nb => in1 b (decide_eq_true nb)
  have gone : G.get? a = none := in2 a (by simp)
  have old : ∀ {b : Addr} {o : Obj}, hp.get? b = some o → b ≠ a := fun {b o} z => Nat.ne_of_lt (Nat.lt_of_lt_of_le (Heap.lt_size z) ha)
  have up : ∀ {b : Addr}, b ≠ a → upd H a (exo a C none) b = H b := fun {b} nb => upd_ne nb
  have U : Un (frs X.stack) [] H H hp G := {
    keep := fun b o z n hf hx => by
      rw [there b (old z)]
      exact un.keep b o (k b o z) (by rw [up (old z)]; exact n) hf hx
    slot := fun b o z n hf hx => by
      rw [there b (old z)]
      exact un.slot b o (k b o z) (by rw [up (old z)]; exact n) hf hx
    free := fun b o z n hx => n
    there := fun b o z hx => by
      rw [there b (old z)]
      exact un.there b o (k b o z) hx
    tups := fun b xs z => z
    frzs := fun b o u z => z
    tbls := fun b ps z => ⟨#[], by rw [z]; simp⟩ }
  have hok3 : HOk X.prog X.w H G := fun b o z => by
    have nb : b ≠ a := ne_of_none z hn
    refine (hok b o (by rw [up nb]; exact z)).stay (fun c v hc y => ?_) (fun c hc => ?_) (fun c xs hc => ?_)
    · have nc : c ≠ a := by
        rcases hc with hc | hc
        · rw [hc]
          exact nb
        · exact fun e => by
            rw [e, upd_same] at hc
            exact exo_own (Option.some.inj hc)
      rw [there c nc]
      exact y
    · have nc : c ≠ a := fun e => by
        rw [e, upd_same] at hc
        exact exo_own (Option.some.inj hc)
      rw [up nc] at hc
      exact hc
    · have nc : c ≠ a := fun e => by
        rw [e, upd_same] at hc
        exact exo_tup (Option.some.inj hc)
      rw [up nc] at hc
      exact hc
  have J : Inv X pins σ H ⟨G, g2, d2, t2, os2⟩ := I.call' (ch := []) ho U hok3 hb (fun b z => absurd z (by simp))
  refine ⟨a, _, _, ⟨G, g2, d2, t2, os2⟩, H, .ref C, none, rfl, J, fun b o z => ?_, gone, hoe, ⟨rfl, rfl⟩, rfl, rfl, hn, rfl, hb, T, q⟩
  by_cases hba : b = a
  · rw [hba, gone] at z
    cases z
  · exact (there b hba).symm.trans z
section
variable {X : Cx} {CX : CXT} {x : Str} {C fI : Addr} {k : Nat} {fd : FuncData} {ps : List Str} {p pos : Pos}
/-- what an __init__ of such an error promises -/
def sp_err (C : Addr) : Sp := fun vs H Q _ => ∃ a, vs = [.ref a] ∧ H a = some (exo a C none) ∧ Q .non H
def sp_errF (C : Addr) (fld : Str) : Sp := fun vs H Q _ => ∃ a v, vs = [.ref a, v] ∧ H a = some (exo a C none) ∧ ∀ dx, H dx = none → dx ≠ a → Q .non (upd (upd H dx (exd dx [(fld, v)])) a (exo a C (some dx)))
/-- X() -/
theorem pmk_n (T : OexC X.K C) (iC : PySem.W.findIn X.K (.ref C) "__init__" = some (some (.ref fI))) (tI : PySem.W.typeIn X.K (.ref fI) = some (.type "function"))
    (F1 : FnOk X.prog X.w X.K X.mg X.base CX k fI fd ps (sp_err C)) (hr : Room (k + 1) X.A) (hb : Binds X.K fd ps []) (hx : Passes CX X (fun _ _ _ => False)) (hg : Gl X x) (hm : X.mg x = some (.ref C))
    (hdb : (x == ("__debug__" : Str)) = false := by decide) : PMk X (.Call (.Name x p) [] [] pos) (fun _ H Q => Q (.ref C) none H) := by
  intro pins s σ H Q I h
  obtain ⟨nm, q, N, bs, bm, sn, sub, ab, col, dd, k0, k1, k2, k3, k5, hC, hbm⟩ := T.cls
  refine wpAny_Call_Name_kw (ld_glob I hg hm ?_ hdb)
  refine PySem.W.callWith_K0 I.kIn T.kC ?_
  show wpAny _ _ (call (.ref C) []) _ _ _
  obtain ⟨hp, g, dr, tk, os⟩ := s
  have up1 : hp.objs.size ≤ hp.objs.size + 1 := Nat.le_succ _
  have kk : ∀ b o, hp.get? b = some o → ((hp.push (PySem.W.kdv_tup [])).push (PySem.HandSPX.excO C hp.objs.size)).get? b = some o := fun b o e => Heap.get?_push_of_some _ (Heap.get?_push_of_some _ e)
  have here : ((hp.push (PySem.W.kdv_tup [])).push (PySem.HandSPX.excO C hp.objs.size)).get? (hp.objs.size + 1) = some (PySem.HandSPX.excO C hp.objs.size) := by heap_get
  have I2 : Inv X pins σ (upd H (hp.objs.size + 1) (exo (hp.objs.size + 1) C none)) ⟨(hp.push (PySem.W.kdv_tup [])).push (PySem.HandSPX.excO C hp.objs.size), g, dr, tk, os⟩ :=
    I.laid (t' := tk) (a := hp.objs.size + 1) (o := exo (hp.objs.size + 1) C none) (h' := (hp.push (PySem.W.kdv_tup [])).push (PySem.HandSPX.excO C hp.objs.size)) kk up1 (exo_ok here)
  have want : sp_err C [V.ref (hp.objs.size + 1)] (upd H (hp.objs.size + 1) (exo (hp.objs.size + 1) C none)) (fun v H2 => v = .non ∧ H2 = upd H (hp.objs.size + 1) (exo (hp.objs.size + 1) C none)) (fun _ _ _ => False) := ⟨_, rfl, upd_same, rfl, rfl⟩
  have r2 : Vals [V.ref (hp.objs.size + 1)] [Value.ref (hp.objs.size + 1)] := .cons rfl .nil
  have hl : ([Value.ref (hp.objs.size + 1)] ++ []).length = ps.length := (F1.len _ _ _ _ want).symm ▸ rfl
  refine wpAny_call (PySem.HandSPX.call_own F.excBase_ValueError (fun Y => PySem.HandSPX.refsVE_contains Y bm hbm) (I.kIn _ _ hC) (PySem.W.looks_findIn I.kIn iC) (fun self => PySem.W.bind_fn I.kIn self tI) (Nat.zero_le _)
    (codeAny_mono (F1.run _ X.stack _ _ ⟨[Value.ref (hp.objs.size + 1)], []⟩ [Value.ref (hp.objs.size + 1)] _ _ (fun _ _ _ => False) (hr.make C [] []) (I2.env0.make C [] []) (hb _ [Value.ref (hp.objs.size + 1)] I2.kIn hl) r2 want) fun r s' hq => ?_))
  cases r with
  | error er => exact hx pins σ _ _ er s' I2 hq
  | ok fl =>
    cases fl with
    | ret u =>
      obtain ⟨v, H2, os2, bare2, un2, hok2, rv, ev, eH⟩ := hq
      subst ev eH
      obtain ⟨h2, g2, d2, t2, os'⟩ := s'
      exact ⟨rv, let_go (raises_own T.exC T.tyC) I up1 kk un2 hok2 os2 bare2 h⟩
    | next => exact False.elim hq
    | brk => exact False.elim hq
    | cont => exact False.elim hq
/-- X(e): what is left to be shown behind e (by pmk_oex) -/
theorem errF_go {fld : Str} {v : V} {H1 : Hp} {Q : XK} (h : ∀ d, H1 d = none → Q (.ref C) (some d) (upd H1 d (.xd [(fld, v)]))) : ([v] : List V).length ≤ 1000 ∧ ∀ a, H1 a = none → sp_errF C fld (V.ref a :: ([v] ++ [])) (upd H1 a (exo a C none))
    (fun v H2 => v = .non ∧ ∃ (d : Addr) (fs : List (Str × V)), H2 a = some (exo a C (some d)) ∧ H2 d = some (exd d fs) ∧ H1 d = none ∧ Q (.ref C) (some d) (upd (del H2 a) d (.xd fs))) (fun _ _ _ => False) := by
  refine ⟨by show 1 ≤ 1000; decide, fun a na => ⟨a, v, rfl, upd_same, fun dx nd ne => ⟨rfl, dx, [(fld, v)], upd_same, ?_, ?_, ?_⟩⟩⟩
  · rw [upd_ne ne, upd_same]
  · rw [upd_ne ne] at nd
    exact nd
  · rw [upd_ne ne] at nd
    have e : upd (del (upd (upd (upd H1 a (exo a C none)) dx (exd dx [(fld, v)])) a (exo a C (some dx))) a) dx (.xd [(fld, v)]) = upd H1 dx (.xd [(fld, v)]) := by
      funext b
      by_cases h1 : b = dx
      · rw [h1, upd_same, upd_same]
      · rw [upd_ne h1, upd_ne h1]
        by_cases h2 : b = a
        · rw [h2, del_same, na]
        · rw [del_ne h2, upd_ne h2, upd_ne h1, upd_ne h2]
    rw [e]
    exact h dx nd
end
/-! ### an error class, its facts -/
def NFo (qual : Str) (st : Stmt) (cc cda : Addr) : NdefX.NF := ⟨"__init__", qual, defArgs st, defBody st, defScope st, [(("__class__" : Str), cc)], cda⟩
structure ErrC (P : Program) (K : PySem.W.Frag) (mg : Str → Option Value) (nm qual : Str) (st : Stmt) (ps : List Str) (C f : Addr) (fd : FuncData) : Prop where
  g : mg nm = some (.ref C)
  all : ∃ (cc cda : Addr) (oc : Value) (od : Option Addr) (dV kV doc pm : Value) (an : Option Addr) (ctv : Value) (osl : Array (Option Value)), fd = PySem.W.fnX "__init__" qual (defArgs st) (defBody st) (defScope st) [(("__class__" : Str), cc)] dV kV doc pm an (.ref cda) ctv ∧
    K.lookup f = some ⟨oc, od, .func fd, osl⟩ ∧ PySem.W.codeIn K (.ref cda) qual = true ∧ SupC K mg P C f cc cda (NFo qual st cc cda)
  ex : OexC K C
  ic : PySem.W.findIn K (.ref C) "__init__" = some (some (.ref f))
  ti : PySem.W.typeIn K (.ref f) = some (.type "function")
  bi : Binds K fd ps []
  xc : ExcC K C
theorem err_mk {P : Program} {K : PySem.W.Frag} {mg : Str → Option Value} {nm qual : Str} {st : Stmt} {ps : List Str} {C f cc cda N : Addr} {n0 q0 : Str} {bs bm sub : List Value} {sn : List Str} {ab : Bool} {col : Option Bool} {dd : Option Addr} {k0 k1 k2 k3 k5 : Option Value}
    {cl : Value} {cld : Option Addr} {csl : Array (Option Value)} {ccl : Value} {cdd : Option Addr} {vs : Array Value} {ccs : Array (Option Value)} {file : Str} {tf : Tok} {oc : Value} {od : Option Addr} {dV kV doc pm : Value} {an : Option Addr} {ctv : Value} {osl : Array (Option Value)}
    (g : mg nm = some (.ref C)) (lc : K.lookup C = some (excClassObj n0 q0 C N bs bm true sn sub ab col dd k0 k1 k2 k3 k5 "ValueError.__new__")) (rv : PySem.HandSPX.refsVE bm = true) (sa : PySem.W.findIn K (.ref C) "__setattr__" = some (some (.builtin "object.__setattr__")))
    (ex : PySem.W.subIn K (.ref C) (.type "BaseException") = some true) (ty : PySem.W.typeIn K (.ref C) = some (.type "type")) (kp : PySem.W.keepIn K (.ref C) = true) (op : PySem.W.nsIn K cStatics "thirdparty.any" = some none)
    (su : PySem.W.ks_superIn K C C "__init__" = some (some (.builtin "ValueError.__init__"))) (sv : PySem.W.subIn K (.ref C) (.type "ValueError") = some true) (mr : PySem.W.mroIn K C (.ref C) = some true)
    (ce : K.lookup cc = some ⟨cl, cld, .cell (some (.ref C)), csl⟩) (co : K.lookup cda = some ⟨ccl, cdd, .fields vs, ccs⟩) (vf : vs[2]? = some (.str file tf)) (ff : ((P.main.file : Str) == file) = true)
    (lf : K.lookup f = some ⟨oc, od, .func (PySem.W.fnX "__init__" qual (defArgs st) (defBody st) (defScope st) [(("__class__" : Str), cc)] dV kV doc pm an (.ref cda) ctv), osl⟩) (cd : PySem.W.codeIn K (.ref cda) qual = true)
    (a : PySem.W.findIn K (.ref C) "__init__" = some (some (.ref f))) (t : PySem.W.typeIn K (.ref f) = some (.type "function")) (tp : (P.main.scope.names.lookup ("super" : Str)).isSome = false) (ns : mg "super" = none)
    (kd : (defScope st).kind = .function) (ks : (defScope st).names.lookup ("super" : Str) = some .globalImplicit) (kc : (defScope st).names.lookup ("__class__" : Str) = some .free) (ksf : (defScope st).names.lookup ("self" : Str) = some .local)
    (fst : ∃ ar : Arg, ((defArgs st).posonlyargs ++ (defArgs st).args).head? = some ar ∧ ar.arg = ("self" : Str))
    (bi : ∀ (us : List Value), us.length = ps.length → bindArgs (PySem.W.fnX "__init__" qual (defArgs st) (defBody st) (defScope st) [(("__class__" : Str), cc)] dV kV doc pm an (.ref cda) ctv) ⟨us, []⟩ = pure (ps.zip us))
    (ga : PySem.W.findIn K (.ref C) "__getattribute__" = some (some (.builtin "BaseException.__getattribute__"))) (gk : PySem.W.findIn K (.ref C) "__getattr__" = some none) (hd : PySem.W.hasDictIn K C = true) (ha : PySem.W.findIn K (.ref C) "__class__" = some (some (.builtin "object.__class__")))
    (hn : PySem.W.specialIn K (.builtin "object.__class__") "__get__" = some (some (.builtin "getset_descriptor.__get__"))) (ht : PySem.W.takesIn K (.builtin "object.__class__") = some true) (hm : PySem.W.mroIn K C (.type "object") = some true) :
    ErrC P K mg nm qual st ps C f (PySem.W.fnX "__init__" qual (defArgs st) (defBody st) (defScope st) [(("__class__" : Str), cc)] dV kV doc pm an (.ref cda) ctv) := by
  have oex : OexC K C := ⟨⟨_, _, _, _, _, _, _, _, _, _, _, _, _, _, _, lc, rv⟩, sa, ex, ty, kp⟩
  exact ⟨g, ⟨cc, cda, oc, od, dV, kV, doc, pm, an, ctv, osl, rfl, lf, cd, ⟨oex, op, su, sv, mr, ⟨_, _, _, ce⟩, ⟨_, _, _, _, _, _, co, vf, ff⟩, ⟨_, _, _, _, _, _, _, _, _, lf⟩, tp, ns, rfl, rfl, kd, ks, kc, ksf, fst⟩⟩, oex, a, t, .all bi, ⟨ga, gk, ex, hd, ha, hn, ht, hm⟩⟩
/-- isinstance(e, c) in a suite, e of a class without fields -/
def rIsG (K : PySem.W.Frag) (a : Addr) (cls : Value) (d : Option Addr) : List V → Hp → VK → Prop := fun xs H Q => ∃ D, cls = .ref D ∧ d = none ∧ ExcC K D ∧ rIsE K D a xs H Q
theorem call_isG {X : Cx} {a : Addr} {oe : Obj} {cls : Value} {d : Option Addr} {pn : List (Addr × Obj)} (hz : Zc cls d oe) (hf : ∃ vs, oe.data = .fields vs) : CallR (X.suite a ((a, oe) :: pn)) (.builtin "isinstance") (rIsG X.K a cls d) := by
  rintro pins s σ H xs us Q I r ⟨D, rfl, rfl, C, h⟩
  exact call_isE C hz hf pins s σ H xs us Q I r h
end
/-! ### things of any kind -/
structure KitC (K : PySem.W.Frag) (C : Addr) : Prop where
  cl : Cls K C
  ty : InsT K C
  i : PySem.W.kitOne K (.ref C) (.type "int") = some false
  b : PySem.W.kitOne K (.ref C) (.type "bool") = some false
  t : PySem.W.kitOne K (.ref C) (.type "tuple") = some false
  l : PySem.W.kitOne K (.ref C) (.type "list") = some false
/-- a thing that is looked at so deep; its address is not z -/
inductive Th (C z : Addr) (H : Hp) : Nat → V → Prop
  | int (n : Nat) (i : Int) : Th C z H n (.int i)
  | bl (n : Nat) (b : Bool) : Th C z H n (.bl b)
  | non (n : Nat) : Th C z H n .non
  | str (n : Nat) (x : Str) : Th C z H n (.str x)
  | lst (n : Nat) (a : Addr) (xs : List V) : a ≠ z → H a = some (.lst xs) → Th C z H n (.ref a)
  | dK (n : Nat) (a : Addr) (xs : List (Key × V)) : a ≠ z → H a = some (.dK xs) → Th C z H n (.ref a)
  | ins (n : Nat) (a dx : Addr) (fs : List (Str × V)) : a ≠ z → H a = some (.ins C dx fs) → Th C z H n (.ref a)
  | tup0 (a : Addr) (xs : List V) : a ≠ z → H a = some (.tup xs) → Th C z H 0 (.ref a)
  | tup (n : Nat) (a : Addr) (xs : List V) : a ≠ z → H a = some (.tup xs) → xs.length ≤ 1000 → (∀ x ∈ xs, Th C z H n x) → Th C z H (n + 1) (.ref a)
section
variable {C z : Addr} {H H' : Hp} {K : PySem.W.Frag}
theorem Th.keep {n : Nat} {v : V} (h : Th C z H n v) (k : ∀ a o, a ≠ z → H a = some o → H' a = some o) : Th C z H' n v := by
  induction h with
  | int n i => exact .int n i
  | bl n b => exact .bl n b
  | non n => exact .non n
  | str n x => exact .str n x
  | lst n a xs h1 h2 => exact .lst n a xs h1 (k _ _ h1 h2)
  | dK n a xs h1 h2 => exact .dK n a xs h1 (k _ _ h1 h2)
  | ins n a dx fs h1 h2 => exact .ins n a dx fs h1 (k _ _ h1 h2)
  | tup0 a xs h1 h2 => exact .tup0 a xs h1 (k _ _ h1 h2)
  | tup n a xs h1 h2 h3 _ ih => exact .tup n a xs h1 (k _ _ h1 h2) h3 ih
theorem Th.same {n : Nat} {v : V} (h : Th C z H n v) (s : Same H H') : Th C z H' n v := h.keep fun a o _ e => s a o e
theorem Th.mv {τ : Tp} {n : Nat} {v : V} (h : Th C τ.t H n v) (m : Mv τ H H') : Th C τ.t H' n v := h.keep m.keep
theorem Th.down {n : Nat} {v : V} (h : Th C z H (n + 1) v) : Th C z H n v := by
  generalize e : n + 1 = m at h
  induction h generalizing n with
  | int _ i => exact .int n i
  | bl _ b => exact .bl n b
  | non _ => exact .non n
  | str _ x => exact .str n x
  | lst _ a xs h1 h2 => exact .lst n a xs h1 h2
  | dK _ a xs h1 h2 => exact .dK n a xs h1 h2
  | ins _ a dx fs h1 h2 => exact .ins n a dx fs h1 h2
  | tup0 a xs h1 h2 => cases e
  | tup m a xs h1 h2 h3 h4 ih =>
    obtain rfl : n = m := by omega
    cases n with
    | zero => exact .tup0 a xs h1 h2
    | succ n => exact .tup n a xs h1 h2 h3 fun x hx => ih x hx rfl
theorem Th.intK (kc : KitC K C) {n : Nat} {v : V} (h : Th C z H n v) : IntK K H v := by
  cases h with
  | int _ i => exact .int i
  | bl _ b => exact .bl b
  | non _ => exact .non
  | str _ x => exact .str x
  | lst _ a xs h1 h2 => exact .lst h2
  | dK _ a xs h1 h2 => exact .dK h2
  | ins _ a dx fs h1 h2 => exact ⟨_, false, false, .base (.ins h2 kc.cl kc.ty.ha kc.ty.hn kc.ty.htk kc.ty.hm), kc.i, kc.b, rfl⟩
  | tup0 a xs h1 h2 => exact .tup h2
  | tup m a xs h1 h2 h3 h4 => exact .tup h2
theorem Th.ty (kc : KitC K C) {n : Nat} {v : V} (h : Th C z H (n + 1) v) : ∃ (t : Value) (bt : Bool), TyX K H v t ∧ PySem.W.kitOne K t (.type "tuple") = some bt ∧
    ((bt = false ∧ ∀ a xs, v = .ref a → H a ≠ some (.tup xs)) ∨ ∃ a xs, v = .ref a ∧ H a = some (.tup xs) ∧ bt = true ∧ xs.length ≤ 1000 ∧ ∀ x ∈ xs, Th C z H n x) := by
  cases h with
  | int _ i => exact ⟨_, false, .base (.int i), kit_ty (by decide +kernel), .inl ⟨rfl, fun a xs e => by cases e⟩⟩
  | bl _ b => exact ⟨_, false, .base (.bl b), kit_ty (by decide +kernel), .inl ⟨rfl, fun a xs e => by cases e⟩⟩
  | non _ => exact ⟨_, false, .base .non, kit_ty (by decide +kernel), .inl ⟨rfl, fun a xs e => by cases e⟩⟩
  | str _ x => exact ⟨_, false, .base (.str x), kit_ty (by decide +kernel), .inl ⟨rfl, fun a xs e => by cases e⟩⟩
  | lst _ a xs h1 h2 => exact ⟨_, false, .base (.lst h2), kit_ty (by decide +kernel), .inl ⟨rfl, fun a xs e => by cases e; rw [h2]; intro z; cases z⟩⟩
  | dK _ a xs h1 h2 => exact ⟨_, false, .base (.dK h2), kit_ty (by decide +kernel), .inl ⟨rfl, fun a xs e => by cases e; rw [h2]; intro z; cases z⟩⟩
  | ins _ a dx fs h1 h2 => exact ⟨_, false, .base (.ins h2 kc.cl kc.ty.ha kc.ty.hn kc.ty.htk kc.ty.hm), kc.t, .inl ⟨rfl, fun a xs e => by cases e; rw [h2]; intro z; cases z⟩⟩
  | tup m a xs h1 h2 h3 h4 => exact ⟨_, true, .base (.tup h2), kit_ty (by decide +kernel), .inr ⟨a, xs, rfl, h2, rfl, h3, h4⟩⟩
end
/-! ### list.count(a flag), a call of an item of a list of defs -/
section
open PySem.Spec PyProof.Rows
variable {X : Cx}
def rCntB (K : PySem.W.Frag) : V → List V → Hp → VK → Prop := fun x xs H Q => ∃ (p : Addr) (bs : List Bool) (b : Bool), x = .ref p ∧ xs = [.bl b] ∧ SqL K H p (bs.map V.bl) ∧ bs.length ≤ 1000 ∧ Q (.int (bs.count b : Nat)) H
theorem dp_bools {K : PySem.W.Frag} {H : Hp} : ∀ bs : List Bool, DpAll K H (bs.map V.bl) (bs.map PyData.bool)
  | [] => .nil
  | b :: r => .cons (.bl b) (dp_bools r)
theorem mt_cntB (hu : X.A.units + 64 < cLine) : MtR X "list.count" (rCntB X.K) := by
  intro pins s σ H x xs v us Q I rx rxs h
  obtain ⟨p, bs, b, rfl, rfl, hs, hl, q⟩ := h
  cases rx
  obtain ⟨u, rfl, ru⟩ := rxs.one
  obtain ⟨its, rv, hl, hz⟩ := I.list hs
  obtain ⟨as, ra⟩ := Dp.readsAll I (bs.map PyData.bool) _ its (dp_bools bs) rv
  obtain ⟨cs, rb⟩ := Dp.reads I (.bool b) (.bl b) u (.bl b) ru
  refine PySem.W.count_list_datum (xs := bs) (x := b) hl.isList ⟨as, ra⟩ ⟨cs, rb⟩ (by show X.A.units + 1 + 0 < cLine; omega) ⟨.int (bs.count b : Nat), H, I.tok _, ⟨s.toks, ?_⟩, q⟩
  have e : (bs.countP fun y => decide (y = b)) = bs.count b := by
    unfold List.count
    congr 1
  rw [e]
theorem pe_bmK {K : PySem.W.Frag} {o e : Expr} {es : List Expr} {to : TE} {t : TA} {name : Str} {apos cpos : Pos} {T id : String} {r : V → List V → Hp → VK → Prop} (hK : X.K = K) (pa : PlainAttrs T) (slot : Slot T name id) (hty : typeOf (.builtin id) = pure (.type "method_descriptor")) (hm : MtR X id r) (ho : PE X o to) (ha : PA X (e :: es) t)
    (hbase : attributeBase o name X.env (eval o X.env) = eval o X.env := by rfl)
    (hfew : ((backTo cpos (starEach (e :: es) X.env)).all (fun x => !x.1) && (backToKw cpos (keywordEach [] X.env)).all (fun x => x.1.isSome)
      && decide ((e :: es).length + ([] : List Keyword).length + (if ([] : List Keyword).isEmpty then 0 else 1) < 30)) = true := by rfl)
    (hline : (apos.endLine == cpos.line) = true := by rfl) (hs : starEach (e :: es) X.env = (false, eval e X.env) :: starEach es X.env := by rfl) (hplain : (backTo cpos (starEach es X.env)).any (·.1) = false := by rfl) :
    PE X (.Call (.Attribute o name apos) (e :: es) [] cpos) (tBM K T r to t) := by
  subst hK
  exact pe_bm pa slot hty hm ho ha hbase hfew hline hs hplain
def tCallE (S : Addr → Sp → Prop) (E : L2.St → XK) (tf : TE) (t : TA) : TE := fun σ H Q => tf σ H fun y H1 => ∃ f sp, y = .ref f ∧ S f sp ∧ t σ H1 fun vs H2 => sp vs H2 Q (E σ)
theorem pe_callE {CX : CXT} {S : Addr → Sp → Prop} {E : L2.St → XK} {tf : TE} {t : TA} {fe e : Expr} {es : List Expr} {pos : Pos}
    (A : ∀ f sp, S f sp → ∃ (k : Nat) (fd : FuncData) (ps : List Str), FnOk X.prog X.w X.K X.mg X.base CX k f fd ps sp ∧ Room k X.A ∧ PySem.W.keepIn X.K (.ref f) = true ∧ Binds X.K fd ps []) (hx : ∀ σ, PassesAt CX X σ (E σ)) (hf : PE X fe tf) (ha : PA X (e :: es) t)
    (ht : eval (.Call fe (e :: es) [] pos) X.env = (do callWith pos (← eval fe X.env) [] (backTo pos (starEach (e :: es) X.env)) (backToKw pos (keywordEach [] X.env))) := by rfl)
    (he : starEach (e :: es) X.env = (false, eval e X.env) :: starEach es X.env := by rfl) (hpl : (backTo pos (starEach es X.env)).any (·.1) = false := by rfl) : PE X (.Call fe (e :: es) [] pos) (tCallE S E tf t) := by
  refine ⟨fun pins s σ H Q I h => ?_⟩
  refine Call_ (thn (hf.run pins s σ H _ I h) fun u s1 ⟨y, H1, I1, ry, f, sp, ey, hS, q⟩ => ?_) ht
  subst ey
  obtain rfl : u = Value.ref f := ry
  obtain ⟨k, fd, ps, F, hr, hk, hb⟩ := A f sp hS
  refine PySem.W.callWith_K (h₀ := X.base) I1.ok.mod.kin hk (thn (ha.run pos pins s1 σ H1 _ I1 q) fun us s2 ⟨vs, H2, I2, r, q2⟩ => ⟨I2.kIn, ?_⟩) he hpl
  exact run_fnS F hr hb (hx σ) I2 r q2
end
/-! ### several except clauses, some with a name -/
section
open PySem.Spec PyProof.Rows
/-- what the clauses wish of an exception: its class, the slot of its name if it has one, the suite -/
def wCl (K : PySem.W.Frag) (Wout : WX) (D : Ends) : List (Value × Option Nat × (Addr → Value → Option Addr → TS)) → WX
  | [] => Wout
  | (c, none, ts) :: r => fun cls d σ H => ∃ b, PySem.W.exmOne K cls c = some b ∧ (b = true → ∀ a, H a = none → ts a cls d D σ H) ∧ (b = false → wCl K Wout D r cls d σ H)
  | (c, some i, ts) :: r => fun cls d σ H => ∃ b, PySem.W.exmOne K cls c = some b ∧
      (b = true → ∀ a, H a = none → ts a cls d { nx := fun σ' H' => D.nx (σ'.set i none) H', rt := D.rt, bk := fun σ' H' => D.bk (σ'.set i none) H', ct := fun σ' H' => D.ct (σ'.set i none) H' } (σ.set i (some (.ref a))) H) ∧ (b = false → wCl K Wout D r cls d σ H)
/-- a suite, whatever exception it is given -/
def SuOk (X : Cx) (st : List Stmt) (ts : Addr → Value → Option Addr → TS) : Prop := ∀ (a : Addr) (oe : Obj) (cls : Value) (d : Option Addr) (pn : List (Addr × Obj)), Zc cls d oe → (∃ vs, oe.data = .fields vs) → PSs (X.suite a ((a, oe) :: pn)) st (ts a cls d)
inductive ClOk (X : Cx) : List ExceptHandler → List (Value × Option Nat × (Addr → Value → Option Addr → TS)) → Prop
  | nil : ClOk X [] []
  | bare {x : Str} {c : Value} {ts : Addr → Value → Option Addr → TS} {b : Stmt} {suite : List Stmt} {np pos' : Pos} {hds : List ExceptHandler} {l : List (Value × Option Nat × (Addr → Value → Option Addr → TS))} (hc : Names X x c) (hsu : SuOk X (b :: suite) ts) (r : ClOk X hds l) :
      ClOk X (.ExceptHandler (some (.Name x np)) none (b :: suite) pos' :: hds) ((c, none, ts) :: l)
  | «as» {x n : Str} {c : Value} {i : Nat} {ts : Addr → Value → Option Addr → TS} {b : Stmt} {suite : List Stmt} {np pos' : Pos} {hds : List ExceptHandler} {l : List (Value × Option Nat × (Addr → Value → Option Addr → TS))} (hN : X.N.Nodup) (hi : X.N[i]? = some n) (hln : X.env.kindOf n = some .local)
      (hc : Names X x c) (hsu : SuOk X (b :: suite) ts) (r : ClOk X hds l) : ClOk X (.ExceptHandler (some (.Name x np)) (some n) (b :: suite) pos' :: hds) ((c, some i, ts) :: l)
section
variable {X : Cx} {body : List Stmt} {h₀ : ExceptHandler} {hds : List ExceptHandler} {l : List (Value × Option Nat × (Addr → Value → Option Addr → TS))} {pos : Pos} {tb : WX → TS} {Wout : WX}
/-- the clauses of a landed exception, one after the other -/
theorem cl_go {a : Addr} {B : Heap} {sI s' : Shared} {pins : List (Addr × Obj)} {σ : L2.St} {H : Hp} {cls : Value} {d : Option Addr} {h3 : Heap} {D : Ends} (ok : X.Ok) (hs : X.stack = X.env :: X.outer) (hf : X.env.frame = some X.env.locals) (tk : Takes X Wout)
    (J : Inv X pins σ H sI) (nb : ∀ b o, sI.heap.get? b = some o → b ∉ frs X.stack → B.get? b = some o) (up : sI.heap.UpToSlots s'.heap) (na : H a = none) (os : s'.os = sI.os) (ag : AllBare s'.gens)
    (fl : HandSPX.FlyingZ B (X.env :: X.outer) a (Zc cls d) h3) (up3 : s'.heap.UpToSlots h3) : ∀ {hds : List ExceptHandler} {l : List (Value × Option Nat × (Addr → Value → Option Addr → TS))}, ClOk X hds l → wCl X.K Wout D l cls d σ H →
      wpAny (model X.prog X.w) X.A (handleBy (.ref a) X.env hds) (SP X pins D) X.xe { s' with heap := h3 } := by
  have J3 : Inv X pins σ H { s' with heap := h3 } := J.landed nb fl.1 (up.trans up3) os ag
  obtain ⟨oe3, vs3, he3, hz3, hd3⟩ := fl.there
  have nfr : a ∉ frs (X.env :: X.outer) := fun hm => by
    obtain ⟨_, o', e', hnf⟩ := fl.2.2.1.mem hm
    rw [he3] at e'
    cases e'
    exact hnf _ hd3
  have nL : a ≠ X.env.locals := fun z => nfr (List.mem_filterMap.mpr ⟨X.env, List.mem_cons_self, by rw [hf, z]⟩)
  have nF : a ∉ X.fs := fun hm => by
    obtain ⟨e, he, q⟩ := List.mem_filterMap.mp hm
    exact nfr (List.mem_filterMap.mpr ⟨e, List.mem_cons_of_mem _ he, q⟩)
  have S3 := J3.suite he3 hd3 na nL nF
  have LT : PySem.W.Looks (model X.prog X.w) h3 (typeOf (.ref a)) cls := fun A Q E s k q => wpAny_typeOf_ref (k _ _ he3) (by rw [hz3.1]; exact q)
  have test : ∀ {x : Str} {c : Value} {np : Pos} {Q : Value → Shared → Prop} {E : Value → Shared → Prop}, Names X x c → Q c { s' with heap := h3 } → wpAny (model X.prog X.w) (X.A.mark (some (.ref a))) (eval (.Name x np) X.env) Q E { s' with heap := h3 } := fun {x c np Q E} hc q => by
    obtain ⟨hg, hdbg, hm | ⟨hm, hv, hnn⟩⟩ := hc
    · exact ld_glob (X := X.suite a ((a, oe3) :: (X.pn ++ pins))) S3 hg hm q hdbg
    · exact ld_blt (X := X.suite a ((a, oe3) :: (X.pn ++ pins))) S3 hg hm hv q hnn hdbg
  intro hds l hk
  induction hk with
  | nil =>
    intro w
    refine wpAny_handleBy_nil ?_
    obtain ⟨_, _, _, oe, vs, T, oT, ts', he, hz, hd, h1, hr⟩ := id fl
    unfold PySem.passOn
    refine wpAny_bind (wpAny_field he hd h1 ?_)
    rw [if_neg (show ¬ ((Value.ref T == Value.none) = true) from by simp)]
    have fin : wpAny (model X.prog X.w) X.A (setFlight (.ref a) X.env.frame) (fun _ s4 => wpAny (model X.prog X.w) X.A (throw (.ref a) : Sem Flow) (SP X pins D) X.xe s4) X.xe { s' with heap := h3 } := by
      rw [hf]
      exact HandSPX.setFlight_upZ fl fun h4 hh4 up4 => wpAny_throw (tk _ _ ⟨a, B, sI, pins, σ, H, cls, d, rfl, J, nb, (up.trans up3).trans up4, .inr (.inr (by rw [hs]; exact hh4)), na, os, ag, w⟩)
    first
      | exact wpAny_bind (wpAny_pure (wpAny_bind fin))
      | exact wpAny_bind fin
  | bare hc hsu r ih =>
    rintro ⟨b, hb1, hyes, hno⟩
    refine wpAny_handleBy_cons (codeAny_handlers_test (test hc ((PySem.W.exm_one (M := model X.prog X.w) J3.kIn LT hb1).here ?_))) (by intro q; cases q)
    cases b with
    | false => exact ih (hno rfl)
    | true =>
      refine codeAny_handlers_suite (HandSPX.lands_againZ fl fun h4 fl4 up4 => ?_)
      obtain ⟨oe4, vs4, he4, hz4, hd4⟩ := fl4.there
      have S4 := (J.landed (s' := { s' with heap := h4 }) nb fl4.1 ((up.trans up3).trans up4) os ag).suite he4 hd4 na nL nF
      refine wpAny_mono ((hsu a oe4 cls d (X.pn ++ pins) hz4 ⟨_, hd4⟩).run [] _ _ H _ S4 (hyes rfl a na)) (fun f s6 hsp => ?_) (fun _ _ z => False.elim z)
      cases f with
      | ret u =>
        obtain ⟨v6, σ6, H6, S6, r6, q6⟩ := hsp
        exact ⟨_, _, _, S6.unsuite ok, r6, q6⟩
      | _ =>
        obtain ⟨σ6, H6, S6, q6⟩ := hsp
        exact ⟨_, _, S6.unsuite ok, q6⟩
  | «as» hN hi hln hc hsu r ih =>
    rintro ⟨b, hb1, hyes, hno⟩
    refine wpAny_handleBy_cons (codeAny_handlers_test (test hc ((PySem.W.exm_one (M := model X.prog X.w) J3.kIn LT hb1).here ?_))) (by intro q; cases q)
    cases b with
    | false => exact ih (hno rfl)
    | true =>
      refine codeAny_handlers_suite_as (HandSPX.lands_againZ fl fun h4 fl4 up4 => ?_)
      obtain ⟨oe4, vs4, he4, hz4, hd4⟩ := fl4.there
      have S4 := (J.landed (s' := { s' with heap := h4 }) nb fl4.1 ((up.trans up3).trans up4) os ag).suite he4 hd4 na nL nF
      refine store_ok (X := X.suite a ((a, oe4) :: (X.pn ++ pins))) (v := .ref a) S4 hN hi (.inl hln) rfl (fun s5 S5 => ?_) (.inr hln)
      refine wpAny_mono ((hsu a oe4 cls d (X.pn ++ pins) hz4 ⟨_, hd4⟩).run [] s5 _ H _ S5 (hyes rfl a na)) (fun f s6 hsp => ?_) (fun _ _ z => False.elim z)
      cases f with
      | ret u =>
        obtain ⟨v6, σ6, H6, S6, r6, q6⟩ := hsp
        exact gone_ok (S6.unsuite ok) hN hi hln fun s7 J7 => ⟨_, _, _, J7, r6, q6⟩
      | _ =>
        obtain ⟨σ6, H6, S6, q6⟩ := hsp
        exact gone_ok (S6.unsuite ok) hN hi hln fun s7 J7 => ⟨_, _, J7, q6⟩
/-- try: body; except X as n: ..; except Y: .. -/
theorem ps_tries (hs : X.stack = X.env :: X.outer) (hf : X.env.frame = some X.env.locals) (tk : Takes X Wout)
    (hb : ∀ (W : WX) (pn : List (Addr × Obj)) (xe : Value → Shared → Prop), Takes (X.tr pn xe) W → PassesOwn (model X.prog X.w) X.A X.env xe → PSs (X.tr pn xe) body (tb W))
    (hh : ClOk X (h₀ :: hds) l) : PS X (.Try body (h₀ :: hds) [] [] pos) (fun D σ H => tb (wCl X.K Wout D l) D σ H) := by
  refine ⟨fun pins s σ H D I h => ?_⟩
  have ok := I.ok
  have hfr : X.A.frames = some (X.env :: X.outer) := by rw [ok.frames, hs]
  refine wpAny_Try_except (wpAny_mono ((hb (wCl X.K Wout D l) (X.pn ++ pins) (fun e s₁ => wpAny (model X.prog X.w) X.A (noteFrame e X.env) (fun _ s₂ => wpAny (model X.prog X.w) X.A (setFlight e none) (fun _ s₃ =>
    wpAny (model X.prog X.w) X.A (handleBy e X.env (h₀ :: hds)) (SP X pins D) X.xe s₃) X.xe s₂) X.xe s₁) (fun u s' xx => ?_) PassesOwn.looking).run [] s σ H D (I.toTry _) h) (fun f s1 hsp => ?_) (fun e s1 he => he))
  · obtain ⟨a, B, sI, pins', σ', H', cls, d, rfl, J', nb, up, sky, na, os, ag, w⟩ := xx
    show wpAny (model X.prog X.w) X.A (noteFrame (.ref a) X.env) _ _ _
    exact Sky.land Zc.steady hfr hf (by rw [← hs]; exact sky) fun h3 fl3 up3 => cl_go ok hs hf tk (J'.ofTry ok) nb up na os ag fl3 up3 hh w
  · cases f with
    | ret u =>
      obtain ⟨v, σ', H', J', r, q⟩ := hsp
      exact ⟨v, σ', H', J'.ofTry ok, r, q⟩
    | next =>
      obtain ⟨σ', H', J', q⟩ := hsp
      exact wpAny_execs_nil ⟨σ', H', J'.ofTry ok, q⟩
    | _ =>
      obtain ⟨σ', H', J', q⟩ := hsp
      exact ⟨σ', H', J'.ofTry ok, q⟩
end
end
/-! ### sorted(a tuple of whole numbers) -/
section
open PySem.Spec PyProof.Rows SrtO HT
section
variable {prog : Program} {w : World} {A : Around} {E : Value → Shared → Prop} {s : Shared}
theorem collect_tup {l : Addr} {vs : List Value} {Q : List Value → Shared → Prop} (hl : IsTup s.heap l vs.toArray)
    (h : Q vs { s with heap := (s.heap.push (seqObj "list" #[] 0)).update s.heap.objs.size (Obj.mapSeq (· ++ vs.toArray)) }) (hsz : vs.length ≤ sizeLine) :
    wpAny (model prog w) A (collect (.ref l)) Q E s := by
  obtain ⟨o, ho, hc, n, hd⟩ := id hl
  unfold collect
  refine wpAny_bind (wpAny_runValue (codeAny_builtin entry_proto_collect' ?_))
  show wpAny _ _ (do again (.builtin "list.__iadd__" ⟨[← newList [], .ref l], []⟩)) _ _ s
  refine wpAny_bind (wpAny_newList (wpAny_pure ⟨Code.quiet_builtin _ (by decide +kernel), codeAny_builtin entry_list_iadd' ?_⟩))
  show wpAny _ _ (Builtin.List.listExtendWith (.ref s.heap.objs.size) (.ref l) (.ref s.heap.objs.size)) _ _ { s with heap := s.heap.push (seqObj "list" #[] 0) }
  unfold Builtin.List.listExtendWith
  have ho' : (s.heap.push (seqObj "list" #[] 0)).get? l = some o := Heap.get?_push_of_some _ ho
  refine wpAny_bind (wpAny_typeOf (T := "tuple") ⟨o, ho', hc⟩ ?_)
  have ht : (Value.type "tuple" == Value.type "tuple") = true := by rfl
  rw [if_pos (by rw [ht]; simp)]
  refine wpAny_bind (listItems_at ho' hd ?_)
  refine wpAny_bind (listItems_at (xs := #[]) (n := 0) (Heap.get?_push_size _ rfl) rfl ?_)
  rw [if_neg (by simp)]
  refine wpAny_bind (listUpdate_at (xs := #[]) (n := 0) (Heap.get?_push_size _ rfl) rfl ?_ (Nat.zero_le _) (by show (#[] ++ vs.toArray).size ≤ sizeLine + 1; simp only [Array.size_append, List.size_toArray, List.length_nil]; omega))
  refine wpAny_pure ?_
  show wpAny (model prog w) A (do
      let o ← load s.heap.objs.size
      match o.data with
      | .seq xs _ => pure xs.toList
      | _ => unsupported "internal:collect") Q E { s with heap := (s.heap.push (seqObj "list" #[] 0)).update s.heap.objs.size (Obj.mapSeq (· ++ vs.toArray)) }
  refine wpAny_bind (wpAny_load (get?_update_seq (Heap.get?_push_size _ rfl) _) ?_)
  show wpAny _ _ (pure ((#[] : Array Value) ++ vs.toArray).toList) Q E _
  rw [show ((#[] : Array Value) ++ vs.toArray).toList = vs by simp]
  exact wpAny_pure h
theorem sorted_ordT {l : Addr} {vs : List Value} {ltv : Value → Value → Bool} {Q : Value → Shared → Prop} (O : Swo ltv) (hl : IsTup s.heap l vs.toArray) (hz : vs.length ≤ sizeLine)
    (hS : 2 ≤ vs.length → ∀ (h₁ : Heap) (a : Addr), h₁.get? a = some (seqObj "list" vs.toArray 0) → (∀ b o, s.heap.get? b = some o → b ≠ a ∧ h₁.get? b = some o) → SortableO prog w A.in1.in1 { s with heap := h₁ } a vs ltv)
    (h : ∀ out : List Value, Srtd ltv out → Stb ltv out vs → Q (.ref (s.heap.objs.size + 1)) { s with heap := sortedAll s.heap vs out.toArray }) :
    wpAny (model prog w) A (call (.builtin "sorted") [.ref l]) Q E s := by
  refine Calls.call_function_entry kind_sorted plain_sorted entry_sorted (args_sorted1 _) ?_
  unfold Builtin.«sorted»
  refine wpAny_bind (m := checkCount "sorted" 1 1 _) (wpAny_pure ?_)
  refine wpAny_bind (collect_tup hl ?_ hz)
  refine wpAny_bind (wpAny_newList ?_ hz)
  have hsz : ((s.heap.push (seqObj "list" #[] 0)).update s.heap.objs.size (Obj.mapSeq (· ++ vs.toArray))).objs.size = s.heap.objs.size + 1 := by
    rw [Heap.size_update, size_push']
  have hoL : (((s.heap.push (seqObj "list" #[] 0)).update s.heap.objs.size (Obj.mapSeq (· ++ vs.toArray))).push (seqObj "list" vs.toArray 0)).get? (s.heap.objs.size + 1) = some (seqObj "list" vs.toArray 0) := by
    rw [← hsz]; exact Heap.get?_push_size _ rfl
  have keep : ∀ b o, s.heap.get? b = some o → b ≠ s.heap.objs.size + 1 ∧ (((s.heap.push (seqObj "list" #[] 0)).update s.heap.objs.size (Obj.mapSeq (· ++ vs.toArray))).push (seqObj "list" vs.toArray 0)).get? b = some o := fun b o q => by
    have hlt : b < s.heap.objs.size := Heap.lt_size q
    refine ⟨Nat.ne_of_lt (Nat.lt_succ_of_lt hlt), Heap.get?_push_of_some _ ?_⟩
    rw [Heap.get?_update_ne _ _ _ _ (Nat.ne_of_lt hlt)]
    exact Heap.get?_push_of_some _ q
  show wpAny _ _ _ _ _ { s with heap := ((s.heap.push (seqObj "list" #[] 0)).update s.heap.objs.size (Obj.mapSeq (· ++ vs.toArray))).push (seqObj "list" vs.toArray 0) }
  rw [hsz]
  refine wpAny_bind (wpAny_holding (wpAny_call_entry slot_list_sort ⟨_, hoL, rfl⟩ entry_list_sort (list_sort_ord O hoL hz (fun h2 => hS h2 _ _ hoL keep) fun out hs hb => ⟨_, rfl, ?_⟩) (args_list_sort _)))
  exact wpAny_pure ⟨_, rfl, h out hs hb⟩
end
variable {X : Cx}
def rSortedIT (K : PySem.W.Frag) : List V → Hp → VK → Prop := fun vs H Q => ∃ (a : Addr) (ns : List Int), vs = [V.ref a] ∧ SqT K H a (ns.map V.int) ∧
  ∀ (ns' : List Int) (p : Addr), ns'.Perm ns → ns'.Pairwise (· ≤ ·) → H p = none → Q (.ref p) (upd H p (.lst (ns'.map V.int)))
theorem cr_sortedIT : CallR X (.builtin "sorted") (rSortedIT X.K) := by
  intro pins s σ H vs us Q I r h
  obtain ⟨a, ns, rfl, hs, q⟩ := h
  obtain ⟨its, rv, hl, hz⟩ := I.tuple hs
  rw [Vals.ref1 r]
  have hi := rv.ints
  refine sorted_ordT SrtO.swo_int hl (by rw [← rv.length]; exact hz) (fun h2 h₁ a' _ _ => SrtO.ints_sortable hi h2) fun out h1 h2 => ?_
  obtain ⟨k1, k2, k3⟩ := SrtO.ints_out hi h1 h2
  obtain ⟨ep, he'⟩ := PyProof.Rows.sortedAll_at s.heap its out.toArray
  have hlen : ((out.map SrtO.iv).map V.int).length ≤ sizeLine := by
    rw [List.length_map, k2.length_eq]
    rw [List.length_map] at hz
    exact hz
  exact ⟨.ref _, upd H (s.heap.objs.size + 1) (.lst ((out.map SrtO.iv).map V.int)), I.laid (t' := s.toks) (fun _ _ => PyProof.Rows.sortedAll_old) (Nat.le_succ _) ⟨hlen, out, ep, vals_of_ints k1, he'⟩, rfl, q _ _ k2 k3 (I.hok.fresh (Nat.le_succ _))⟩
end
/-! ### (a tuple of whole numbers).index(a number in it) -/
section
variable {X : Cx}
def rIndexT (K : PySem.W.Frag) : V → List V → Hp → VK → Prop := fun x xs H Q => ∃ (a : Addr) (ns : List Int) (k : Int), x = V.ref a ∧ xs = [.int k] ∧ SqT K H a (ns.map V.int) ∧ k ∈ ns ∧ Q (.int (ns.idxOf k : Nat)) H
theorem mt_indexT : MtR X "tuple.index" (rIndexT X.K) := by
  intro pins s σ H x xs v us Q I rx rxs h
  obtain ⟨a, ns, k, rfl, rfl, hs, hk, q⟩ := h
  cases rx
  cases rxs with
  | cons ry rt =>
    cases rt
    obtain ⟨t, rfl⟩ := ry
    obtain ⟨its, rv, hl, hz⟩ := I.tuple hs
    exact SeqAt.tuple_index_ints hl rv.ints hk ⟨.int _, H, I.tok _, ⟨_, rfl⟩, q⟩
theorem idxOf_cast {x : Nat} : ∀ {q : List Nat}, (q.map fun z : Nat => (z : Int)).idxOf (x : Int) = q.idxOf x
  | [] => rfl
  | y :: r => by
    rw [List.map_cons, List.idxOf_cons, List.idxOf_cons, idxOf_cast (q := r)]
    by_cases e : y = x
    · rw [e, beq_self_eq_true, beq_self_eq_true]
    · rw [show (y == x) = false from by simpa using e, show (((y : Nat) : Int) == (x : Int)) = false from by simp; omega]
end
theorem lay_bools : ∀ bs : List Bool, PyData.canLayAll0 (bs.map PyData.bool) = true
  | [] => rfl
  | b :: r => by
    show (PyData.canLay0 (.bool b) && PyData.canLayAll0 (r.map PyData.bool)) = true
    rw [lay_bools r]
    rfl
theorem deep_bools : ∀ bs : List Bool, PyData.depthAll (bs.map PyData.bool) ≤ 1
  | [] => by simp [PyData.depthAll]
  | b :: r => by
    have ih := deep_bools r
    simp only [List.map_cons, PyData.depthAll, PyData.depth]
    omega
theorem shaped_listB (bs : List Bool) : SeqAt.shaped (.list (bs.map PyData.bool)) = true := by
  have h := deep_bools bs
  have h2 : PyData.depth (.list (bs.map PyData.bool)) ≤ 64 := by
    simp only [PyData.depth]
    omega
  exact Bool.and_eq_true_iff.mpr ⟨lay_bools bs, decide_eq_true h2⟩
theorem refl_listB (bs : List Bool) : PyData.eqv (.list (bs.map PyData.bool)) (.list (bs.map PyData.bool)) = true := SeqAt.eqv_refl _ (lay_bools bs)
/-! ### xs[i] op= v -/
section
open PySem.Spec PyProof.Rows
variable {X : Cx}
theorem pget_list : PGet X (rIxL X.K) := by
  intro pins s σ H x y v u Q I rx ry h
  obtain ⟨p, xs, i, z, rfl, rfl, hq, he, q⟩ := h
  cases rx
  obtain ⟨t, rfl⟩ := ry
  obtain ⟨its, r, pl, hz⟩ := I.list hq
  obtain ⟨j, h1, h2, h3, h4, h5⟩ := atI_get he
  obtain ⟨w, ew, rw'⟩ := r.get h2
  have hl := r.length
  have hn := line63
  have fin : EP X pins σ Q w s := ⟨z, H, I, rw', q⟩
  by_cases h0 : 0 ≤ i
  · have hj : i.toNat = j := by
      rw [seqIndex_of h0 h5] at h1
      exact Option.some.inj h1
    exact wpAny_getItem_list pl.isList h0 (by omega) (by rw [hj]; simpa using ew) fin
  · have hj : (i + (its.toArray.size : Int)).toNat = j := by
      rw [seqIndex_neg (by omega) h4] at h1
      rw [List.size_toArray, ← hl]
      exact Option.some.inj h1
    exact wpAny_getItem_list_neg pl.isList (by omega) (by rw [List.size_toArray] <;> omega) (by omega) (by rw [hj]; simpa using ew) fin
theorem pget_listK {K : PySem.W.Frag} (hK : X.K = K) : PGet X (rIxL K) := by
  subst hK
  exact pget_list
end
/-- the items that a filter lets, each with something of its own -/
theorem lc_listFR {K : PySem.W.Frag} {a : Addr} {xs : List V} {g : TG} {tt : TT} {te : TE} {vs : List Nat} {σ : St} {H1 : Hp} {D : Addr} {Qd : Hp → Prop} (f : Nat → Bool) (R : Nat → V → Hp → Prop) (st : ∀ i v H H', R i v H → TK H H' → R i v H') (hx : H1 a = some (.lst xs)) (nD : H1 D = none) (hn : xs.length ≤ 100000)
    (hs : ∀ (i : Nat) (x : V) (H : Hp) (N : V → Hp → Prop) (M : Hp → Prop), xs[i]? = some x → Same H1 H → (f i = true → ∀ v H4, Same H H4 → R i v H4 → N v H4) → (f i = false → ∀ H4, Same H H4 → M H4) → g x (wipe σ vs) H fun σ2 H2 => wipe σ2 vs = wipe σ vs ∧ tt σ2 H2 fun b H3 => if b = true then te σ2 H3 N else M H3)
    (hd : ∀ H acc, Same H1 H → H D = some (.lst acc) → acc.length = ((List.range xs.length).filter f).length → (∀ (j : Nat) v, acc[j]? = some v → ∃ p, ((List.range xs.length).filter f)[j]? = some p ∧ R p v H) → Qd H) : ∃ W : Nat → Nat → Hp → Prop, (∃ m, W 0 m (upd H1 D (.lst []))) ∧ ∀ i m H, W i m H →
      ((Itl K a).stop i H ∧ Qd H) ∨ ((Itl K a).go i H ∧ ∃ Nx : Hp → Prop, (∀ H', Nx H' → ∃ m', m' < m ∧ W (i + 1) m' H') ∧ ∀ x H', (Itl K a).yld i H x H' → g x (wipe σ vs) H' fun σ2 H2 => wipe σ2 vs = wipe σ vs ∧ tt σ2 H2 fun b H3 =>
        if b = true then te σ2 H3 fun y H4 => ∃ acc, H4 D = some (.lst acc) ∧ acc.length < sizeLine ∧ Nx (upd H4 D (.lst (acc ++ [y]))) else Nx H3) := by
  refine lc_list (K := K) (a := a) (xs := xs) (fun i H => Same H1 H ∧ ∃ acc, H D = some (.lst acc) ∧ acc.length = ((List.range i).filter f).length ∧ ∀ (j : Nat) v, acc[j]? = some v → ∃ p, ((List.range i).filter f)[j]? = some p ∧ R p v H) ⟨Same.new (Same.refl H1) nD, [], upd_same, rfl, fun j v e => by simp at e⟩ (fun i H _ p => SqL.of (p.1 _ _ hx)) (fun i x H hi p => ?_) (fun H p => ?_)
  · obtain ⟨m, acc, hD, hlen, hR⟩ := p
    have il : i < xs.length := (List.getElem?_eq_some_iff.mp hi).1
    have fl : ((List.range i).filter f).length ≤ i := by
      have := List.length_filter_le f (List.range i)
      rw [List.length_range] at this
      exact this
    have e1 : (List.range (i + 1)).filter f = (List.range i).filter f ++ (if f i = true then [i] else []) := by
      rw [List.range_succ, List.filter_append]
      congr 1
      cases hf : f i <;> simp [hf]
    refine hs i x H _ _ hi m (fun hf v H4 m4 r => ⟨acc, m4 _ _ hD, lt_line (by omega), Same.mut (Same.trans m m4) nD, acc ++ [v], upd_same, ?_, fun j u e => ?_⟩) (fun hf H4 m4 => ⟨Same.trans m m4, acc, m4 _ _ hD, ?_, fun j u e => ?_⟩)
    · rw [e1, if_pos hf, List.length_append, List.length_append, hlen]
      rfl
    · have k1 : TK H4 (upd H4 D (.lst (acc ++ [v]))) := TK.mut (m4 _ _ hD)
      rw [e1, if_pos hf]
      by_cases hj : j < acc.length
      · rw [List.getElem?_append_left hj] at e
        obtain ⟨p, h1, h2⟩ := hR j u e
        exact ⟨p, by rw [List.getElem?_append_left (by omega)]; exact h1, st _ _ _ _ (st _ _ _ _ h2 (Same.tk m4)) k1⟩
      · rw [List.getElem?_append_right (by omega)] at e
        have q := (List.getElem?_eq_some_iff.mp e).1
        rw [List.length_singleton] at q
        have hj2 : j = acc.length := by omega
        rw [hj2, Nat.sub_self] at e
        have e2 : v = u := Option.some.inj e
        rw [← e2, hj2]
        exact ⟨i, by rw [List.getElem?_append_right (by omega), hlen, Nat.sub_self]; rfl, st _ _ _ _ r k1⟩
    · rw [e1, hf, if_neg (by decide), List.append_nil]
      exact hlen
    · rw [e1, hf, if_neg (by decide), List.append_nil]
      obtain ⟨p, h1, h2⟩ := hR j u e
      exact ⟨p, h1, st _ _ _ _ h2 (Same.tk m4)⟩
  · obtain ⟨m, acc, hD, hlen, hR⟩ := p
    exact hd H acc m hD hlen hR
/-- the items that a filter lets, each with something of its own -/
theorem lc_rangeFR {lo : Int} {n : Nat} {g : TG} {tt : TT} {te : TE} {vs : List Nat} {σ : St} {H1 : Hp} {D : Addr} {Qd : Hp → Prop} (f : Nat → Bool) (R : Nat → V → Hp → Prop) (st : ∀ i v H H', R i v H → TK H H' → R i v H') (nD : H1 D = none) (hn : n ≤ 100000)
    (hs : ∀ (i : Nat) (H : Hp) (N : V → Hp → Prop) (M : Hp → Prop), i < n → Same H1 H → (f i = true → ∀ v H4, Same H H4 → R i v H4 → N v H4) → (f i = false → ∀ H4, Same H H4 → M H4) → g (.int (lo + (i : Int))) (wipe σ vs) H fun σ2 H2 => wipe σ2 vs = wipe σ vs ∧ tt σ2 H2 fun b H3 => if b = true then te σ2 H3 N else M H3)
    (hd : ∀ H acc, Same H1 H → H D = some (.lst acc) → acc.length = ((List.range n).filter f).length → (∀ (j : Nat) v, acc[j]? = some v → ∃ p, ((List.range n).filter f)[j]? = some p ∧ R p v H) → Qd H) : ∃ W : Nat → Nat → Hp → Prop, (∃ m, W 0 m (upd H1 D (.lst []))) ∧ ∀ i m H, W i m H →
      ((Itr lo n).stop i H ∧ Qd H) ∨ ((Itr lo n).go i H ∧ ∃ Nx : Hp → Prop, (∀ H', Nx H' → ∃ m', m' < m ∧ W (i + 1) m' H') ∧ ∀ x H', (Itr lo n).yld i H x H' → g x (wipe σ vs) H' fun σ2 H2 => wipe σ2 vs = wipe σ vs ∧ tt σ2 H2 fun b H3 =>
        if b = true then te σ2 H3 fun y H4 => ∃ acc, H4 D = some (.lst acc) ∧ acc.length < sizeLine ∧ Nx (upd H4 D (.lst (acc ++ [y]))) else Nx H3) := by
  refine lc_range (lo := lo) (n := n) (fun i H => Same H1 H ∧ ∃ acc, H D = some (.lst acc) ∧ acc.length = ((List.range i).filter f).length ∧ ∀ (j : Nat) v, acc[j]? = some v → ∃ p, ((List.range i).filter f)[j]? = some p ∧ R p v H) ⟨Same.new (Same.refl H1) nD, [], upd_same, rfl, fun j v e => by simp at e⟩ (fun i H hi p => ?_) (fun H p => ?_)
  · obtain ⟨m, acc, hD, hlen, hR⟩ := p
    have il : i < n := hi
    have fl : ((List.range i).filter f).length ≤ i := by
      have := List.length_filter_le f (List.range i)
      rw [List.length_range] at this
      exact this
    have e1 : (List.range (i + 1)).filter f = (List.range i).filter f ++ (if f i = true then [i] else []) := by
      rw [List.range_succ, List.filter_append]
      congr 1
      cases hf : f i <;> simp [hf]
    refine hs i H _ _ hi m (fun hf v H4 m4 r => ⟨acc, m4 _ _ hD, lt_line (by omega), Same.mut (Same.trans m m4) nD, acc ++ [v], upd_same, ?_, fun j u e => ?_⟩) (fun hf H4 m4 => ⟨Same.trans m m4, acc, m4 _ _ hD, ?_, fun j u e => ?_⟩)
    · rw [e1, if_pos hf, List.length_append, List.length_append, hlen]
      rfl
    · have k1 : TK H4 (upd H4 D (.lst (acc ++ [v]))) := TK.mut (m4 _ _ hD)
      rw [e1, if_pos hf]
      by_cases hj : j < acc.length
      · rw [List.getElem?_append_left hj] at e
        obtain ⟨p, h1, h2⟩ := hR j u e
        exact ⟨p, by rw [List.getElem?_append_left (by omega)]; exact h1, st _ _ _ _ (st _ _ _ _ h2 (Same.tk m4)) k1⟩
      · rw [List.getElem?_append_right (by omega)] at e
        have q := (List.getElem?_eq_some_iff.mp e).1
        rw [List.length_singleton] at q
        have hj2 : j = acc.length := by omega
        rw [hj2, Nat.sub_self] at e
        have e2 : v = u := Option.some.inj e
        rw [← e2, hj2]
        exact ⟨i, by rw [List.getElem?_append_right (by omega), hlen, Nat.sub_self]; rfl, st _ _ _ _ r k1⟩
    · rw [e1, hf, if_neg (by decide), List.append_nil]
      exact hlen
    · rw [e1, hf, if_neg (by decide), List.append_nil]
      obtain ⟨p, h1, h2⟩ := hR j u e
      exact ⟨p, h1, st _ _ _ _ h2 (Same.tk m4)⟩
  · obtain ⟨m, acc, hD, hlen, hR⟩ := p
    exact hd H acc m hD hlen hR
/-! ### tuples that are known to their objects (no dict): methods of tuples -/
section
open PySem.Spec PyProof.Rows
variable {X : Cx}
def rTupZ (K : PySem.W.Frag) : List V → Hp → VK → Prop := fun xs H Q => ∃ p ys, xs = [.ref p] ∧ SqL K H p ys ∧
  ((∀ l, H l = none → Q (.ref l) (upd H l (.tup ys))) ∨ (∀ l ob, ob.dict = none → H l = none → Q (.ref l) (upd H l (.frz ob (.tup ys)))))
theorem call_tuple_z : CallR X (.type "tuple") (rTupZ X.K) := by
  intro pins s σ H xs us Q I r h
  obtain ⟨p, ys, rfl, hq, q⟩ := h
  obtain ⟨u, rfl, rx⟩ := vals1 r
  cases rx
  obtain ⟨its, r', pl, hz⟩ := I.list hq
  have hlen := r'.length
  refine call_tuple_list pl.isList (fun h' kp => ?_) (by simp only [List.size_toArray] <;> omega)
  have I1 : Inv X pins σ H { s with heap := h' } := I.kept (t' := s.toks) kp
  rcases q with q | q
  · have I2 : Inv X pins σ (upd H h'.objs.size (.tup ys)) { s with heap := h'.push { cls := .type "tuple", data := .seq its.toArray } } :=
      I1.laid (t' := s.toks) (fun b o e => Heap.get?_push_of_some _ e) (Nat.le_refl _) (show ObjOk X.prog X.w _ _ _ (.tup ys) from ⟨hz, its, r', IsTup.new _ _⟩)
    exact ⟨.ref h'.objs.size, _, I2, rfl, q _ (I1.hok.fresh (Nat.le_refl _))⟩
  · have I2 : Inv X pins σ (upd H h'.objs.size (.frz { cls := .type "tuple", data := .seq its.toArray } (.tup ys))) { s with heap := h'.push { cls := .type "tuple", data := .seq its.toArray } } :=
      I1.laid (t' := s.toks) (fun b o e => Heap.get?_push_of_some _ e) (Nat.le_refl _) (show ObjOk X.prog X.w _ _ _ (.frz _ (.tup ys)) from ⟨Heap.get?_push_size _ rfl, hz, its, r', IsTup.new _ _⟩)
    exact ⟨.ref h'.objs.size, _, I2, rfl, q _ _ rfl (I1.hok.fresh (Nat.le_refl _))⟩
def tBMZ (r : V → List V → Hp → VK → Prop) (to : TE) (t : TA) : TE := fun σ H Q => to σ H fun x H1 => (∃ p ob xs, x = .ref p ∧ H1 p = some (.frz ob (.tup xs)) ∧ ob.dict = none) ∧ t σ H1 fun xs H2 => r x xs H2 Q
variable {o e : Expr} {es : List Expr} {to : TE} {t : TA} {name : Str} {apos cpos : Pos} {id : String} {r : V → List V → Hp → VK → Prop}
theorem pe_bmZ (slot : Slot "tuple" name id) (hty : typeOf (.builtin id) = pure (.type "method_descriptor")) (hm : MtR X id r) (ho : PE X o to) (ha : PA X (e :: es) t)
    (hbase : attributeBase o name X.env (eval o X.env) = eval o X.env := by rfl)
    (hfew : ((backTo cpos (starEach (e :: es) X.env)).all (fun x => !x.1) && (backToKw cpos (keywordEach [] X.env)).all (fun x => x.1.isSome)
      && decide ((e :: es).length + ([] : List Keyword).length + (if ([] : List Keyword).isEmpty then 0 else 1) < 30)) = true := by rfl)
    (hline : (apos.endLine == cpos.line) = true := by rfl) (hs : starEach (e :: es) X.env = (false, eval e X.env) :: starEach es X.env := by rfl) (hplain : (backTo cpos (starEach es X.env)).any (·.1) = false := by rfl) :
    PE X (.Call (.Attribute o name apos) (e :: es) [] cpos) (tBMZ r to t) := by
  refine ⟨fun pins s σ H Q I h => ?_⟩
  refine wpAny_Call_method_late hbase hfew hline rfl (thn (ho.run pins s σ H _ I h) fun v s1 ⟨x, H1, I1, r1, ty, q1⟩ => ?_)
  obtain ⟨p, ob, xs, rfl, hp, hd⟩ := ty
  cases r1
  obtain ⟨g, z, its, rv, o2, e2, c2, _⟩ := (show ObjOk X.prog X.w H1 s1.heap p (.frz ob (.tup xs)) from I1.hok p _ hp)
  rw [g] at e2
  cases e2
  refine ⟨"tuple", id, PySem.F.plainAttrs_tuple, slot, hty, ⟨_, g, c2⟩, fun a ea => by cases ea; exact ⟨_, g, hd⟩, ?_⟩
  have hA := ha.run cpos pins s1 σ H1 _ I1 q1
  rw [hs] at hA ⊢
  refine Calls.callWith_builtin (by show (false || (backTo cpos (starEach es X.env)).any (·.1)) = false; rw [hplain] <;> rfl) (Calls.evalArgs_plain ?_)
  exact thn hA fun us s2 ⟨vs, H2, I2, r2, q2⟩ => hm pins s2 σ H2 (.ref p) vs (.ref p) us Q I2 rfl r2 q2
end
theorem Rd.same {H H' : Hp} {a : Addr} {u : HO} (h : Rd H a u) (s : Same H H') : Rd H' a u := by
  rcases h with h | ⟨o, h⟩
  · exact .inl (s _ _ h)
  · exact .inr ⟨o, s _ _ h⟩
theorem Rd.ty {K : PySem.W.Frag} {H : Hp} {a : Addr} {xs : List V} (h : Rd H a (.tup xs)) : TyX K H (.ref a) (.type "tuple") := by
  rcases h with h | ⟨o, h⟩
  · exact .base (.tup h)
  · exact .fTuple h
theorem lc_tupFS {K : PySem.W.Frag} {a : Addr} {xs : List V} {g : TG} {tt : TT} {te : TE} {vs : List Nat} {σ : St} {H1 : Hp} {D : Addr} {Qd : Hp → Prop} (f : Nat → Option V) (hx : ∀ J, Same H1 J → SqT K J a xs) (nD : H1 D = none) (hn : xs.length ≤ 100000)
    (hs : ∀ (i : Nat) (x : V) (H : Hp) (N : V → Hp → Prop) (M : Hp → Prop), xs[i]? = some x → Same H1 H → (∀ v H4, f i = some v → Same H H4 → N v H4) → (∀ H4, f i = none → Same H H4 → M H4) → g x (wipe σ vs) H fun σ2 H2 => wipe σ2 vs = wipe σ vs ∧ tt σ2 H2 fun b H3 => if b = true then te σ2 H3 N else M H3)
    (hd : ∀ H, Same H1 H → H D = some (.lst ((List.range xs.length).filterMap f)) → Qd H) : ∃ W : Nat → Nat → Hp → Prop, (∃ m, W 0 m (upd H1 D (.lst []))) ∧ ∀ i m H, W i m H →
      ((Itt K a).stop i H ∧ Qd H) ∨ ((Itt K a).go i H ∧ ∃ Nx : Hp → Prop, (∀ H', Nx H' → ∃ m', m' < m ∧ W (i + 1) m' H') ∧ ∀ x H', (Itt K a).yld i H x H' → g x (wipe σ vs) H' fun σ2 H2 => wipe σ2 vs = wipe σ vs ∧ tt σ2 H2 fun b H3 =>
        if b = true then te σ2 H3 fun y H4 => ∃ acc, H4 D = some (.lst acc) ∧ acc.length < sizeLine ∧ Nx (upd H4 D (.lst (acc ++ [y]))) else Nx H3) := by
  refine lc_tup (K := K) (a := a) (xs := xs) (fun i H => Same H1 H ∧ H D = some (.lst ((List.range i).filterMap f))) ⟨Same.new (Same.refl H1) nD, upd_same⟩ (fun i H _ p => hx H p.1) (fun i x H hi p => ?_) (fun H p => hd H p.1 p.2)
  have il : i < xs.length := (List.getElem?_eq_some_iff.mp hi).1
  have hz := filterMap_range_len f i
  refine hs i x H _ _ hi p.1 (fun v H4 e s => ⟨_, s _ _ p.2, lt_line (by omega), ?_, ?_⟩) (fun H4 e s => ⟨?_, ?_⟩)
  · exact Same.mut (Same.trans p.1 s) nD
  · rw [filterMap_range_succ, e]
    exact upd_same
  · exact Same.trans p.1 s
  · rw [filterMap_range_succ, e, s _ _ p.2]
    simp
theorem lc_tupRS {K : PySem.W.Frag} {a : Addr} {xs : List V} {g : TG} {tt : TT} {te : TE} {vs : List Nat} {σ : St} {H1 : Hp} {D : Addr} {Qd : Hp → Prop} (R : Nat → V → Hp → Prop) (st : ∀ i v H H', R i v H → TK H H' → R i v H') (hx : ∀ J, Same H1 J → SqT K J a xs) (nD : H1 D = none) (hn : xs.length ≤ 100000)
    (hs : ∀ (i : Nat) (x : V) (H : Hp) (N : V → Hp → Prop) (M : Hp → Prop), xs[i]? = some x → Same H1 H → (∀ v H4, Same H H4 → R i v H4 → N v H4) → g x (wipe σ vs) H fun σ2 H2 => wipe σ2 vs = wipe σ vs ∧ tt σ2 H2 fun b H3 => if b = true then te σ2 H3 N else M H3)
    (hd : ∀ H acc, Same H1 H → H D = some (.lst acc) → acc.length = xs.length → (∀ (j : Nat) v, acc[j]? = some v → R j v H) → Qd H) : ∃ W : Nat → Nat → Hp → Prop, (∃ m, W 0 m (upd H1 D (.lst []))) ∧ ∀ i m H, W i m H →
      ((Itt K a).stop i H ∧ Qd H) ∨ ((Itt K a).go i H ∧ ∃ Nx : Hp → Prop, (∀ H', Nx H' → ∃ m', m' < m ∧ W (i + 1) m' H') ∧ ∀ x H', (Itt K a).yld i H x H' → g x (wipe σ vs) H' fun σ2 H2 => wipe σ2 vs = wipe σ vs ∧ tt σ2 H2 fun b H3 =>
        if b = true then te σ2 H3 fun y H4 => ∃ acc, H4 D = some (.lst acc) ∧ acc.length < sizeLine ∧ Nx (upd H4 D (.lst (acc ++ [y]))) else Nx H3) := by
  refine lc_tup (K := K) (a := a) (xs := xs) (fun i H => Same H1 H ∧ ∃ acc, H D = some (.lst acc) ∧ acc.length = i ∧ ∀ (j : Nat) v, acc[j]? = some v → R j v H) ⟨Same.new (Same.refl H1) nD, [], upd_same, rfl, fun j v e => by simp at e⟩ (fun i H _ p => hx H p.1) (fun i x H hi p => ?_) (fun H p => ?_)
  · obtain ⟨m, acc, hD, hlen, hR⟩ := p
    have il : i < xs.length := (List.getElem?_eq_some_iff.mp hi).1
    refine hs i x H _ _ hi m (fun v H4 m4 r => ⟨acc, m4 _ _ hD, lt_line (by omega), Same.mut (Same.trans m m4) nD, acc ++ [v], upd_same, by rw [List.length_append, hlen]; rfl, fun j u e => ?_⟩)
    have k1 : TK H4 (upd H4 D (.lst (acc ++ [v]))) := TK.mut (m4 _ _ hD)
    by_cases hj : j < acc.length
    · rw [List.getElem?_append_left hj] at e
      exact st _ _ _ _ (st _ _ _ _ (hR j u e) (Same.tk m4)) k1
    · rw [List.getElem?_append_right (by omega)] at e
      have hj2 : j = i := by
        have q := (List.getElem?_eq_some_iff.mp e).1
        rw [List.length_singleton] at q
        omega
      rw [hj2, hlen, Nat.sub_self] at e
      have e2 : v = u := Option.some.inj e
      rw [← e2, hj2]
      exact st _ _ _ _ r k1
  · obtain ⟨m, acc, hD, hlen, hR⟩ := p
    exact hd H acc m hD hlen hR
structure Top (P : Program) (K : PySem.W.Frag) (mg : Str → Option Value) where
  C_KindError : Addr
  g_KindError : mg "KindError" = some (.ref C_KindError)
  C_NoOrder : Addr
  f_NoOrder___init__ : Addr
  fd_NoOrder___init__ : FuncData
  er_NoOrder : ErrC P K mg "NoOrder" "NoOrder.__init__" s_NoOrder___init__ ["self"] C_NoOrder f_NoOrder___init__ fd_NoOrder___init__
  C_NoFields : Addr
  f_NoFields___init__ : Addr
  fd_NoFields___init__ : FuncData
  er_NoFields : ErrC P K mg "NoFields" "NoFields.__init__" s_NoFields___init__ ["self"] C_NoFields f_NoFields___init__ fd_NoFields___init__
  C_Book : Addr
  g_Book : mg "Book" = some (.ref C_Book)
  cl_Book : Cls K C_Book
  ty_Book : InsT K C_Book
  n_Book_parents : NoAttr K C_Book "parents"
  n_Book_bits : NoAttr K C_Book "bits"
  kt_Book_int : PySem.W.kitOne K (.ref C_Book) (.type "int") = some false
  kt_Book_bool : PySem.W.kitOne K (.ref C_Book) (.type "bool") = some false
  kt_Book_tuple : PySem.W.kitOne K (.ref C_Book) (.type "tuple") = some false
  kt_Book_list : PySem.W.kitOne K (.ref C_Book) (.type "list") = some false
  c_MOST_KINDS : ∃ t, mg "MOST_KINDS" = some (.int 400 t)
  c_MOST_PARENTS : ∃ t, mg "MOST_PARENTS" = some (.int 6 t)
  c_MOST_BROUGHT : ∃ t, mg "MOST_BROUGHT" = some (.int 6 t)
  f_is_integer : Addr
  fd_is_integer : FuncData
  F_is_integer : Fun K "is_integer" "is_integer" s_is_integer f_is_integer fd_is_integer
  b_is_integer : Binds K fd_is_integer ["thing"] []
  g_is_integer : mg "is_integer" = some (.ref f_is_integer)
  f_is_within : Addr
  fd_is_within : FuncData
  F_is_within : Fun K "is_within" "is_within" s_is_within f_is_within fd_is_within
  b_is_within : Binds K fd_is_within ["thing", "least", "most"] []
  g_is_within : mg "is_within" = some (.ref f_is_within)
  f_is_lot : Addr
  fd_is_lot : FuncData
  F_is_lot : Fun K "is_lot" "is_lot" s_is_lot f_is_lot fd_is_lot
  b_is_lot : Binds K fd_is_lot ["thing", "many"] []
  g_is_lot : mg "is_lot" = some (.ref f_is_lot)
  f_are_all : Addr
  fd_are_all : FuncData
  F_are_all : Fun K "are_all" "are_all" s_are_all f_are_all fd_are_all
  b_are_all : Binds K fd_are_all ["thing", "many"] []
  g_are_all : mg "are_all" = some (.ref f_are_all)
  f_are_parents : Addr
  fd_are_parents : FuncData
  F_are_parents : Fun K "are_parents" "are_parents" s_are_parents f_are_parents fd_are_parents
  b_are_parents : Binds K fd_are_parents ["thing", "number"] []
  g_are_parents : mg "are_parents" = some (.ref f_are_parents)
  f_Book_fill : Addr
  fd_Book_fill : FuncData
  F_Book_fill : Fun K "fill" "Book.fill" s_Book_fill f_Book_fill fd_Book_fill
  b_Book_fill : Binds K fd_Book_fill ["self", "parents"] []
  m_Book_fill : Meth K C_Book "fill" f_Book_fill
  f_Book___init__ : Addr
  fd_Book___init__ : FuncData
  F_Book___init__ : Fun K "__init__" "Book.__init__" s_Book___init__ f_Book___init__ fd_Book___init__
  b_Book___init__ : Binds K fd_Book___init__ ["self", "parents"] []
  m_Book___init__ : Meth K C_Book "__init__" f_Book___init__
  M_Book : Mk K C_Book f_Book___init__
  f_book_of : Addr
  fd_book_of : FuncData
  F_book_of : Fun K "book_of" "book_of" s_book_of f_book_of fd_book_of
  b_book_of : Binds K fd_book_of ["parents"] []
  g_book_of : mg "book_of" = some (.ref f_book_of)
  f_many_of : Addr
  fd_many_of : FuncData
  F_many_of : Fun K "many_of" "many_of" s_many_of f_many_of fd_many_of
  b_many_of : Binds K fd_many_of ["book"] []
  g_many_of : mg "many_of" = some (.ref f_many_of)
  f_is_one : Addr
  fd_is_one : FuncData
  F_is_one : Fun K "is_one" "is_one" s_is_one f_is_one fd_is_one
  b_is_one : Binds K fd_is_one ["book", "x", "p"] []
  g_is_one : mg "is_one" = some (.ref f_is_one)
  f_are_apart : Addr
  fd_are_apart : FuncData
  F_are_apart : Fun K "are_apart" "are_apart" s_are_apart f_are_apart fd_are_apart
  b_are_apart : Binds K fd_are_apart ["book", "x", "p"] []
  g_are_apart : mg "are_apart" = some (.ref f_are_apart)
  f_forebears_of : Addr
  fd_forebears_of : FuncData
  F_forebears_of : Fun K "forebears_of" "forebears_of" s_forebears_of f_forebears_of fd_forebears_of
  b_forebears_of : Binds K fd_forebears_of ["book", "x"] []
  g_forebears_of : mg "forebears_of" = some (.ref f_forebears_of)
  f_reordered : Addr
  fd_reordered : FuncData
  F_reordered : Fun K "reordered" "reordered" s_reordered f_reordered fd_reordered
  b_reordered : Binds K fd_reordered ["book", "order"] []
  g_reordered : mg "reordered" = some (.ref f_reordered)
  f_check_fields : Addr
  fd_check_fields : FuncData
  F_check_fields : Fun K "check_fields" "check_fields" s_check_fields f_check_fields fd_check_fields
  b_check_fields : Binds K fd_check_fields ["book", "thing"] []
  g_check_fields : mg "check_fields" = some (.ref f_check_fields)
  f_heirs_bits : Addr
  fd_heirs_bits : FuncData
  F_heirs_bits : Fun K "heirs_bits" "heirs_bits" s_heirs_bits f_heirs_bits fd_heirs_bits
  b_heirs_bits : Binds K fd_heirs_bits ["book"] []
  g_heirs_bits : mg "heirs_bits" = some (.ref f_heirs_bits)
  f_all_quarrels : Addr
  fd_all_quarrels : FuncData
  F_all_quarrels : Fun K "all_quarrels" "all_quarrels" s_all_quarrels f_all_quarrels fd_all_quarrels
  b_all_quarrels : Binds K fd_all_quarrels ["book", "fields"] []
  g_all_quarrels : mg "all_quarrels" = some (.ref f_all_quarrels)
  f_quarrels : Addr
  fd_quarrels : FuncData
  F_quarrels : Fun K "quarrels" "quarrels" s_quarrels f_quarrels fd_quarrels
  b_quarrels : Binds K fd_quarrels ["book", "fields"] []
  g_quarrels : mg "quarrels" = some (.ref f_quarrels)
  f__law_hand : Addr
  fd__law_hand : FuncData
  F__law_hand : Fun K "_law_hand" "_law_hand" s__law_hand f__law_hand fd__law_hand
  b__law_hand : Binds K fd__law_hand ["_law_script"] []
  g__law_hand : mg "_law_hand" = some (.ref f__law_hand)
  f__law_draw : Addr
  fd__law_draw : FuncData
  F__law_draw : Fun K "_law_draw" "_law_draw" s__law_draw f__law_draw fd__law_draw
  b__law_draw : Binds K fd__law_draw ["_law_hand_here", "_law_many"] []
  g__law_draw : mg "_law_draw" = some (.ref f__law_draw)
  f__law_is : Addr
  fd__law_is : FuncData
  F__law_is : Fun K "_law_is" "_law_is" s__law_is f__law_is fd__law_is
  b__law_is : Binds K fd__law_is ["_law_told", "_law_due"] []
  g__law_is : mg "_law_is" = some (.ref f__law_is)
  f__law_parents : Addr
  fd__law_parents : FuncData
  F__law_parents : Fun K "_law_parents" "_law_parents" s__law_parents f__law_parents fd__law_parents
  b__law_parents : Binds K fd__law_parents ["_law_hand_here", "_law_many", "_law_most"] []
  g__law_parents : mg "_law_parents" = some (.ref f__law_parents)
  f__law_sheet : Addr
  fd__law_sheet : FuncData
  F__law_sheet : Fun K "_law_sheet" "_law_sheet" s__law_sheet f__law_sheet fd__law_sheet
  b__law_sheet : Binds K fd__law_sheet ["_law_parents_here"] []
  g__law_sheet : mg "_law_sheet" = some (.ref f__law_sheet)
  f__law_lots : Addr
  fd__law_lots : FuncData
  F__law_lots : Fun K "_law_lots" "_law_lots" s__law_lots f__law_lots fd__law_lots
  b__law_lots : Binds K fd__law_lots ["_law_many"] []
  g__law_lots : mg "_law_lots" = some (.ref f__law_lots)
  f__law_brought : Addr
  fd__law_brought : FuncData
  F__law_brought : Fun K "_law_brought" "_law_brought" s__law_brought f__law_brought fd__law_brought
  b__law_brought : Binds K fd__law_brought ["_law_hand_here", "_law_many", "_law_most"] []
  g__law_brought : mg "_law_brought" = some (.ref f__law_brought)
  f__law_pairs : Addr
  fd__law_pairs : FuncData
  F__law_pairs : Fun K "_law_pairs" "_law_pairs" s__law_pairs f__law_pairs fd__law_pairs
  b__law_pairs : Binds K fd__law_pairs ["_law_sheet_here", "_law_brought_here"] []
  g__law_pairs : mg "_law_pairs" = some (.ref f__law_pairs)
  f__law_graph : Addr
  fd__law_graph : FuncData
  F__law_graph : Fun K "_law_graph" "_law_graph" s__law_graph f__law_graph fd__law_graph
  b__law_graph : Binds K fd__law_graph ["_law_many", "_law_edges"] []
  g__law_graph : mg "_law_graph" = some (.ref f__law_graph)
  f__law_order : Addr
  fd__law_order : FuncData
  F__law_order : Fun K "_law_order" "_law_order" s__law_order f__law_order fd__law_order
  b__law_order : Binds K fd__law_order ["_law_hand_here", "_law_parents_here"] []
  g__law_order : mg "_law_order" = some (.ref f__law_order)
  f_law : Addr
  fd_law : FuncData
  F_law : Fun K "law" "law" s_law f_law fd_law
  b_law : Binds K fd_law ["_law_script"] []
  g_law : mg "law" = some (.ref f_law)
  z_abs : mg "abs" = none
  z_all : mg "all" = none
  z_any : mg "any" = none
  z_bool : mg "bool" = none
  z_enumerate : mg "enumerate" = none
  z_int : mg "int" = none
  z_isinstance : mg "isinstance" = none
  z_len : mg "len" = none
  z_list : mg "list" = none
  z_range : mg "range" = none
  z_set : mg "set" = none
  z_sorted : mg "sorted" = none
  z_tuple : mg "tuple" = none
  z_zip : mg "zip" = none
section
variable {P : Program} {w : World} {K : PySem.W.Frag} {mg : Str → Option Value} {base : Heap}
theorem ok_NoOrder___init__ (T : Top P K mg) : FnOk P w K mg base CX0 1 T.f_NoOrder___init__ T.fd_NoOrder___init__ ["self"] (sp_err T.C_NoOrder) := by
  obtain ⟨cc, cda, oc, od, dV, kV, doc, pm, an, ctv, osl, efd, lk, hcd, sup⟩ := T.er_NoOrder.all
  rw [efd] at lk ⊢
  exact sup_fn (k := 0) (N := ["self", "__class__"]) (F := NFo "NoOrder.__init__" s_NoOrder___init__ cc cda) lk hcd sup (NdefX.nscope_by (sc := defScope s_NoOrder___init__) (by decide +kernel)) rfl (fun vs H Q E h => by obtain ⟨a, rfl, _⟩ := h; rfl) rfl (fun L => rfl) (fun L => rfl) (fun L => rfl) (by kernel_rfl) (fun A outer s H vs Q E hr h => by
    obtain ⟨a, rfl, ha, k⟩ := h
    exact ⟨a, rfl, ha, _, pss_nil, k⟩)
theorem ok_NoFields___init__ (T : Top P K mg) : FnOk P w K mg base CX0 1 T.f_NoFields___init__ T.fd_NoFields___init__ ["self"] (sp_err T.C_NoFields) := by
  obtain ⟨cc, cda, oc, od, dV, kV, doc, pm, an, ctv, osl, efd, lk, hcd, sup⟩ := T.er_NoFields.all
  rw [efd] at lk ⊢
  exact sup_fn (k := 0) (N := ["self", "__class__"]) (F := NFo "NoFields.__init__" s_NoFields___init__ cc cda) lk hcd sup (NdefX.nscope_by (sc := defScope s_NoFields___init__) (by decide +kernel)) rfl (fun vs H Q E h => by obtain ⟨a, rfl, _⟩ := h; rfl) rfl (fun L => rfl) (fun L => rfl) (fun L => rfl) (by kernel_rfl) (fun A outer s H vs Q E hr h => by
    obtain ⟨a, rfl, ha, k⟩ := h
    exact ⟨a, rfl, ha, _, pss_nil, k⟩)
/-! is_integer -/
def sp_is_integer (K : PySem.W.Frag) : Sp := fun vs H Q _ => ∃ v, vs = [v] ∧ IntK K H v ∧ Q (.bl (isIntB v)) H
theorem sc_is_integer : FnScope ["thing"] ["thing"] (defScope s_is_integer) := ⟨rfl, rfl, rfl, by decide +kernel, rfl, by decide +kernel, by decide +kernel⟩
theorem ok_is_integer (T : Top P K mg) : FnOk P w K mg base CX0 1 T.f_is_integer T.fd_is_integer ["thing"] (sp_is_integer K) := by
  refine T.F_is_integer.ok sc_is_integer (fun vs H Q E h => ?_) (fun cdv A outer s H vs Q E hr h => ?_)
  · obtain ⟨v, rfl, _⟩ := h
    rfl
  · obtain ⟨v, rfl, ⟨t, bi, bb, ht, hi, hb, e⟩, k⟩ := h
    refine ⟨_, (pss_one (ps_ret (pe_and (pe_callB (r := rIsi K) (id := "isinstance") call_isi (by rfl) T.z_isinstance (by decide +kernel) (pa_cons (pv 0) (pa_cons (pe_bltn (v := .ty "int") (u := .type "int") (by rfl) T.z_int (by decide +kernel) rfl) pa_nil))) (pe_one (pe_not (pe_callB (r := rIsi K) (id := "isinstance") call_isi (by rfl) T.z_isinstance (by decide +kernel) (pa_cons (pv 0) (pa_cons (pe_bltn (v := .ty "bool") (u := .type "bool") (by rfl) T.z_bool (by decide +kernel) rfl) pa_nil)))))))), ?_⟩
    tm_at "w"
    cases bi with
    | false =>
      rw [← e] at k
      tm_at "w"
      exact k
    | true =>
      rw [← e] at k
      tm_at "w"
      exact k
/-! is_within -/
def sp_is_within (K : PySem.W.Frag) : Sp := fun vs H Q _ => ∃ (v : V) (lo hi : Int), vs = [v, .int lo, .int hi] ∧ IntK K H v ∧ Q (.bl (withinB v lo hi)) H
theorem sc_is_within : FnScope ["thing", "least", "most"] ["thing", "least", "most"] (defScope s_is_within) := ⟨rfl, rfl, rfl, by decide +kernel, rfl, by decide +kernel, by decide +kernel⟩
theorem ok_is_within (T : Top P K mg) : FnOk P w K mg base CX0 2 T.f_is_within T.fd_is_within ["thing", "least", "most"] (sp_is_within K) := by
  have G_is_integer := ok_is_integer (P := P) (w := w) (base := base) T
  refine T.F_is_within.ok sc_is_within (fun vs H Q E h => ?_) (fun cdv A outer s H vs Q E hr h => ?_)
  · obtain ⟨v, lo, hi, rfl, _⟩ := h
    rfl
  · obtain ⟨v, lo, hi, rfl, hk, k⟩ := h
    refine ⟨_, (pss_one (ps_ret (pe_and (pe_call G_is_integer hr (by rfl) T.g_is_integer T.F_is_integer.kp T.b_is_integer .nil pass0 (pa_cons (pv 0) pa_nil)) (pe_one (pe_chain op_le op_le (pv 1) (pv 0) (pv 2)))))), ?_⟩
    refine ⟨v, rfl, v, rfl, hk, _, rfl, ?_⟩
    cases v with
    | int i =>
      refine iteT ?_
      tm_at "w"
      refine iteD (fun h1 => ?_) (fun h1 => ?_)
      · tm_at "w"
        have e : withinB (.int i) lo hi = decide (i ≤ hi) := by
          show (decide (lo ≤ i) && decide (i ≤ hi)) = _
          rw [decide_eq_true h1, Bool.true_and]
        rw [e] at k
        exact k
      · have e : withinB (.int i) lo hi = false := by
          show (decide (lo ≤ i) && decide (i ≤ hi)) = _
          rw [decide_eq_false h1, Bool.false_and]
        rw [e] at k
        exact k
    | _ =>
      refine iteF ?_
      exact k
/-! is_lot -/
/-- an ascending run of whole numbers above last, below m -/
def lotFrom (m : Int) : Int → List V → Bool
  | _, [] => true
  | last, x :: r => withinB x (last + 1) (m - 1) && lotFrom m (match x with | .int i => i | _ => 0) r
def sp_is_lot (K : PySem.W.Frag) : Sp := fun vs H Q _ => ∃ (v : V) (t : Value) (bt : Bool) (m : Int), vs = [v, .int m] ∧ TyX K H v t ∧ PySem.W.kitOne K t (.type "tuple") = some bt ∧
  ((bt = false ∧ Q (.bl false) H) ∨ ∃ (a : Addr) (xs : List V), v = .ref a ∧ H a = some (.tup xs) ∧ bt = true ∧ (∀ x ∈ xs, IntK K H x) ∧ Q (.bl (lotFrom m (-1) xs)) H)
theorem sc_is_lot : FnScope ["thing", "many", "last", "item"] ["thing", "many"] (defScope s_is_lot) := ⟨rfl, rfl, rfl, by decide +kernel, rfl, by decide +kernel, by decide +kernel⟩
theorem ok_is_lot (T : Top P K mg) : FnOk P w K mg base CX0 3 T.f_is_lot T.fd_is_lot ["thing", "many"] (sp_is_lot K) := by
  have G_is_within := ok_is_within (P := P) (w := w) (base := base) T
  refine T.F_is_lot.ok sc_is_lot (fun vs H Q E h => ?_) (fun cdv A outer s H vs Q E hr h => ?_)
  · obtain ⟨v, t, bt, m, rfl, _⟩ := h
    rfl
  · obtain ⟨v, t, bt, m, rfl, ht, hb, hh⟩ := h
    refine ⟨_, (pss_cons (ps_if (pt_not (pt_val (pe_callB (r := rIsi K) (id := "isinstance") call_isi (by rfl) T.z_isinstance (by decide +kernel) (pa_cons (pv 0) (pa_cons (pe_bltn (v := .ty "tuple") (u := .type "tuple") (by rfl) T.z_tuple (by decide +kernel) rfl) pa_nil))))) (pss_one (ps_ret pe_bl)) pss_nil)
      (pss_cons (ps_set (i := 2) sc_is_lot.nd rfl (Or.inl rfl) (pe_un un_neg pe_int))
      (pss_cons (ps_for PassesOwn.never rfl (pi_tup (pv 0)) (pg_name (i := 3) sc_is_lot.nd rfl (Or.inl rfl))
      (pss_cons (ps_if (pt_not (pt_val (pe_call G_is_within hr (by rfl) T.g_is_within T.F_is_within.kp T.b_is_within .nil pass0 (pa_cons (pv 3) (pa_cons (pe_op op_add (pv 2) pe_int) (pa_cons (pe_op op_sub (pv 1) pe_int) pa_nil)))))) (pss_one (ps_ret pe_bl)) pss_nil)
      (pss_one (ps_set (i := 2) sc_is_lot.nd rfl (Or.inl rfl) (pv 3)))))
      (pss_one (ps_ret pe_bl))))), ?_⟩
    tm_at "w"
    rcases hh with ⟨rfl, k⟩ | ⟨a, xs, rfl, ha, rfl, hi, k⟩
    · tm_at "w"
      exact k
    · tm_at "w"
      refine ⟨⟨_, SqT.of ha⟩, for_tup (K := K) (a := a) (xs := xs) (fun i σ H' => ∃ (last : Int) (x : Option V), σ = [some (.ref a), some (.int m), some (.int last), x] ∧ H' = H ∧ lotFrom m last (xs.drop i) = lotFrom m (-1) xs) ?_ ?_ ?_ ?_⟩
      · exact ⟨-1, none, rfl, rfl, rfl⟩
      · rintro i σ H' _ ⟨_, _, _, rfl, _⟩
        exact SqT.of ha
      · rintro i x σ H' hx ⟨last, y, rfl, rfl, e⟩
        have il := (List.getElem?_eq_some_iff.mp hx).1
        have hd : xs.drop i = x :: xs.drop (i + 1) := by
          rw [List.drop_eq_getElem_cons il]
          rw [List.getElem?_eq_getElem il] at hx
          rw [Option.some.inj hx]
        rw [hd] at e
        tm_at "w"
        refine ⟨_, _, _, rfl, hi x (List.mem_of_getElem? hx), ?_⟩
        tm_at "w"
        refine iteB (fun h => ?_) (fun h => ?_)
        · have h2 : withinB x (last + 1) (m - 1) = false := by simpa using h
          have e2 : lotFrom m (-1) xs = false := by
            rw [← e]
            show (withinB x (last + 1) (m - 1) && _) = false
            rw [h2]
            rfl
          rw [e2] at k
          tm_at "w"
          exact k
        · have h2 : withinB x (last + 1) (m - 1) = true := by simpa using h
          cases x with
          | int z =>
            tm_at "w"
            rw [← e]
            show _ = (withinB (.int z) (last + 1) (m - 1) && lotFrom m z (xs.drop (i + 1)))
            rw [h2, Bool.true_and]
          | _ => cases h2
      · rintro σ H' ⟨last, y, rfl, rfl, e⟩
        rw [List.drop_length] at e
        rw [← e] at k
        tm_at "w"
        exact k
/-! are_all -/
theorem within_nat {v : V} {n : Nat} (h : withinB v 0 ((n : Int) - 1) = true) : ∃ x : Nat, v = .int (x : Int) ∧ x < n := by
  cases v with
  | int i =>
    have h : (decide (0 ≤ i) && decide (i ≤ (n : Int) - 1)) = true := h
    rw [Bool.and_eq_true, decide_eq_true_eq, decide_eq_true_eq] at h
    exact ⟨i.toNat, by rw [show ((i.toNat : Nat) : Int) = i by omega], by omega⟩
  | _ => cases h
theorem within_le {v : V} {n : Nat} (h : withinB v 0 (n : Int) = true) : ∃ x : Nat, v = .int (x : Int) ∧ x ≤ n := by
  obtain ⟨x, e, hx⟩ := within_nat (n := n + 1) (v := v) (by rw [show (((n + 1 : Nat) : Int) - 1) = (n : Int) by omega]; exact h)
  exact ⟨x, e, by omega⟩
theorem lot_nats {m : Int} : ∀ {xs : List V} {last : Int}, -1 ≤ last → lotFrom m last xs = true → ∃ q : List Nat, xs = natsV q ∧ q.Pairwise (· < ·) ∧ ∀ x ∈ q, last < (x : Int) ∧ (x : Int) < m
  | [], _, _, _ => ⟨[], rfl, List.Pairwise.nil, fun x hx => by cases hx⟩
  | .int i :: r, last, hl, h => by
    have h : (withinB (.int i) (last + 1) (m - 1) && lotFrom m i r) = true := h
    rw [Bool.and_eq_true] at h
    have h1 : (decide (last + 1 ≤ i) && decide (i ≤ m - 1)) = true := h.1
    rw [Bool.and_eq_true, decide_eq_true_eq, decide_eq_true_eq] at h1
    obtain ⟨q, e, hp, hq⟩ := lot_nats (xs := r) (last := i) (by omega) h.2
    refine ⟨i.toNat :: q, ?_, List.pairwise_cons.mpr ⟨fun y hy => by have := hq y hy; omega, hp⟩, fun x hx => ?_⟩
    · rw [e]
      show _ = V.int ((i.toNat : Nat) : Int) :: natsV q
      rw [show ((i.toNat : Nat) : Int) = i by omega]
    · rcases List.mem_cons.mp hx with e | e
      · rw [e]
        omega
      · have := hq x e
        omega
  | .bl _ :: _, _, _, h => by cases h
  | .non :: _, _, _, h => by cases h
  | .str _ :: _, _, _, h => by cases h
  | .ref _ :: _, _, _, h => by cases h
  | .ty _ :: _, _, _, h => by cases h
  | .flt _ :: _, _, _, h => by cases h
  | .byt _ :: _, _, _, h => by cases h
/-- whether a thing is the parents of a kind with a number -/
def parB (H : Hp) (v : V) (m : Int) : Bool := match v with
  | .ref a => match H a with
    | some (.tup xs) => lotFrom m (-1) xs && decide (xs.length ≤ 6)
    | _ => false
  | _ => false
theorem parB_tup {H : Hp} {a : Addr} {xs : List V} {m : Int} (h : H a = some (.tup xs)) : parB H (.ref a) m = (lotFrom m (-1) xs && decide (xs.length ≤ 6)) := by
  simp only [parB, h]
theorem parB_no {H : Hp} {v : V} {m : Int} (h : ∀ a xs, v = .ref a → H a ≠ some (.tup xs)) : parB H v m = false := by
  unfold parB
  split
  · split
    · rename_i a _ xs e
      exact absurd e (h a xs rfl)
    · rfl
  · rfl
/-! ### all numbers below n, each once -/
def allV (n : Nat) (xs : List V) : Bool := decide (xs.length = n) && xs.all (fun v => withinB v 0 ((n : Int) - 1)) && decide xs.Nodup
def permB (H : Hp) (v : V) (n : Nat) : Bool := match v with
  | .ref a => match H a with
    | some (.tup xs) => allV n xs
    | _ => false
  | _ => false
theorem permB_tup {H : Hp} {a : Addr} {xs : List V} {n : Nat} (h : H a = some (.tup xs)) : permB H (.ref a) n = allV n xs := by
  simp only [permB, h]
theorem permB_no {H : Hp} {v : V} {n : Nat} (h : ∀ a xs, v = .ref a → H a ≠ some (.tup xs)) : permB H v n = false := by
  unfold permB
  split
  · split
    · rename_i a _ xs e
      exact absurd e (h a xs rfl)
    · rfl
  · rfl
theorem natsV_inj {a b : List Nat} (h : natsV a = natsV b) : a = b := by
  induction a generalizing b with
  | nil =>
    cases b with
    | nil => rfl
    | cons y s => cases h
  | cons x r ih =>
    cases b with
    | nil => cases h
    | cons y s =>
      have h : V.int (x : Int) :: natsV r = V.int (y : Int) :: natsV s := h
      injection h with h1 h2
      injection h1 with h1
      rw [show x = y by omega, ih h2]
theorem natsV_mem {q : List Nat} {x : Nat} : V.int (x : Int) ∈ natsV q ↔ x ∈ q := by
  unfold natsV
  rw [List.mem_map]
  constructor
  · rintro ⟨y, hy, e⟩
    injection e with e
    rw [show x = y by omega]
    exact hy
  · exact fun h => ⟨x, h, rfl⟩
theorem natsV_nodup {q : List Nat} : (natsV q).Nodup ↔ q.Nodup := by
  induction q with
  | nil => exact ⟨fun _ => List.nodup_nil, fun _ => List.nodup_nil⟩
  | cons x r ih =>
    show (V.int (x : Int) :: natsV r).Nodup ↔ _
    rw [List.nodup_cons, List.nodup_cons, ih, natsV_mem]
theorem nats_within {n : Nat} : ∀ {xs : List V}, (∀ v ∈ xs, withinB v 0 ((n : Int) - 1) = true) → ∃ q : List Nat, xs = natsV q ∧ ∀ x ∈ q, x < n
  | [], _ => ⟨[], rfl, fun x h => by cases h⟩
  | v :: r, h => by
    obtain ⟨x, e, hx⟩ := within_nat (h v List.mem_cons_self)
    obtain ⟨q, e2, hq⟩ := nats_within fun v hv => h v (List.mem_cons_of_mem _ hv)
    refine ⟨x :: q, by rw [e, e2]; rfl, fun y hy => ?_⟩
    rcases List.mem_cons.mp hy with hy | hy
    · rw [hy]
      exact hx
    · exact hq y hy
theorem allV_nats {n : Nat} {xs : List V} (h : allV n xs = true) : ∃ q : List Nat, xs = natsV q ∧ q.length = n ∧ (∀ x ∈ q, x < n) ∧ q.Nodup := by
  unfold allV at h
  rw [Bool.and_eq_true, Bool.and_eq_true, decide_eq_true_eq, decide_eq_true_eq, List.all_eq_true] at h
  obtain ⟨q, rfl, hq⟩ := nats_within h.1.2
  exact ⟨q, rfl, by rw [← natsV_len]; exact h.1.1, hq, natsV_nodup.mp h.2⟩
theorem allV_of {q : List Nat} {n : Nat} (h1 : q.length = n) (h2 : ∀ x ∈ q, x < n) (h3 : q.Nodup) : allV n (natsV q) = true := by
  unfold allV
  rw [Bool.and_eq_true, Bool.and_eq_true, decide_eq_true_eq, decide_eq_true_eq, List.all_eq_true]
  refine ⟨⟨by rw [natsV_len]; exact h1, fun v hv => ?_⟩, natsV_nodup.mpr h3⟩
  obtain ⟨x, hx, rfl⟩ := List.mem_map.mp hv
  have := h2 x hx
  show (decide ((0 : Int) ≤ (x : Int)) && decide ((x : Int) ≤ (n : Int) - 1)) = true
  rw [decide_eq_true (by omega), decide_eq_true (by omega)]
  rfl
theorem nd_len : ∀ (q ks : List Int), ks.Nodup → (∀ k ∈ ks, k ∈ q) → ks.length ≤ q.length ∧ (ks.length = q.length → q.Nodup)
  | [], ks, _, h => by
    cases ks with
    | nil => exact ⟨Nat.le_refl _, fun _ => List.nodup_nil⟩
    | cons k r => exact absurd (h k List.mem_cons_self) (by simp)
  | x :: r, ks, nd, h => by
    by_cases hx : x ∈ r
    · have ih := nd_len r ks nd fun k hk => by
        rcases List.mem_cons.mp (h k hk) with e | e
        · rw [e]
          exact hx
        · exact e
      refine ⟨Nat.le_succ_of_le ih.1, fun e => ?_⟩
      have := ih.1
      rw [e] at this
      exact absurd this (by simp)
    · have ih := nd_len r (ks.erase x) (nd.erase x) fun k hk => by
        have := (List.Nodup.mem_erase_iff nd).mp hk
        rcases List.mem_cons.mp (h k this.2) with e | e
        · exact absurd e this.1
        · exact e
      have le := List.length_erase (a := x) (l := ks)
      have hl : ks.length ≤ (ks.erase x).length + 1 := by
        rw [le]
        split <;> omega
      refine ⟨by rw [List.length_cons]; omega, fun e => ?_⟩
      rw [List.length_cons] at e
      exact List.nodup_cons.mpr ⟨hx, ih.2 (by omega)⟩
theorem castZ_nodup {q : List Nat} : (q.map fun z : Nat => (z : Int)).Nodup ↔ q.Nodup := by
  constructor
  · intro h
    refine (List.pairwise_map.mp h).imp fun {a b} n e => n (by rw [e])
  · intro h
    exact List.pairwise_map.mpr (h.imp fun {a b} n e => n (by omega))
theorem set_len {q : List Nat} {ks : List Int} (kd : ks.Nodup) (km : ∀ k, k ∈ ks ↔ k ∈ q.map fun z : Nat => (z : Int)) : ks.length = q.length ↔ q.Nodup := by
  have h := nd_len (q.map fun z : Nat => (z : Int)) ks kd fun k hk => (km k).mp hk
  rw [List.length_map] at h
  constructor
  · exact fun e => castZ_nodup.mp (h.2 e)
  · intro nd
    have h2 := (nd_len ks (q.map fun z : Nat => (z : Int)) (castZ_nodup.mpr nd) fun k hk => (km k).mpr hk).1
    rw [List.length_map] at h2
    omega
def sp_are_all (K : PySem.W.Frag) : Sp := fun vs H Q _ => ∃ (v : V) (n : Nat) (C z : Addr) (c : Bool), vs = [v, .int (n : Int)] ∧ KitC K C ∧ n ≤ 400 ∧
  ((Th C z H 1 v ∧ c = permB H v n) ∨ (∃ a q, v = .ref a ∧ Rd H a (.tup (natsV q)) ∧ q.length ≤ 1000 ∧ c = allV n (natsV q))) ∧ ∀ H', Same H H' → Q (.bl c) H'
theorem sc_are_all : FnScope ["thing", "many", "item"] ["thing", "many"] (defScope s_are_all) := ⟨rfl, rfl, rfl, by decide +kernel, rfl, by decide +kernel, by decide +kernel⟩
theorem ok_are_all (T : Top P K mg) : FnOk P w K mg base CX0 3 T.f_are_all T.fd_are_all ["thing", "many"] (sp_are_all K) := by
  have G_is_within := ok_is_within (P := P) (w := w) (base := base) T
  refine T.F_are_all.ok sc_are_all (fun vs H Q E h => ?_) (fun cdv A outer s H vs Q E hr h => ?_)
  · obtain ⟨v, n, C, z, c, rfl, _⟩ := h
    rfl
  · obtain ⟨v, n, C, z, c, rfl, kc, hn, h, k⟩ := h
    refine ⟨_, (pss_cons (ps_if (PW.pt (pw_or (pt_not (pt_val (pe_callB (r := rIsi K) (id := "isinstance") call_isi (by rfl) T.z_isinstance (by decide +kernel) (pa_cons (pv 0) (pa_cons (pe_bltn (v := .ty "tuple") (u := .type "tuple") (by rfl) T.z_tuple (by decide +kernel) rfl) pa_nil))))) (pw_or (pt_cmpR op_ne (pe_callB (r := rLenQ K) (id := "len") call_len_seq (by rfl) T.z_len (by decide +kernel) (pa_cons (pv 0) pa_nil)) (pv 1) (nomark _)) (pw_or1 (pt_not (pt_val (pe_callB (r := rAll K) (id := "all") (cr_all rfl) (by rfl) T.z_all (by decide +kernel) (pa_cons (pe_lc (own := [("item", 2)]) (g := gName 2) (tt := tYes) rfl sc_are_all.nd (pi_tup (pv 0)) (blkOk_by (own := [("item", 2)]) (N := ["thing", "many", "item"]) (sc := defScope s_are_all) (by decide +kernel)) (fun _ _ _ _ _ => (pg_name (i := 2) sc_are_all.nd rfl (Or.inl rfl))) (fun _ _ _ _ _ => pts_nil) (fun _ _ _ _ _ => (pe_call G_is_within hr (by rfl) T.g_is_within T.F_is_within.kp T.b_is_within .nil pass0 (pa_cons (pv 2) (pa_cons pe_int (pa_cons (pe_op op_sub (pv 1) pe_int) pa_nil)))))) pa_nil)))))))) (pss_one (ps_ret pe_bl)) pss_nil)
      (pss_one (ps_ret (pe_cmpR op_eq (pe_lenSetU (by rfl) T.z_len (by rfl) T.z_set (pv 0)) (pv 1) (nomark _))))), ?_⟩
    have key : (∃ t, TyX K H v t ∧ PySem.W.kitOne K t (.type "tuple") = some false ∧ Q (.bl false) H) ∨ (∃ a xs, v = .ref a ∧ Rd H a (.tup xs) ∧ xs.length ≤ 1000 ∧ (∀ x ∈ xs, ∀ J, Same H J → IntK K J x) ∧ ∀ J, Same H J → Q (.bl (allV n xs)) J) := by
      rcases h with ⟨ht, rfl⟩ | ⟨a, q, rfl, hr, hq, rfl⟩
      · obtain ⟨t, bt, ty, tt, hh⟩ := ht.ty kc
        rcases hh with ⟨rfl, no⟩ | ⟨a, xs, rfl, ha, rfl, hx, hi⟩
        · have k := k H (Same.refl H)
          rw [permB_no no] at k
          exact .inl ⟨t, ty, tt, k⟩
        · rw [permB_tup ha] at k
          exact .inr ⟨a, xs, rfl, .inl ha, hx, fun x hx J s => ((hi x hx).same s).intK kc, k⟩
      · exact .inr ⟨a, _, rfl, hr, by rw [natsV_len]; exact hq, fun x hx J s => (by obtain ⟨n, _, rfl⟩ := List.mem_map.mp hx; exact .int _), k⟩
    clear h k
    rcases key with ⟨t, ty, tt, k⟩ | ⟨a, xs, rfl, hr, hx, hi, k⟩
    · tm_at "w"
      exact k
    · have ty := Rd.ty (K := K) hr
      have tt : PySem.W.kitOne K (.type "tuple") (.type "tuple") = some true := kit_ty (by decide +kernel)
      have sq : SqT K H a xs := .inl hr
      tm_at "w"
      by_cases zl : xs.length = n
      · refine iteEF ?_ ?_
        · rw [zl]
          simp
        tm_at "w"
        refine ⟨⟨_, sq⟩, fun D nD => lc_tupFS (fun i => xs[i]?.map fun v => V.bl (withinB v 0 ((n : Int) - 1))) (fun J s => .inl (Rd.same hr s)) nD (by omega) ?_ ?_⟩
        · intro i x H1 N M hx s1 kN kM
          have xm := List.mem_of_getElem? hx
          have hk := hi x xm H1 s1
          tm_at "w"
          refine ⟨x, 0, (n : Int) - 1, rfl, hk, ?_⟩
          exact kN _ _ (by rw [hx]; rfl) (Same.refl H1)
        · intro H1 s1 hD
          rw [range_items] at hD
          have e : xs.map (fun v => V.bl (withinB v 0 ((n : Int) - 1))) = (xs.map fun v => withinB v 0 ((n : Int) - 1)).map V.bl := by rw [List.map_map]; rfl
          rw [e] at hD
          have sq1 : SqT K H1 a xs := .inl (Rd.same hr s1)
          tm_at "w"
          refine ⟨_, _, rfl, SqL.of hD, ?_⟩
          cases c : xs.all (fun v => withinB v 0 ((n : Int) - 1)) with
          | false =>
            have k := k H1 s1
            have e2 : allV n xs = false := by unfold allV; rw [c, Bool.and_false, Bool.false_and]
            rw [e2] at k
            have e3 : (xs.map fun v => withinB v 0 ((n : Int) - 1)).all id = false := by rw [List.all_map]; exact c
            rw [e3]
            tm_at "w"
            exact k
          | true =>
            have e3 : (xs.map fun v => withinB v 0 ((n : Int) - 1)).all id = true := by rw [List.all_map]; exact c
            rw [e3]
            obtain ⟨q, rfl, hq⟩ := nats_within (List.all_eq_true.mp c)
            rw [natsV_len] at zl
            tm_at "w"
            refine ⟨a, q.map fun z : Nat => (z : Int), rfl, (by rw [List.map_map]; exact sq1), by rw [List.length_map]; omega, fun ks kd km => ?_⟩
            tm_at "w"
            have k := k H1 s1
            have e2 : allV n (natsV q) = decide (V.int (ks.length : Int) = V.int (n : Int)) := by
              have sl := set_len kd km
              rw [zl] at sl
              unfold allV
              rw [c, natsV_len, decide_eq_true zl, Bool.true_and, Bool.true_and]
              by_cases nd : q.Nodup
              · rw [decide_eq_true (natsV_nodup.mpr nd), sl.mpr nd, decide_eq_true rfl]
              · rw [decide_eq_false (fun z => nd (natsV_nodup.mp z)), decide_eq_false]
                intro z
                injection z with z
                exact nd (sl.mp (by omega))
            rw [e2] at k
            exact k
      · refine iteET ?_ ?_
        · simp
          exact fun e => zl (by omega)
        have k := k H (Same.refl H)
        have e2 : allV n xs = false := by unfold allV; rw [decide_eq_false zl, Bool.false_and, Bool.false_and]
        rw [e2] at k
        tm_at "w"
        exact k
/-! are_parents -/
def sp_are_parents (K : PySem.W.Frag) : Sp := fun vs H Q _ => ∃ (v : V) (t : Value) (bt : Bool) (m : Int), vs = [v, .int m] ∧ TyX K H v t ∧ PySem.W.kitOne K t (.type "tuple") = some bt ∧
  ((bt = false ∧ Q (.bl false) H) ∨ ∃ (a : Addr) (xs : List V), v = .ref a ∧ H a = some (.tup xs) ∧ bt = true ∧ (∀ x ∈ xs, IntK K H x) ∧ Q (.bl (lotFrom m (-1) xs && decide (xs.length ≤ 6))) H)
theorem sc_are_parents : FnScope ["thing", "number"] ["thing", "number"] (defScope s_are_parents) := ⟨rfl, rfl, rfl, by decide +kernel, rfl, by decide +kernel, by decide +kernel⟩
theorem ok_are_parents (T : Top P K mg) : FnOk P w K mg base CX0 4 T.f_are_parents T.fd_are_parents ["thing", "number"] (sp_are_parents K) := by
  have G_is_lot := ok_is_lot (P := P) (w := w) (base := base) T
  refine T.F_are_parents.ok sc_are_parents (fun vs H Q E h => ?_) (fun cdv A outer s H vs Q E hr h => ?_)
  · obtain ⟨v, t, bt, m, rfl, _⟩ := h
    rfl
  · obtain ⟨v, t, bt, m, rfl, ht, hb, hh⟩ := h
    refine ⟨_, (pss_one (ps_ret (pe_and (pe_call G_is_lot hr (by rfl) T.g_is_lot T.F_is_lot.kp T.b_is_lot .nil pass0 (pa_cons (pv 0) (pa_cons (pv 1) pa_nil))) (pe_one (pe_cmpR op_le (pe_callB (r := rLenQ K) (id := "len") call_len_seq (by rfl) T.z_len (by decide +kernel) (pa_cons (pv 0) pa_nil)) (pe_glob (v := .int 6) (by rfl) T.c_MOST_PARENTS.choose_spec ⟨_, rfl⟩) (nomark _)))))), ?_⟩
    tm_at "w"
    rcases hh with ⟨rfl, k⟩ | ⟨a, xs, rfl, ha, rfl, hi, k⟩
    · exact ⟨v, t, false, m, rfl, ht, hb, .inl ⟨rfl, false, rfl, iteF k⟩⟩
    · refine ⟨_, t, true, m, rfl, ht, hb, .inr ⟨a, xs, rfl, ha, rfl, hi, _, rfl, ?_⟩⟩
      refine iteB (fun h => ?_) (fun h => ?_)
      · tm_at "w"
        rw [h, Bool.true_and] at k
        have e : decide ((xs.length : Int) ≤ 6) = decide (xs.length ≤ 6) := decide_eq_decide.mpr (by omega)
        rw [← e] at k
        exact k
      · rw [h] at k
        exact k
/-! Book.fill -/
theorem bitOr_nat (a b : Nat) : Builtin.bitOr (a : Int) (b : Int) = ((a ||| b : Nat) : Int) := by
  rw [Bits.bitOr_pp (by omega) (by omega), Int.toNat_natCast, Int.toNat_natCast]
def sp_Book_fill (C : Addr) (K : PySem.W.Frag) : Sp := fun vs H Q _ => ∃ (b dx pa : Addr) (fs : List (Str × V)) (P : List (List Nat)), vs = [.ref b, .ref pa] ∧ H b = some (.ins C dx fs) ∧ BkFs fs ∧ ParAt H pa P ∧ RtP P ∧ P.length ≤ 1000 ∧
  ∀ lb H', But b H H' → H lb = none → BookAt C H' ⟨b, dx, pa, lb⟩ P → Q .non H'
theorem sc_Book_fill : FnScope ["self", "parents", "number", "item", "found", "parent"] ["self", "parents"] (defScope s_Book_fill) := ⟨rfl, rfl, rfl, by decide +kernel, rfl, by decide +kernel, by decide +kernel⟩
theorem ok_Book_fill (T : Top P K mg) : FnOk P w K mg base CX0 1 T.f_Book_fill T.fd_Book_fill ["self", "parents"] (sp_Book_fill T.C_Book K) := by
  refine T.F_Book_fill.ok sc_Book_fill (fun vs H Q E h => ?_) (fun cdv A outer s H vs Q E hr h => ?_)
  · obtain ⟨b, dx, pa, fs, P, rfl, _⟩ := h
    rfl
  · obtain ⟨b, dx, pa, fs, P, rfl, hb, hf, hP, hR, hn, k⟩ := h
    refine ⟨_, (pss_cons (ps_fld (pv 0) (pv 1) rfl)
      (pss_cons (ps_fld (pv 0) (pe_lst pa_nil) rfl)
      (pss_one (ps_for PassesOwn.never rfl (pi_enumT (by rfl) T.z_enumerate (pa_cons (pv 1) pa_nil)) (pg_tup rfl (pgs_cons (pg_name (i := 2) sc_Book_fill.nd rfl (Or.inl rfl)) (pgs_cons (pg_name (i := 3) sc_Book_fill.nd rfl (Or.inl rfl)) pgs_nil)))
      (pss_cons (ps_set (i := 4) sc_Book_fill.nd rfl (Or.inl rfl) (pe_op op_shl pe_int (pv 2)))
      (pss_cons (ps_for PassesOwn.never rfl (pi_tup (pv 3)) (pg_name (i := 5) sc_Book_fill.nd rfl (Or.inl rfl))
      (pss_one (ps_aug (i := 4) sc_Book_fill.nd rfl (Or.inl rfl) (pe_ix (r := rIxL K) ix_list (pe_fld (pv 0) rfl) (pv 5) (fun _ _ => rfl)) ip_or)))
      (pss_one (ps_expr (pe_bm PySem.F.plainAttrs_list PySem.F.slot_list_append PySem.F.type_list_append mt_append (pe_fld (pv 0) rfl) (pa_cons (pv 4) pa_nil)))))))))), ?_⟩
    have cB := T.cl_Book
    have nB1 := T.n_Book_parents
    have nB2 := T.n_Book_bits
    have hlp := BkFs.len1 hf pa
    have wb : ∀ l, H l = none → b ≠ l := fun l e => ne_of_none hb e
    obtain ⟨vsP, hpa, hlen, hit⟩ := id hP
    have nap : ∀ a xs, H a = some (.tup xs) → a ≠ b := fun a xs e z => by rw [z, hb] at e; cases e
    refine ⟨_, rfl, _, rfl, b, T.C_Book, dx, fs, rfl, hb, T.cl_Book, T.n_Book_parents, Nat.lt_trans (m := 500) hf.len (by decide), ?_⟩
    tm_at "w"
    intro lb nlb0
    have nlb : H lb = none := by
      by_cases z : lb = b
      · rw [z, upd_same] at nlb0
        cases nlb0
      · rw [upd_ne z] at nlb0
        exact nlb0
    have nbl : b ≠ lb := wb lb nlb
    refine ⟨_, rfl, b, T.C_Book, dx, _, rfl, (upd_ne nbl).trans upd_same, T.cl_Book, T.n_Book_bits, hlp, ?_⟩
    rw [hf.put pa lb]
    refine ⟨_, rfl, _, _, rfl, SqT.of (xs := vsP) ((upd_ne (nap _ _ hpa)).trans ((upd_ne (ne_of_none hpa nlb)).trans ((upd_ne (nap _ _ hpa)).trans hpa))), for_enumT (K := K) (a := pa) (xs := vsP) (fun i σ H' => ∃ x y z w, σ = [some (.ref b), some (.ref pa), x, y, z, w] ∧ But b H H' ∧ H' b = some (.ins T.C_Book dx (bkF pa lb)) ∧ H' lb = some (.lst (natsV (bitsOf (P.take i))))) ?_ ?_ ?_ ?_⟩
    · refine ⟨none, none, none, none, rfl, fun a o n e => ?_, upd_same, ?_⟩
      · exact (upd_ne n).trans ((upd_ne (ne_of_none e nlb)).trans ((upd_ne n).trans e))
      · exact (upd_ne nbl.symm).trans upd_same
    · rintro i σ H' ⟨_, _, _, _, rfl, bt, _⟩
      exact SqT.of (bt _ _ (nap _ _ hpa) hpa)
    · rintro i x t σ H' hx ⟨x0, y0, z0, w0, rfl, bt, h1, h2⟩ nt
      obtain ⟨ai, p, rfl, hp, hai⟩ := ParL.here ⟨hlen, hit⟩ hx
      have il := (List.getElem?_eq_some_iff.mp hp).1
      have wt : Nw H' t := ⟨nt⟩
      have hai' : H' ai = some (.tup (natsV p)) := bt _ _ (nap _ _ hai) hai
      tm_at "w"
      have hai2 : upd H' t (.tup [V.int (i : Int), V.ref ai]) ai = some (.tup (natsV p)) := by tm_at "hp"
      have hb2 : upd H' t (.tup [V.int (i : Int), V.ref ai]) b = some (.ins T.C_Book dx (bkF pa lb)) := by tm_at "hp"
      have hl2 : upd H' t (.tup [V.int (i : Int), V.ref ai]) lb = some (.lst (natsV (bitsOf (P.take i)))) := by tm_at "hp"
      have hbl : (bitsOf (P.take i)).length = i := by rw [bitsOf_len, List.length_take]; omega
      refine ⟨⟨_, SqT.of hai2⟩, for_tup (K := K) (a := ai) (xs := natsV p) (fun j σ H2 => ∃ z, σ = [some (.ref b), some (.ref pa), some (.int (i : Int)), some (.ref ai), some (.int (((p.take j).foldl (fun f q => f ||| (bitsOf (P.take i)).getD q 0) (2 ^ i) : Nat) : Int)), z] ∧ H2 = upd H' t (.tup [V.int (i : Int), V.ref ai])) ?_ ?_ ?_ ?_⟩
      · refine ⟨w0, ?_, rfl⟩
        show _ = [some (.ref b), some (.ref pa), some (.int (i : Int)), some (.ref ai), some (.int ((2 ^ i : Nat) : Int)), w0]
        have e : (1 : Int) * 2 ^ ((i : Int)).toNat = ((2 ^ i : Nat) : Int) := by rw [Int.one_mul, Int.toNat_natCast, Int.natCast_pow]; rfl
        rw [← e]
        rfl
      · rintro j σ H2 _ ⟨_, rfl, rfl⟩
        exact SqT.of hai2
      · rintro j y σ H2 hy ⟨z, rfl, rfl⟩
        obtain ⟨q, hq, rfl, _⟩ := natsV_here hy
        have ql : q < i := hR i p hp q (List.mem_of_getElem? hq)
        have hq2 : (natsV (bitsOf (P.take i)))[q]? = some (.int (((bitsOf (P.take i)).getD q 0 : Nat) : Int)) := by
          refine natsV_at ?_
          rw [List.getD_eq_getElem?_getD, List.getElem?_eq_getElem (by omega)]
          rfl
        tm_at "w"
        refine ⟨some (.int (q : Int)), ?_, rfl⟩
        show ([some (.ref b), some (.ref pa), some (.int (i : Int)), some (.ref ai), some (.int (Builtin.bitOr _ _)), some (.int (q : Int))] : L2.St) = _
        rw [bitOr_nat, List.take_add_one, hq, List.foldl_append]
        rfl
      · rintro σ H2 ⟨z, rfl, rfl⟩
        rw [natsV_len, List.take_length]
        tm_at "w"
        refine ⟨_, _, _, rfl, rfl, hl2, lt_line (by rw [natsV_len, hbl]; omega), ?_⟩
        have nlt : lb ≠ t := ne_of_none h2 nt
        refine ⟨_, _, _, _, rfl, fun a o n e => ?_, (upd_ne nbl).trans hb2, ?_⟩
        · have e2 := bt a o n e
          exact (upd_ne (ne_of_none e nlb)).trans ((upd_ne (ne_of_none e2 nt)).trans e2)
        · rw [upd_same, natsV_snoc, List.take_add_one, hp]
          show _ = some (HO.lst (natsV (bitsOf (P.take i ++ [p]))))
          rw [bitsOf_snoc, hbl]
          rfl
    · rintro σ H' ⟨x0, y0, z0, w0, rfl, bt, h1, h2⟩
      rw [hlen, List.take_length] at h2
      exact k lb H' bt nlb ⟨h1, ⟨vsP, bt _ _ (nap _ _ hpa) hpa, hlen, fun j p e => by
        obtain ⟨a, e1, e2⟩ := hit j p e
        exact ⟨a, e1, bt _ _ (nap _ _ e2) e2⟩⟩, h2⟩
/-! Book.__init__ -/
theorem lot_from {m : Int} : ∀ {q : List Nat} {last : Int}, q.Pairwise (· < ·) → (∀ x ∈ q, last < (x : Int) ∧ (x : Int) < m) → lotFrom m last (natsV q) = true
  | [], _, _, _ => rfl
  | x :: r, last, hp, hm => by
    obtain ⟨h1, h2⟩ := List.pairwise_cons.mp hp
    have hx := hm x List.mem_cons_self
    have ih := lot_from (m := m) (q := r) (last := (x : Int)) h2 fun y hy => ⟨by have := h1 y hy; omega, (hm y (List.mem_cons_of_mem _ hy)).2⟩
    show (withinB (.int (x : Int)) (last + 1) (m - 1) && lotFrom m (x : Int) (natsV r)) = true
    rw [ih]
    show ((decide (last + 1 ≤ (x : Int)) && decide ((x : Int) ≤ m - 1)) && true) = true
    rw [decide_eq_true (show last + 1 ≤ (x : Int) by omega), decide_eq_true (show (x : Int) ≤ m - 1 by omega)]
    rfl
theorem OkL.lot {q : List Nat} {m : Nat} (h : OkL q m) : (lotFrom (m : Int) (-1) (natsV q) && decide ((natsV q).length ≤ 6)) = true := by
  rw [lot_from h.asc fun x hx => ⟨by omega, by have := h.lt x hx; omega⟩, natsV_len, decide_eq_true h.few]
  rfl
def sp_Book___init__ (C : Addr) (K : PySem.W.Frag) : Sp := fun vs H Q _ => ∃ (b dx pa : Addr) (P : List (List Nat)), vs = [.ref b, .ref pa] ∧ H b = some (.ins C dx []) ∧ ParAt H pa P ∧ OkP P ∧
  ∀ lb H', But b H H' → H lb = none → BookAt C H' ⟨b, dx, pa, lb⟩ P → Q .non H'
theorem sc_Book___init__ : FnScope ["self", "parents", "number", "item"] ["self", "parents"] (defScope s_Book___init__) := ⟨rfl, rfl, rfl, by decide +kernel, rfl, by decide +kernel, by decide +kernel⟩
theorem ok_Book___init__ (T : Top P K mg) : FnOk P w K mg base CX0 5 T.f_Book___init__ T.fd_Book___init__ ["self", "parents"] (sp_Book___init__ T.C_Book K) := by
  have G_Book_fill := ok_Book_fill (P := P) (w := w) (base := base) T
  have G_are_parents := ok_are_parents (P := P) (w := w) (base := base) T
  refine T.F_Book___init__.ok sc_Book___init__ (fun vs H Q E h => ?_) (fun cdv A outer s H vs Q E hr h => ?_)
  · obtain ⟨b, dx, pa, P, rfl, _⟩ := h
    rfl
  · obtain ⟨b, dx, pa, P, rfl, hb, hP, ok, k⟩ := h
    refine ⟨_, (pss_cons (ps_if (PW.pt (pw_or (pt_not (pt_val (pe_callB (r := rIsi K) (id := "isinstance") call_isi (by rfl) T.z_isinstance (by decide +kernel) (pa_cons (pv 1) (pa_cons (pe_bltn (v := .ty "tuple") (u := .type "tuple") (by rfl) T.z_tuple (by decide +kernel) rfl) pa_nil))))) (pw_or1 (pt_cmpR op_gt (pe_callB (r := rLenQ K) (id := "len") call_len_seq (by rfl) T.z_len (by decide +kernel) (pa_cons (pv 1) pa_nil)) (pe_glob (v := .int 400) (by rfl) T.c_MOST_KINDS.choose_spec ⟨_, rfl⟩) (nomark _))))) (pss_one ps_never) pss_nil)
      (pss_cons (ps_for PassesOwn.never rfl (pi_enumT (by rfl) T.z_enumerate (pa_cons (pv 1) pa_nil)) (pg_tup rfl (pgs_cons (pg_name (i := 2) sc_Book___init__.nd rfl (Or.inl rfl)) (pgs_cons (pg_name (i := 3) sc_Book___init__.nd rfl (Or.inl rfl)) pgs_nil)))
      (pss_one (ps_if (pt_not (pt_val (pe_call G_are_parents hr (by rfl) T.g_are_parents T.F_are_parents.kp T.b_are_parents .nil pass0 (pa_cons (pv 3) (pa_cons (pv 2) pa_nil))))) (pss_one ps_never) pss_nil)))
      (pss_one (ps_expr (pe_meth (pv 0) T.cl_Book T.m_Book_fill G_Book_fill (hr.mono (by decide)) T.b_Book_fill .nil pass0 (pa_cons (pv 1) pa_nil)))))), ?_⟩
    have cB := T.cl_Book
    have nB1 := T.n_Book_parents
    have nB2 := T.n_Book_bits
    obtain ⟨vsP, hpa, hlen, hit⟩ := id hP
    have few := ok.few
    have ty := ty_tup (K := K) hpa
    have tt := tup_tup (K := K)
    tm_at "w"
    refine ⟨_, _, rfl, SqT.of hpa, for_enumT (K := K) (a := pa) (xs := vsP) (fun i σ H' => ∃ x y, σ = [some (.ref b), some (.ref pa), x, y] ∧ Same H H') ?_ ?_ ?_ ?_⟩
    · exact ⟨none, none, rfl, Same.refl H⟩
    · rintro i σ H' ⟨_, _, rfl, s1⟩
      exact SqT.of (s1 _ _ hpa)
    · rintro i x t σ H' hx ⟨x0, y0, rfl, s1⟩ nt
      obtain ⟨ai, p, rfl, hp, hai⟩ := ParL.here ⟨hlen, hit⟩ hx
      have s2 : Same H (upd H' t (.tup [V.int (i : Int), V.ref ai])) := Same.new s1 nt
      have hai2 := s2 _ _ hai
      tm_at "w"
      refine ⟨_, _, true, _, rfl, ty_tup hai2, tup_tup, .inr ⟨ai, natsV p, rfl, hai2, rfl, natsV_int p, ?_⟩⟩
      rw [(ok.ok i p hp).lot]
      refine ⟨_, rfl, iteF ?_⟩
      exact ⟨_, _, rfl, s2⟩
    · rintro σ H' ⟨x0, y0, rfl, s1⟩
      tm_at "w"
      refine ⟨b, dx, [], rfl, s1 _ _ hb, rfl, ?_⟩
      tm_at "w"
      refine ⟨b, dx, pa, [], P, rfl, s1 _ _ hb, .inl rfl, hP.tk (Same.tk s1), ok.rt, by omega, fun lb H2 bt nl at' => ?_⟩
      tm_at "w"
      exact k lb H2 (But.same s1 bt) (Same.free s1 nl) at'
/-- the book that is made of parents -/
theorem mk_book {C : Addr} {K : PySem.W.Frag} {H : Hp} {pa : Addr} {P : List (List Nat)} {Q : Addr → Hp → Prop} {E : XK} (hP : ParAt H pa P) (ok : OkP P)
    (k : ∀ b H', Made C H H' b P → b.pa = pa → Q b.b H') : ∀ x dx, H x = none → H dx = none → dx ≠ x → sp_Book___init__ C K [.ref x, .ref pa] (upd (upd H dx (.own x)) x (.ins C dx [])) (fun v H2 => v = .non ∧ Q x H2) E := by
  intro x dx hx hd ne
  have s1 : Same H (upd (upd H dx (.own x)) x (.ins C dx [])) := Same.mut (Same.new (Same.refl H) hd) hx
  refine ⟨x, dx, pa, P, rfl, upd_same, hP.tk (Same.tk s1), ok, fun lb H' bt nl at' => ⟨rfl, ?_⟩⟩
  exact k ⟨x, dx, pa, lb⟩ H' ⟨But.new s1 hx bt, at', ⟨hx⟩, ⟨Same.free s1 nl⟩⟩ rfl
/-! book_of -/
def sp_book_of (C : Addr) (K : PySem.W.Frag) : Sp := fun vs H Q _ => ∃ (a : Addr) (xs : List V) (P : List (List Nat)), vs = [.ref a] ∧ (H a = some (.lst xs) ∨ H a = some (.tup xs)) ∧ ParL H xs P ∧ RtP P ∧ P.length ≤ 1000 ∧
  ∀ b H', Made C H H' b P → Q (.ref b.b) H'
theorem sc_book_of : FnScope ["parents", "found"] ["parents"] (defScope s_book_of) := ⟨rfl, rfl, rfl, by decide +kernel, rfl, by decide +kernel, by decide +kernel⟩
theorem ok_book_of (T : Top P K mg) : FnOk P w K mg base CX0 7 T.f_book_of T.fd_book_of ["parents"] (sp_book_of T.C_Book K) := by
  have G_Book___init__ := ok_Book___init__ (P := P) (w := w) (base := base) T
  have G_Book_fill := ok_Book_fill (P := P) (w := w) (base := base) T
  refine T.F_book_of.ok sc_book_of (fun vs H Q E h => ?_) (fun cdv A outer s H vs Q E hr h => ?_)
  · obtain ⟨a, xs, P, rfl, _⟩ := h
    rfl
  · obtain ⟨a, xs, P, rfl, ha, hP, hR, hn, k⟩ := h
    refine ⟨_, (pss_cons (ps_set (i := 1) sc_book_of.nd rfl (Or.inl rfl) (pe_make T.M_Book G_Book___init__ hr (by rfl) T.g_Book T.b_Book___init__ .nil pass0 (pa_cons (pe_tup pa_nil) pa_nil)))
      (pss_cons (ps_expr (pe_meth (pv 1) T.cl_Book T.m_Book_fill G_Book_fill (hr.mono (by decide)) T.b_Book_fill .nil pass0 (pa_cons (pe_callTy (r := rTupQ K) (T := "tuple") call_tuple_of (by rfl) T.z_tuple (by decide +kernel) (pa_cons (pv 0) pa_nil)) pa_nil)))
      (pss_one (ps_ret (pv 1))))), ?_⟩
    have cB := T.cl_Book
    have nB1 := T.n_Book_parents
    have nB2 := T.n_Book_bits
    tm_at "w"
    intro e ne
    have s1 : Same H (upd H e (.tup [])) := Same.new (Same.refl H) ne
    tm_at "w"
    refine mk_book (pa := e) (P := []) ⟨[], upd_same, ParL.nil⟩ OkP.nil fun f H1 mk epa => ?_
    tm_at "w"
    have m1 := mk.early s1
    have s2 := m1.same
    have hins := mk.here.ins
    have fin : ∀ (t : Addr) (H2 : Hp), Same H1 H2 → ∀ lb H3, But f.b H2 H3 → H2 lb = none → BookAt T.C_Book H3 ⟨f.b, f.dx, t, lb⟩ P → Q (.ref f.b) H3 := fun t H2 s3 lb H3 bt nl at' =>
      k ⟨f.b, f.dx, t, lb⟩ H3 ⟨But.new (Same.trans s2 s3) m1.nb.e bt, at', m1.nb, ⟨Same.free (Same.trans s2 s3) nl⟩⟩
    refine ⟨f.b, f.dx, _, rfl, hins, bkF_no _ _ (by decide +kernel) (by decide +kernel), ?_⟩
    rcases ha with ha | ha
    · refine ⟨_, rfl, a, xs, rfl, .inl ⟨SqL.of (s2 _ _ ha), fun t nt => ?_⟩⟩
      have s3 : Same H1 (upd H1 t (.tup xs)) := Same.new (Same.refl H1) nt
      refine ⟨f.b, f.dx, t, _, P, rfl, s3 _ _ hins, .inr ⟨_, _, rfl⟩, ⟨xs, upd_same, hP.tk (Same.tk (Same.trans s2 s3))⟩, hR, hn, fun lb H3 bt nl at' => ?_⟩
      tm_at "w"
      exact fin t _ s3 lb H3 bt nl at'
    · refine ⟨_, rfl, a, xs, rfl, .inr ⟨SqT.of (s2 _ _ ha), ?_⟩⟩
      refine ⟨f.b, f.dx, a, _, P, rfl, hins, .inr ⟨_, _, rfl⟩, ⟨xs, s2 _ _ ha, hP.tk (Same.tk s2)⟩, hR, hn, fun lb H3 bt nl at' => ?_⟩
      tm_at "w"
      exact fin a _ (Same.refl H1) lb H3 bt nl at'
/-! many_of -/
def sp_many_of (C : Addr) (K : PySem.W.Frag) : Sp := fun vs H Q _ => ∃ (l : Bk) (P : List (List Nat)), vs = [.ref l.b] ∧ BookAt C H l P ∧ Q (.int (P.length : Nat)) H
theorem sc_many_of : FnScope ["book"] ["book"] (defScope s_many_of) := ⟨rfl, rfl, rfl, by decide +kernel, rfl, by decide +kernel, by decide +kernel⟩
theorem ok_many_of (T : Top P K mg) : FnOk P w K mg base CX0 1 T.f_many_of T.fd_many_of ["book"] (sp_many_of T.C_Book K) := by
  refine T.F_many_of.ok sc_many_of (fun vs H Q E h => ?_) (fun cdv A outer s H vs Q E hr h => ?_)
  · obtain ⟨l, P, rfl, _⟩ := h
    rfl
  · obtain ⟨l, P, rfl, hl, k⟩ := h
    refine ⟨_, (pss_one (ps_ret (pe_callB (r := rLenQ K) (id := "len") call_len_seq (by rfl) T.z_len (by decide +kernel) (pa_cons (pe_fld (pv 0) rfl) pa_nil)))), ?_⟩
    have cB := T.cl_Book
    have nB1 := T.n_Book_parents
    have nB2 := T.n_Book_bits
    have hli := hl.ins
    obtain ⟨xs, hx, hxl⟩ := id hl.par
    rw [← hxl.1] at k
    tm_at "w"
    exact k
/-! is_one -/
theorem bit_val (b p : Nat) : Builtin.bitAnd ((b : Int) / 2 ^ ((p : Int)).toNat) 1 = if b.testBit p then 1 else 0 := by
  rw [PyProof.Rows.bitAnd_m1, Int.toNat_natCast]
  have e : ((b : Int) / 2 ^ p) % 2 = ((b / 2 ^ p % 2 : Nat) : Int) := by
    rw [Int.natCast_emod, Int.natCast_ediv, Int.natCast_pow]
    rfl
  rw [e, Nat.testBit_eq_decide_div_mod_eq]
  have h : b / 2 ^ p % 2 < 2 := Nat.mod_lt _ (by decide)
  by_cases h1 : b / 2 ^ p % 2 = 1
  · rw [h1]
    rfl
  · have h0 : b / 2 ^ p % 2 = 0 := by omega
    rw [h0]
    rfl
theorem bit_one (b p : Nat) : decide (V.int (Builtin.bitAnd ((b : Int) / 2 ^ ((p : Int)).toNat) 1) = V.int 1) = b.testBit p := by
  rw [bit_val]
  cases b.testBit p
  · exact decide_eq_false (by intro e; cases e)
  · exact decide_eq_true rfl
def sp_is_one (C : Addr) (K : PySem.W.Frag) : Sp := fun vs H Q _ => ∃ (l : Bk) (P : List (List Nat)) (x p : Nat), vs = [.ref l.b, .int x, .int p] ∧ BookAt C H l P ∧ x < P.length ∧ Q (.bl (isA P x p)) H
theorem sc_is_one : FnScope ["book", "x", "p"] ["book", "x", "p"] (defScope s_is_one) := ⟨rfl, rfl, rfl, by decide +kernel, rfl, by decide +kernel, by decide +kernel⟩
theorem ok_is_one (T : Top P K mg) : FnOk P w K mg base CX0 1 T.f_is_one T.fd_is_one ["book", "x", "p"] (sp_is_one T.C_Book K) := by
  refine T.F_is_one.ok sc_is_one (fun vs H Q E h => ?_) (fun cdv A outer s H vs Q E hr h => ?_)
  · obtain ⟨l, P, x, p, rfl, _⟩ := h
    rfl
  · obtain ⟨l, P, x, p, rfl, hl, hx, k⟩ := h
    refine ⟨_, (pss_one (ps_ret (pe_cmpR op_eq (pe_op op_and (pe_op op_shr (pe_ix (r := rIxL K) ix_list (pe_fld (pv 0) rfl) (pv 1) (fun _ _ => rfl)) (pv 2)) pe_int) pe_int (nomark _)))), ?_⟩
    have cB := T.cl_Book
    have nB1 := T.n_Book_parents
    have nB2 := T.n_Book_bits
    have hli := hl.ins
    have hb : (bitsOf P)[x]? = some ((bitsOf P).getD x 0) := by
      rw [List.getD_eq_getElem?_getD, List.getElem?_eq_getElem (by rw [bitsOf_len]; exact hx)]
      rfl
    have hb2 := natsV_at hb
    have hbits := hl.bits
    tm_at "w"
    have e : isA P x p = decide (V.int (Builtin.bitAnd ((((bitsOf P).getD x 0 : Nat) : Int) / 2 ^ ((p : Int)).toNat) 1) = V.int 1) := (bit_one _ _).symm
    rw [e] at k
    exact k
/-! are_apart -/
def sp_are_apart (C : Addr) (K : PySem.W.Frag) : Sp := fun vs H Q _ => ∃ (l : Bk) (P : List (List Nat)) (x p : Nat), vs = [.ref l.b, .int x, .int p] ∧ BookAt C H l P ∧ x < P.length ∧ p < P.length ∧ Q (.bl (!isA P x p && !isA P p x)) H
theorem sc_are_apart : FnScope ["book", "x", "p"] ["book", "x", "p"] (defScope s_are_apart) := ⟨rfl, rfl, rfl, by decide +kernel, rfl, by decide +kernel, by decide +kernel⟩
theorem ok_are_apart (T : Top P K mg) : FnOk P w K mg base CX0 2 T.f_are_apart T.fd_are_apart ["book", "x", "p"] (sp_are_apart T.C_Book K) := by
  have G_is_one := ok_is_one (P := P) (w := w) (base := base) T
  refine T.F_are_apart.ok sc_are_apart (fun vs H Q E h => ?_) (fun cdv A outer s H vs Q E hr h => ?_)
  · obtain ⟨l, P, x, p, rfl, _⟩ := h
    rfl
  · obtain ⟨l, P, x, p, rfl, hl, hx, hp, k⟩ := h
    refine ⟨_, (pss_one (ps_ret (pe_and (pe_not (pe_call G_is_one hr (by rfl) T.g_is_one T.F_is_one.kp T.b_is_one .nil pass0 (pa_cons (pv 0) (pa_cons (pv 1) (pa_cons (pv 2) pa_nil))))) (pe_one (pe_not (pe_call G_is_one hr (by rfl) T.g_is_one T.F_is_one.kp T.b_is_one .nil pass0 (pa_cons (pv 0) (pa_cons (pv 2) (pa_cons (pv 1) pa_nil))))))))), ?_⟩
    tm_at "w"
    refine ⟨l, P, x, p, rfl, hl, hx, ?_⟩
    cases c : isA P x p with
    | true =>
      rw [c] at k
      tm_at "w"
      exact k
    | false =>
      rw [c] at k
      tm_at "w"
      refine ⟨l, P, p, x, rfl, hl, hp, ?_⟩
      tm_at "w"
      exact k
/-! forebears_of -/
def sp_forebears_of (C : Addr) (K : PySem.W.Frag) : Sp := fun vs H Q _ => ∃ (l : Bk) (P : List (List Nat)) (x : Nat), vs = [.ref l.b, .int x] ∧ BookAt C H l P ∧ x < P.length ∧ P.length ≤ 1000 ∧
  ∀ t H', Same H H' → H' t = some (.tup (natsV (foreB P x))) → Q (.ref t) H'
theorem sc_forebears_of : FnScope ["book", "x", "p"] ["book", "x"] (defScope s_forebears_of) := ⟨rfl, rfl, rfl, by decide +kernel, rfl, by decide +kernel, by decide +kernel⟩
theorem ok_forebears_of (T : Top P K mg) : FnOk P w K mg base CX0 2 T.f_forebears_of T.fd_forebears_of ["book", "x"] (sp_forebears_of T.C_Book K) := by
  have G_is_one := ok_is_one (P := P) (w := w) (base := base) T
  refine T.F_forebears_of.ok sc_forebears_of (fun vs H Q E h => ?_) (fun cdv A outer s H vs Q E hr h => ?_)
  · obtain ⟨l, P, x, rfl, _⟩ := h
    rfl
  · obtain ⟨l, P, x, rfl, hl, hx, hn, k⟩ := h
    refine ⟨_, (pss_one (ps_ret (pe_callTy (r := rTupQ K) (T := "tuple") call_tuple_of (by rfl) T.z_tuple (by decide +kernel) (pa_cons (pe_lc (own := [("p", 2)]) (g := gName 2) rfl sc_forebears_of.nd (pi_range1 rfl T.z_range (pa_cons (pv 1) pa_nil)) (blkOk_by (own := [("p", 2)]) (N := ["book", "x", "p"]) (sc := defScope s_forebears_of) (by decide +kernel)) (fun _ _ _ _ _ => (pg_name (i := 2) sc_forebears_of.nd rfl (Or.inl rfl))) (fun _ _ _ _ _ => (pts_one (pt_val (pe_call G_is_one hr (by rfl) T.g_is_one T.F_is_one.kp T.b_is_one .nil pass0 (pa_cons (pv 0) (pa_cons (pv 1) (pa_cons (pv 2) pa_nil))))))) (fun _ _ _ _ _ => (pv 2))) pa_nil)))), ?_⟩
    have cB := T.cl_Book
    have nB1 := T.n_Book_parents
    have nB2 := T.n_Book_bits
    have hli := hl.ins
    tm_at "w"
    intro D nD
    refine lc_rangeF (fun i => if isA P x i = true then some (V.int (i : Int)) else none) nD (by omega) ?_ ?_
    · intro i H' N M hi s1 kN kM
      have hl' := hl.same s1
      rw [Int.zero_add]
      tm_at "w"
      refine ⟨l, P, x, i, rfl, hl', hx, ?_⟩
      refine ⟨_, rfl, ?_⟩
      refine iteB (fun e => ?_) (fun e => ?_)
      · tm_at "w"
        exact kN _ _ (by rw [e]; rfl) (Same.refl H')
      · exact kM _ (by rw [e]; rfl) (Same.refl H')
    · intro H' s1 hD
      rw [Int.toNat_natCast, filter_nats] at hD
      tm_at "w"
      intro t nt
      exact k t _ (Same.new s1 nt) upd_same
/-! reordered -/
theorem getD_at {α : Type} {l : List α} {i : Nat} {x d : α} (h : l[i]? = some x) : l.getD i d = x := by
  rw [List.getD_eq_getElem?_getD, h]
  rfl
/-! ### two books beside one another -/
def shift (n : Nat) (R : List (List Nat)) : List (List Nat) := R.map fun q => q.map (n + ·)
theorem shift_len (n : Nat) (R : List (List Nat)) : (shift n R).length = R.length := List.length_map _
theorem OkP.beside {P R : List (List Nat)} (h1 : OkP P) (h2 : OkP R) (hn : P.length + R.length ≤ 400) : OkP (P ++ shift P.length R) := by
  refine ⟨fun j q e => ?_, by rw [List.length_append, shift_len]; exact hn⟩
  by_cases hj : j < P.length
  · rw [List.getElem?_append_left hj] at e
    exact h1.ok j q e
  · rw [List.getElem?_append_right (by omega)] at e
    unfold shift at e
    rw [List.getElem?_map] at e
    cases c : R[j - P.length]? with
    | none => rw [c] at e; cases e
    | some p =>
      rw [c] at e
      have e : p.map (P.length + ·) = q := Option.some.inj e
      have ok := h2.ok _ p c
      rw [← e]
      refine ⟨List.pairwise_map.mpr (ok.asc.imp fun {a b} h => Nat.add_lt_add_left h _), fun x hx => ?_, by rw [List.length_map]; exact ok.few⟩
      obtain ⟨y, hy, rfl⟩ := List.mem_map.mp hx
      have := ok.lt y hy
      omega
/-! ### books in other orders -/
structure IsPm (q : List Nat) (n : Nat) : Prop where
  len : q.length = n
  lt : ∀ x ∈ q, x < n
  nd : q.Nodup
theorem idx_at {q : List Nat} (nd : q.Nodup) {k x : Nat} (h : q[k]? = some x) : q.idxOf x = k := by
  obtain ⟨hk, e⟩ := List.getElem?_eq_some_iff.mp h
  rw [← e]
  exact List.Nodup.idxOf_getElem nd k hk
theorem at_idx {q : List Nat} {x : Nat} (h : x ∈ q) : q[q.idxOf x]? = some x := by
  have hl := List.idxOf_lt_length_iff.mpr h
  rw [List.getElem?_eq_getElem hl]
  exact congrArg some (List.getElem_idxOf hl)
theorem idx_inj {q : List Nat} {x y : Nat} (hx : x ∈ q) (hy : y ∈ q) (e : q.idxOf x = q.idxOf y) : x = y := by
  have h1 := at_idx hx
  rw [e, at_idx hy] at h1
  exact (Option.some.inj h1).symm
theorem pm_mem {q : List Nat} {n : Nat} (h : IsPm q n) {x : Nat} (hx : x < n) : x ∈ q := by
  by_cases m : x ∈ q
  · exact m
  · have := nodup_le n (ks := x :: q) (List.nodup_cons.mpr ⟨m, h.nd⟩) fun k hk => by
      rcases List.mem_cons.mp hk with e | e
      · omega
      · exact h.lt k e
    rw [List.length_cons, h.len] at this
    omega
theorem pm_idx {q : List Nat} {n : Nat} (h : IsPm q n) {x : Nat} (hx : x < n) : q.idxOf x < n := by
  have := List.idxOf_lt_length_iff.mpr (pm_mem h hx)
  rw [h.len] at this
  exact this
def natsOf (xs : List V) : List Nat := xs.map fun v => match v with | .int i => i.toNat | _ => 0
theorem natsOf_nats (q : List Nat) : natsOf (natsV q) = q := by
  unfold natsOf natsV
  rw [List.map_map]
  exact (List.map_congr_left fun x _ => Int.toNat_natCast x).trans (List.map_id q)
/-- each kind behind its parents -/
def ordL (P : List (List Nat)) (q : List Nat) : Bool := (List.range q.length).all fun k => (P.getD (q.getD k 0) []).all fun p => decide (q.idxOf p < k)
theorem ordL_at {P : List (List Nat)} {q : List Nat} : ordL P q = true ↔ ∀ k x : Nat, q[k]? = some x → ∀ p ∈ P.getD x [], q.idxOf p < k := by
  unfold ordL
  rw [List.all_eq_true]
  constructor
  · intro h k x e p hp
    have hk := (List.getElem?_eq_some_iff.mp e).1
    have := h k (List.mem_range.mpr hk)
    rw [List.all_eq_true] at this
    have ex : q.getD k 0 = x := by rw [List.getD_eq_getElem?_getD, e]; rfl
    rw [ex] at this
    exact of_decide_eq_true (this p hp)
  · intro h k hk
    have hk := List.mem_range.mp hk
    rw [List.all_eq_true]
    intro p hp
    have e := List.getElem?_eq_getElem hk
    have ex : q.getD k 0 = q[k] := by rw [List.getD_eq_getElem?_getD, e]; rfl
    rw [ex] at hp
    exact decide_eq_true (h k _ e p hp)
def ordB (H : Hp) (v : V) (P : List (List Nat)) : Bool := permB H v P.length && match v with
  | .ref a => match H a with
    | some (.tup xs) => ordL P (natsOf xs)
    | _ => true
  | _ => true
theorem ordB_nats {H : Hp} {a : Addr} {P : List (List Nat)} {q : List Nat} (h : H a = some (.tup (natsV q))) (pm : IsPm q P.length) : ordB H (.ref a) P = ordL P q := by
  simp only [ordB, permB, h, natsOf_nats, allV_of pm.len pm.lt pm.nd, Bool.true_and]
/-- the parents by their new numbers -/
structure Re (P : List (List Nat)) (q : List Nat) (R : List (List Nat)) : Prop where
  len : R.length = q.length
  at' : ∀ k x : Nat, q[k]? = some x → ∃ it : List Nat, R[k]? = some it ∧ it.Perm ((P.getD x []).map q.idxOf) ∧ it.Pairwise (· ≤ ·)
theorem Re.uniq {P R R' : List (List Nat)} {q : List Nat} (h : Re P q R) (h' : Re P q R') : R = R' := by
  refine List.ext_getElem? fun k => ?_
  by_cases hk : k < q.length
  · obtain ⟨it, e1, p1, s1⟩ := h.at' k _ (List.getElem?_eq_getElem hk)
    obtain ⟨it', e2, p2, s2⟩ := h'.at' k _ (List.getElem?_eq_getElem hk)
    rw [e1, e2, List.Perm.eq_of_pairwise (le := (· ≤ ·)) (fun a b _ _ h1 h2 => Nat.le_antisymm h1 h2) s1 s2 (p1.trans p2.symm)]
  · rw [List.getElem?_eq_none (by rw [h.len]; omega), List.getElem?_eq_none (by rw [h'.len]; omega)]
theorem okP_getD {P : List (List Nat)} (h : OkP P) {x : Nat} (hx : x < P.length) : OkL (P.getD x []) x := by
  have e := List.getElem?_eq_getElem hx
  rw [List.getD_eq_getElem?_getD, e]
  exact h.ok x _ e
theorem Re.ok {P R : List (List Nat)} {q : List Nat} (r : Re P q R) (h : OkP P) (pm : IsPm q P.length) (o : ordL P q = true) : OkP R := by
  refine ⟨fun k it e => ?_, by rw [r.len, pm.len]; exact h.few⟩
  have hk : k < q.length := by rw [← r.len]; exact (List.getElem?_eq_some_iff.mp e).1
  have eq := List.getElem?_eq_getElem hk
  obtain ⟨it', e', p, s⟩ := r.at' k _ eq
  rw [e] at e'
  rw [← Option.some.inj e'] at p s
  have xl := pm.lt _ (List.getElem_mem hk)
  have okx := okP_getD h xl
  have nd : ((P.getD q[k] []).map q.idxOf).Nodup := by
    refine List.pairwise_map.mpr ((okx.asc.imp fun {a b} h => Nat.ne_of_lt h).imp_of_mem fun {a b} ha hb n ei => n ?_)
    exact idx_inj (pm_mem pm (by have := okx.lt a ha; omega)) (pm_mem pm (by have := okx.lt b hb; omega)) ei
  have ndi : it.Nodup := p.nodup_iff.mpr nd
  refine ⟨?_, fun x hx => ?_, by rw [p.length_eq, List.length_map]; exact okx.few⟩
  · exact (s.and ndi).imp fun {a b} h => Nat.lt_of_le_of_ne h.1 h.2
  · obtain ⟨y, hy, rfl⟩ := List.mem_map.mp (p.mem_iff.mp hx)
    exact ordL_at.mp o k _ eq y hy
/-- who is what goes along -/
theorem Re.isA {P R : List (List Nat)} {q : List Nat} (r : Re P q R) (h : OkP P) (hR : OkP R) (pm : IsPm q P.length) {p : Nat} (hp : p < P.length) : ∀ (x : Nat), x < P.length → isA R (q.idxOf x) (q.idxOf p) = isA P x p := by
  intro x
  induction x using Nat.strongRecOn with
  | ind x ih =>
    intro hx
    have ex : P[x]? = some P[x] := List.getElem?_eq_getElem hx
    have gx : P.getD x [] = P[x] := by rw [List.getD_eq_getElem?_getD, ex]; rfl
    obtain ⟨it, e, pr, _⟩ := r.at' (q.idxOf x) x (at_idx (pm_mem pm hx))
    rw [isA_rec hR.rt e, isA_rec h.rt ex]
    have ed : decide (q.idxOf x = q.idxOf p) = decide (x = p) := by
      by_cases z : x = p
      · rw [z, decide_eq_true rfl, decide_eq_true rfl]
      · rw [decide_eq_false z, decide_eq_false fun e => z (idx_inj (pm_mem pm hx) (pm_mem pm hp) e)]
    rw [ed]
    congr 1
    rw [Bool.eq_iff_iff, List.any_eq_true, List.any_eq_true]
    rw [gx] at pr
    constructor
    · rintro ⟨j, hj, ej⟩
      obtain ⟨y, hy, rfl⟩ := List.mem_map.mp (pr.mem_iff.mp hj)
      have yx := (h.ok x _ ex).lt y hy
      exact ⟨y, hy, by rw [← ih y yx (by omega)]; exact ej⟩
    · rintro ⟨y, hy, ey⟩
      have yx := (h.ok x _ ex).lt y hy
      exact ⟨q.idxOf y, pr.mem_iff.mpr (List.mem_map.mpr ⟨y, hy, rfl⟩), by rw [ih y yx (by omega)]; exact ey⟩
/-- the order back -/
def backL (q : List Nat) : List Nat := (List.range q.length).map q.idxOf
theorem backL_at {q : List Nat} {x : Nat} (hx : x < q.length) : (backL q)[x]? = some (q.idxOf x) := by
  unfold backL
  rw [List.getElem?_map, List.getElem?_range hx]
  rfl
theorem backL_pm {q : List Nat} {n : Nat} (pm : IsPm q n) : IsPm (backL q) n := by
  refine ⟨by unfold backL; rw [List.length_map, List.length_range]; exact pm.len, fun x hx => ?_, ?_⟩
  · obtain ⟨y, hy, rfl⟩ := List.mem_map.mp hx
    exact pm_idx pm (by rw [← pm.len]; exact List.mem_range.mp hy)
  · refine List.pairwise_map.mpr (List.nodup_range.imp_of_mem fun {a b} ha hb n e => n ?_)
    have ha := List.mem_range.mp ha
    have hb := List.mem_range.mp hb
    exact idx_inj (pm_mem pm (by rw [← pm.len]; exact ha)) (pm_mem pm (by rw [← pm.len]; exact hb)) e
theorem back_idx {q : List Nat} {n : Nat} (pm : IsPm q n) {x : Nat} (hx : x < n) : (backL q).idxOf (q.idxOf x) = x := idx_at (backL_pm pm).nd (backL_at (by rw [pm.len]; exact hx))
theorem Re.row {P R : List (List Nat)} {q : List Nat} (r : Re P q R) (pm : IsPm q P.length) {x : Nat} (hx : x < P.length) : (R.getD (q.idxOf x) []).Perm ((P.getD x []).map q.idxOf) := by
  obtain ⟨it, e, pr, _⟩ := r.at' _ x (at_idx (pm_mem pm hx))
  rw [List.getD_eq_getElem?_getD, e]
  exact pr
theorem Re.back_ord {P R : List (List Nat)} {q : List Nat} (r : Re P q R) (h : OkP P) (pm : IsPm q P.length) : ordL R (backL q) = true := by
  refine ordL_at.mpr fun k x e j hj => ?_
  have hk : k < q.length := by have := (List.getElem?_eq_some_iff.mp e).1; rw [(backL_pm pm).len] at this; rw [pm.len]; exact this
  rw [backL_at hk] at e
  have e := Option.some.inj e
  have hk : k < P.length := by rw [← pm.len]; exact hk
  rw [← e] at hj
  obtain ⟨y, hy, rfl⟩ := List.mem_map.mp ((r.row pm hk).mem_iff.mp hj)
  have yk := (okP_getD h hk).lt y hy
  rw [back_idx pm (by omega)]
  exact yk
theorem Re.back {P R : List (List Nat)} {q : List Nat} (r : Re P q R) (h : OkP P) (pm : IsPm q P.length) : Re R (backL q) P := by
  refine ⟨by rw [(backL_pm pm).len], fun k x e => ?_⟩
  have hk : k < q.length := by have := (List.getElem?_eq_some_iff.mp e).1; rw [(backL_pm pm).len] at this; rw [pm.len]; exact this
  rw [backL_at hk] at e
  have e := Option.some.inj e
  have hk : k < P.length := by rw [← pm.len]; exact hk
  have ek : P[k]? = some P[k] := List.getElem?_eq_getElem hk
  have gk : P.getD k [] = P[k] := by rw [List.getD_eq_getElem?_getD, ek]; rfl
  have okk := h.ok k _ ek
  refine ⟨P[k], ek, ?_, okk.asc.imp fun {a b} h => Nat.le_of_lt h⟩
  rw [← e]
  have pr := (r.row pm hk).map (backL q).idxOf
  rw [List.map_map, gk] at pr
  have ei : P[k].map ((backL q).idxOf ∘ q.idxOf) = P[k] := (List.map_congr_left fun y hy => back_idx pm (by have := okk.lt y hy; omega)).trans (List.map_id _)
  rw [ei] at pr
  exact pr.symm
/-! ### a dict comprehension over enumerate(a tuple) -/
theorem dc_enumT {K : PySem.W.Frag} {a : Addr} {xs : List V} {g : TG} {tt : TT} {tk tv : TE} {vs : List Nat} {σ : St} {H1 : Hp} {D : Addr} {Qd : Hp → Prop} (R : Nat → List (Key × V) → Prop) (h0 : R 0 []) (hx : ∀ J, Same H1 J → SqT K J a xs) (nD : H1 D = none) (hn : xs.length ≤ 100000)
    (hs : ∀ (i : Nat) (x : V) (Z : Addr) (H : Hp) (N : V → V → Hp → Prop) (M : Hp → Prop) (kvs : List (Key × V)), xs[i]? = some x → Same H1 H → H Z = some (.tup [.int (i : Nat), x]) → R i kvs → (∀ k z H5, Same H H5 → R (i + 1) (putK kvs k z) → N (kV k) z H5) →
      g (.ref Z) (wipe σ vs) H fun σ2 H2 => wipe σ2 vs = wipe σ vs ∧ tt σ2 H2 fun b H3 => if b = true then tk σ2 H3 fun y H4 => tv σ2 H4 fun z H5 => N y z H5 else M H3)
    (hd : ∀ H kvs, Same H1 H → H D = some (.dK kvs) → R xs.length kvs → Qd H) : ∃ W : Nat → Nat → Hp → Prop, (∃ m, W 0 m (upd H1 D (.dK []))) ∧ ∀ i m H, W i m H →
      ((IteT K a).stop i H ∧ Qd H) ∨ ((IteT K a).go i H ∧ ∃ Nx : Hp → Prop, (∀ H', Nx H' → ∃ m', m' < m ∧ W (i + 1) m' H') ∧ ∀ x H', (IteT K a).yld i H x H' → g x (wipe σ vs) H' fun σ2 H2 => wipe σ2 vs = wipe σ vs ∧ tt σ2 H2 fun b H3 =>
        if b = true then tk σ2 H3 fun y H4 => tv σ2 H4 fun z H5 => ∃ kvs k, y = kV k ∧ H5 D = some (.dK kvs) ∧ kvs.length < sizeLine ∧ Nx (upd H5 D (.dK (putK kvs k z))) else Nx H3) := by
  refine ⟨fun i m H => m = xs.length - i ∧ i ≤ xs.length ∧ Same H1 H ∧ ∃ kvs, H D = some (.dK kvs) ∧ kvs.length ≤ i ∧ R i kvs, ⟨xs.length, rfl, Nat.zero_le _, Same.new (Same.refl H1) nD, [], upd_same, Nat.le_refl _, h0⟩, ?_⟩
  rintro i m H ⟨rfl, hi, s, kvs, hD, hl, hR⟩
  have qx : SqT K H a xs := hx H s
  by_cases hlt : i < xs.length
  · have ex : xs[i]? = some xs[i] := List.getElem?_eq_getElem hlt
    refine .inr ⟨⟨xs, _, qx, ex⟩, fun H => i < xs.length ∧ Same H1 H ∧ ∃ kvs, H D = some (.dK kvs) ∧ kvs.length ≤ i + 1 ∧ R (i + 1) kvs, fun H' p' => ⟨xs.length - (i + 1), by omega, rfl, hlt, p'.2⟩, fun v H' y => ?_⟩
    obtain ⟨Z, x', rfl, hZ, rfl, f1⟩ := y
    have s1 : Same H (upd H Z (.tup [.int (i : Nat), x'])) := Same.new (Same.refl H) hZ
    refine hs i x' Z _ (fun y z H5 => ∃ kvs k, y = kV k ∧ H5 D = some (.dK kvs) ∧ kvs.length < sizeLine ∧ (i < xs.length ∧ Same H1 (upd H5 D (.dK (putK kvs k z))) ∧ ∃ kvs2, upd H5 D (.dK (putK kvs k z)) D = some (.dK kvs2) ∧ kvs2.length ≤ i + 1 ∧ R (i + 1) kvs2)) _ kvs (f1 xs qx) (s.trans s1) upd_same hR (fun k z H5 s5 r5 => ?_)
    have hl2 := length_putK kvs k z
    exact ⟨kvs, k, rfl, s5 _ _ (s1 _ _ hD), lt_line (by omega), hlt, Same.mut ((s.trans s1).trans s5) nD, _, upd_same, by omega, r5⟩
  · have e : i = xs.length := by omega
    subst e
    exact .inl ⟨⟨xs, qx, Nat.le_refl _⟩, hd H kvs s hD hR⟩
theorem valV_put {κ : Type} [DecidableEq κ] (k j : κ) (y : V) (kvs : List (κ × V)) (h : valV kvs k = none) : valV (putK kvs k y) j = if j = k then some y else valV kvs j := by
  unfold putK
  rw [valV_any, h]
  exact valV_snoc k j y kvs h
theorem new_hide {H X : Hp} {t : Addr} {o : HO} (s : Same H (upd X t o)) : ∃ H9, upd X t o = H9 ∧ Same H H9 ∧ H9 t = some o := ⟨_, rfl, s, upd_same⟩
theorem alloc_hide {H : Hp} {p : Addr} {o : HO} {R : Hp → Prop} (n : H p = none) (k : ∀ J, Same H J → J p = some o → R J) : R (upd H p o) := k _ (Same.new (Same.refl H) n) upd_same
theorem nats_perm {q : List Nat} {ns : List Int} (h : ns.Perm (q.map fun z : Nat => (z : Int))) (hs : ns.Pairwise (· ≤ ·)) : ∃ ks : List Nat, ns = ks.map (fun z : Nat => (z : Int)) ∧ ks.Perm q ∧ ks.Pairwise (· ≤ ·) := by
  have e : ns = (ns.map Int.toNat).map fun z : Nat => (z : Int) := by
    rw [List.map_map]
    refine (List.map_id _).symm.trans (List.map_congr_left fun z hz => ?_)
    obtain ⟨y, _, ey⟩ := List.mem_map.mp (h.mem_iff.mp hz)
    show z = ((z.toNat : Nat) : Int)
    omega
  refine ⟨ns.map Int.toNat, e, ?_, ?_⟩
  · have := h.map Int.toNat
    rw [List.map_map] at this
    have e2 : q.map (Int.toNat ∘ fun z : Nat => (z : Int)) = q := (List.map_congr_left fun z _ => (by show (z : Int).toNat = z; omega)).trans (List.map_id q)
    rw [e2] at this
    exact this
  · rw [List.pairwise_map]
    exact hs.imp fun {a b} hab => by omega
theorem at_neg1 {q : List Nat} (h : q ≠ []) : atI (natsV q) (-1) = some (.int ((q.getLastD 0 : Nat) : Int)) := by
  have hl : 0 < q.length := List.length_pos_iff.mpr h
  unfold atI
  have e : ixN (natsV q).length (-1) = some (q.length - 1) := by
    rw [natsV_len]
    unfold ixN
    rw [if_neg (by decide), if_pos (by omega)]
    congr 1
    omega
  rw [e]
  refine natsV_at ?_
  rw [List.getElem?_eq_getElem (by omega), ← List.getLast_eq_getElem h, List.getLastD_eq_getLast?, List.getLast?_eq_getLast h]
  rfl
theorem filter_list (q : List Nat) (c : Nat → Bool) : (List.range (natsV q).length).filterMap (fun i => q[i]?.bind fun s => if c s = true then some (V.int (s : Int)) else none) = natsV (q.filter c) := by
  rw [natsV_len]
  have h1 : (List.range q.length).filterMap (fun i => q[i]?.bind fun s => if c s = true then some (V.int (s : Int)) else none) = q.filterMap fun s => if c s = true then some (V.int (s : Int)) else none := by
    have key : ∀ n, n ≤ q.length → (List.range n).filterMap (fun i => q[i]?.bind fun s => if c s = true then some (V.int (s : Int)) else none) = (q.take n).filterMap fun s => if c s = true then some (V.int (s : Int)) else none := by
      intro n
      induction n with
      | zero => intro _; rfl
      | succ n ih =>
        intro h
        rw [filterMap_range_succ, ih (by omega), List.take_add_one, List.filterMap_append]
        rw [List.getElem?_eq_getElem (show n < q.length by omega)]
        congr 1
    rw [key _ (Nat.le_refl _), List.take_length]
  rw [h1]
  induction q with
  | nil => rfl
  | cons p r ih =>
    have ih2 : r.filterMap (fun s => if c s = true then some (V.int (s : Int)) else none) = natsV (r.filter c) := by
      clear ih h1
      induction r with
      | nil => rfl
      | cons p r ih =>
        rw [List.filterMap_cons, List.filter_cons]
        cases e : c p with
        | true => rw [if_pos rfl, if_pos rfl]; show _ :: _ = V.int (p : Int) :: natsV (r.filter c); rw [ih]
        | false => simp only [Bool.false_eq_true, if_false]; exact ih
    rw [List.filterMap_cons, List.filter_cons]
    cases e : c p with
    | true => rw [if_pos rfl, if_pos rfl]; show _ :: _ = V.int (p : Int) :: natsV (r.filter c); rw [ih2]
    | false => simp only [Bool.false_eq_true, if_false]; exact ih2
theorem le_last : ∀ {l : List Nat}, l.Pairwise (· ≤ ·) → ∀ (h : l ≠ []) (j : Nat), j ∈ l → j ≤ l.getLast h
  | [], _, h, _, _ => absurd rfl h
  | [a], _, _, j, hj => by
    rw [List.mem_singleton.mp hj]
    exact Nat.le_refl _
  | a :: b :: r, p, _, j, hj => by
    rw [List.getLast_cons (List.cons_ne_nil b r)]
    obtain ⟨h1, h2⟩ := List.pairwise_cons.mp p
    rcases List.mem_cons.mp hj with e | e
    · rw [e]
      exact h1 _ (List.getLast_mem _)
    · exact le_last h2 (List.cons_ne_nil b r) j e
def sp_reordered (C : Addr) (C_NoOrder : Addr) (K : PySem.W.Frag) : Sp := fun vs H Q E => ∃ (b : Bk) (v : V) (P : List (List Nat)) (z : Addr), vs = [.ref b.b, v] ∧ BookAt C H b P ∧ OkP P ∧ KitC K C ∧
  ((Th C z H 1 v ∧ (∀ a q, v = .ref a → H a = some (.tup (natsV q)) → IsPm q P.length → ordL P q = true → ∀ d R H', Made C H H' d R → Re P q R → Q (.ref d.b) H') ∧ (ordB H v P = false → ∀ H', Same H H' → E (.ref C_NoOrder) none H')) ∨
  (∃ a q, v = .ref a ∧ Rd H a (.tup (natsV q)) ∧ IsPm q P.length ∧ ordL P q = true ∧ ∀ d R H', Made C H H' d R → Re P q R → Q (.ref d.b) H'))
theorem sc_reordered : FnScope ["book", "order", "place", "found", "number", "kind", "item", "parent"] ["book", "order"] (defScope s_reordered) := ⟨rfl, rfl, rfl, by decide +kernel, rfl, by decide +kernel, by decide +kernel⟩
theorem ok_reordered (T : Top P K mg) : FnOk P w K mg base (L2.CX P w) 8 T.f_reordered T.fd_reordered ["book", "order"] (sp_reordered T.C_Book T.C_NoOrder K) := by
  have G_NoOrder___init__ := ok_NoOrder___init__ (P := P) (w := w) (base := base) T
  have G_are_all := ok_are_all (P := P) (w := w) (base := base) T
  have G_book_of := ok_book_of (P := P) (w := w) (base := base) T
  have G_many_of := ok_many_of (P := P) (w := w) (base := base) T
  refine T.F_reordered.okX sc_reordered (fun vs H Q E h => ?_) (fun cdv A outer s H vs Q E hr h => ?_)
  · obtain ⟨b, v, P, z, rfl, _⟩ := h
    rfl
  · obtain ⟨b, v, P, z, rfl, hb, okP, kc, h⟩ := h
    refine ⟨_, (pss_cons (ps_if (pt_not (pt_val (pe_call G_are_all (hr.mono (by decide)) (by rfl) T.g_are_all T.F_are_all.kp T.b_are_all .nil pass0 (pa_cons (pv 1) (pa_cons (pe_call G_many_of (hr.mono (by decide)) (by rfl) T.g_many_of T.F_many_of.kp T.b_many_of .nil pass0 (pa_cons (pv 0) pa_nil)) pa_nil))))) (pss_one (ps_raise rfl (takes_of rfl rfl rfl rfl) (pmk_n T.er_NoOrder.ex T.er_NoOrder.ic T.er_NoOrder.ti G_NoOrder___init__ (hr.mono (by decide)) T.er_NoOrder.bi pass0 (by rfl) T.er_NoOrder.g))) pss_nil)
      (pss_cons (ps_set (i := 2) sc_reordered.nd rfl (Or.inr rfl) (pe_dc (own := [("number", 4), ("kind", 5)]) (tt := tYes) rfl sc_reordered.nd (pi_enumT (by rfl) T.z_enumerate (pa_cons (pv 1) pa_nil)) (blkOk_by (own := [("number", 4), ("kind", 5)]) (N := ["book", "order", "place", "found", "number", "kind", "item", "parent"]) (sc := defScope s_reordered) (by decide +kernel)) (fun _ _ _ _ _ => (pg_tupK (K := K) 2 rfl rfl (pgs_cons (pg_name (i := 4) sc_reordered.nd rfl (Or.inl rfl)) (pgs_cons (pg_name (i := 5) sc_reordered.nd rfl (Or.inl rfl)) pgs_nil)))) (fun _ _ _ _ _ => pts_nil) (fun _ _ _ _ _ => (pv 5)) (fun _ _ _ _ _ => (pv 4))))
      (pss_cons (ps_set (i := 3) sc_reordered.nd rfl (Or.inl rfl) (pe_lst pa_nil))
      (pss_cons (ps_for (passes_of rfl) rfl (pi_enumT (by rfl) T.z_enumerate (pa_cons (pv 1) pa_nil)) (pg_tup rfl (pgs_cons (pg_name (i := 4) sc_reordered.nd rfl (Or.inl rfl)) (pgs_cons (pg_name (i := 5) sc_reordered.nd rfl (Or.inl rfl)) pgs_nil)))
      (pss_cons (ps_set (i := 6) sc_reordered.nd rfl (Or.inl rfl) (pe_callTy (r := rTupQ K) (T := "tuple") call_tuple_of (by rfl) T.z_tuple (by decide +kernel) (pa_cons (pe_callB (id := "sorted") cr_sortedI (by rfl) T.z_sorted (by decide +kernel) (pa_cons (pe_lc (own := [("parent", 7)]) (g := gName 7) (tt := tYes) rfl sc_reordered.nd (pi_tup (pe_ix (r := rIxT K) ix_tup (pe_fld (pv 0) rfl) (pv 5) (fun _ _ => rfl))) (blkOk_by (own := [("parent", 7)]) (N := ["book", "order", "place", "found", "number", "kind", "item", "parent"]) (sc := defScope s_reordered) (by decide +kernel)) (fun _ _ _ _ _ => (pg_name (i := 7) sc_reordered.nd rfl (Or.inl rfl))) (fun _ _ _ _ _ => pts_nil) (fun _ _ _ _ _ => (pe_dget (Nat.lt_of_le_of_lt (Nat.add_le_add_left (by decide) _) hr.units) (pv 2) (pv 7) (fun _ _ => rfl)))) pa_nil)) pa_nil)))
      (pss_cons (ps_if (PW.pt (pw_and (pt_cmpR op_gt (pe_callB (r := rLenQ K) (id := "len") call_len_seq (by rfl) T.z_len (by decide +kernel) (pa_cons (pv 6) pa_nil)) pe_int (nomark _)) (pw_and1 (pt_cmpR op_ge (pe_ix (r := rIxT K) ix_tup (pv 6) (pe_un un_neg pe_int) (fun _ _ => rfl)) (pv 4) (nomark _))))) (pss_one (ps_raise rfl (takes_of rfl rfl rfl rfl) (pmk_n T.er_NoOrder.ex T.er_NoOrder.ic T.er_NoOrder.ti G_NoOrder___init__ (hr.mono (by decide)) T.er_NoOrder.bi pass0 (by rfl) T.er_NoOrder.g))) pss_nil)
      (pss_one (ps_expr (pe_bm PySem.F.plainAttrs_list PySem.F.slot_list_append PySem.F.type_list_append mt_append (pv 3) (pa_cons (pv 6) pa_nil)))))))
      (pss_one (ps_ret (pe_call G_book_of hr (by rfl) T.g_book_of T.F_book_of.kp T.b_book_of .nil pass0 (pa_cons (pv 3) pa_nil)))))))), ?_⟩
    have cB := T.cl_Book
    have nB1 := T.n_Book_parents
    have hbi := hb.ins
    have few := okP.few
    obtain ⟨ps, hpa, hP⟩ := hb.par
    have pl := hP.1
    obtain ⟨c, hc, ct, cf⟩ : ∃ c : Bool, ((Th T.C_Book z H 1 v ∧ c = permB H v P.length) ∨ (∃ a q, v = .ref a ∧ Rd H a (.tup (natsV q)) ∧ q.length ≤ 1000 ∧ c = allV P.length (natsV q))) ∧
        (c = true → ∃ a q, v = .ref a ∧ Rd H a (.tup (natsV q)) ∧ IsPm q P.length ∧ (ordL P q = true → ∀ d R H', Made T.C_Book H H' d R → Re P q R → Q (.ref d.b) H') ∧ (ordL P q = false → ∀ H', Same H H' → E (.ref T.C_NoOrder) none H')) ∧
        (c = false → ∀ H', Same H H' → E (.ref T.C_NoOrder) none H') := by
      rcases h with ⟨ht, k, ke⟩ | ⟨a, q, rfl, hr, pm, ord, k⟩
      · refine ⟨_, .inl ⟨ht, rfl⟩, fun c => ?_, fun c => ke (by unfold ordB; rw [c, Bool.false_and])⟩
        cases v with
        | ref a =>
          cases e : H a with
          | none => simp [permB, e] at c
          | some o =>
            cases o with
            | tup xs =>
              rw [permB_tup e] at c
              obtain ⟨q, rfl, h1, h2, h3⟩ := allV_nats c
              exact ⟨a, q, rfl, .inl e, ⟨h1, h2, h3⟩, k a q rfl e ⟨h1, h2, h3⟩, fun o => ke (by rw [ordB_nats e ⟨h1, h2, h3⟩]; exact o)⟩
            | _ => simp [permB, e] at c
        | _ => cases c
      · have e := allV_of pm.len pm.lt pm.nd
        refine ⟨_, .inr ⟨a, q, rfl, hr, by rw [pm.len]; omega, rfl⟩, fun _ => ⟨a, q, rfl, hr, pm, fun _ => k, fun o => by rw [ord] at o; cases o⟩, fun c => by rw [e] at c; cases c⟩
    tm_at "w"
    refine ⟨b, P, rfl, hb, ?_⟩
    tm_at "w"
    refine ⟨v, P.length, T.C_Book, z, c, rfl, kc, few, hc, fun H1 s1 => ?_⟩
    clear hc h
    cases c with
    | false =>
      tm_at "w"
      exact cf rfl H1 s1
    | true =>
      obtain ⟨a, q, rfl, hr, pm, k, ke⟩ := ct rfl
      clear ct cf
      have sq1 : SqT K H1 a (natsV q) := .inl (Rd.same hr s1)
      have ql := pm.len
      have nql : (natsV q).length = q.length := natsV_len q
      tm_at "w"
      refine ⟨_, _, rfl, sq1, fun D nD => dc_enumT (fun i kvs => ∀ x : Nat, valV kvs (.inl (x : Int)) = if q.idxOf x < i then some (.int ((q.idxOf x : Nat) : Int)) else none) (fun x => rfl) (fun J s => .inl (Rd.same hr (Same.trans s1 s))) nD (by omega) ?_ ?_⟩
      · intro i x Z H2 N M kvs hx s2 hZ r kN
        obtain ⟨y, hy, rfl, il⟩ := natsV_here hx
        tm_at "w"
        refine kN (.inl (y : Int)) _ _ (Same.refl H2) fun x => ?_
        have iy := idx_at pm.nd hy
        rw [valV_put _ _ _ _ (by rw [r y, if_neg (by omega)]), r x]
        by_cases xy : x = y
        · rw [xy, if_pos rfl, if_pos (by omega), iy]
        · rw [if_neg (fun e => xy (by injection e with e; omega))]
          by_cases z : q.idxOf x < i
          · rw [if_pos z, if_pos (by omega)]
          · rw [if_neg z, if_neg]
            intro z2
            have e : q.idxOf x = i := by omega
            have m : x ∈ q := List.idxOf_lt_length_iff.mp (by omega)
            have := at_idx m
            rw [e, hy] at this
            exact xy (Option.some.inj this).symm
      · intro H2 kvs s2 hD hv
        rw [nql] at hv
        have s12 := Same.trans s1 s2
        have est : L2.start ["book", "order", "place", "found", "number", "kind", "item", "parent"] [V.ref b.b, V.ref a] = ([some (.ref b.b), some (.ref a), none, none, none, none, none, none] : L2.St) := rfl
        rw [est]
        tm_at "w"
        intro f nf
        obtain ⟨H3, e3, s3, hf3⟩ := new_hide (Same.new (o := .lst []) (Same.refl H2) nf)
        rw [e3]
        have s13 := Same.trans s12 s3
        have nf0 : H f = none := Same.free s12 nf
        have sq3 : SqT K H3 a (natsV q) := .inl (Rd.same hr s13)
        have hD3 := s3 _ _ hD
        have nfD : f ≠ D := (ne_of_none hD nf).symm
        simp only [List.set_cons_zero, List.set_cons_succ]
        tm_at "w"
        refine ⟨_, _, rfl, sq3, for_enumT (K := K) (a := a) (xs := natsV q) (fun i σ H' => ∃ (v4 v5 v6 v7 : Option V) (xs : List V) (R : List (List Nat)), σ = [some (.ref b.b), some (.ref a), some (.ref D), some (.ref f), v4, v5, v6, v7] ∧ Same H H' ∧ H' D = some (.dK kvs) ∧ H' f = some (.lst xs) ∧ ParL H' xs R ∧ R.length = i ∧ (∀ k x : Nat, k < i → q[k]? = some x → ∃ it : List Nat, R[k]? = some it ∧ it.Perm ((P.getD x []).map q.idxOf) ∧ it.Pairwise (· ≤ ·) ∧ ∀ p ∈ P.getD x [], q.idxOf p < k)) ?_ ?_ ?_ ?_⟩
        · exact ⟨none, none, none, none, [], [], rfl, s13, hD3, hf3, ParL.nil, rfl, fun k x h => absurd h (Nat.not_lt_zero _)⟩
        · rintro i σ H' ⟨_, _, _, _, _, _, rfl, s4, _⟩
          exact .inl (Rd.same hr s4)
        · rintro i x t σ H4 hx ⟨v4, v5, v6, v7, xs, R, rfl, s4, hD4, hf4, hR4, hl4, inv⟩ nt
          obtain ⟨y, hy, rfl, il⟩ := natsV_here hx
          obtain ⟨H5, e5, s5, ht5⟩ := new_hide (Same.new (o := .tup [.int (i : Int), .int (y : Int)]) (Same.refl H4) nt)
          rw [e5]
          have s15 := Same.trans s4 s5
          have hbi5 := s15 _ _ hbi
          have hpa5 := s15 _ _ hpa
          have yl := pm.lt y (List.mem_of_getElem? hy)
          have ey : P[y]? = some P[y] := List.getElem?_eq_getElem yl
          obtain ⟨pa, ep, hp⟩ := hP.2 y _ ey
          have hp5 := s15 _ _ hp
          have aty : atI ps (y : Int) = some (.ref pa) := atI_nat ep
          have hD5 := s5 _ _ hD4
          have okx := okP_getD okP yl
          have gx : P.getD y [] = P[y] := by rw [List.getD_eq_getElem?_getD, ey]; rfl
          rw [gx] at okx
          have lx := okx.few
          tm_at "w"
          refine ⟨⟨_, SqT.of hp5⟩, fun B nB => lc_tupF (fun j => (P[y])[j]?.map fun p => V.int ((q.idxOf p : Nat) : Int)) hp5 nB (by rw [natsV_len]; omega) ?_ ?_⟩
          · intro j p H6 N M hp6 s6 kN kM
            obtain ⟨p, hpj, rfl, _⟩ := natsV_here hp6
            have pn := okx.lt p (List.mem_of_getElem? hpj)
            have hD6 := s6 _ _ hD5
            have vp := hv p
            rw [if_pos (by have := pm_idx pm (x := p) (by omega); omega)] at vp
            tm_at "w"
            refine ⟨D, _, rfl, .inl ⟨kvs, .inl (p : Int), .inl hD6, rfl, vp.symm⟩, ?_⟩
            exact kN _ _ (by rw [hpj]; rfl) (Same.refl H6)
          · intro H6 s6 hB
            rw [natsV_len, range_items] at hB
            have e6 : P[y].map (fun p => V.int ((q.idxOf p : Nat) : Int)) = ((P[y].map q.idxOf).map fun z : Nat => (z : Int)).map V.int := by rw [List.map_map, List.map_map]; rfl
            rw [e6] at hB
            tm_at "w"
            refine ⟨B, (P[y].map q.idxOf).map fun z : Nat => (z : Int), rfl, SqL.of hB, fun ns q3 perm pw nq3 => ?_⟩
            obtain ⟨it, rfl, ip, iw⟩ := nats_perm perm pw
            have itl : it.length ≤ 6 := by rw [ip.length_eq, List.length_map]; exact lx
            tm_at "w"
            intro t7 nt7
            obtain ⟨H7, e7, s7, ht7⟩ := new_hide (Same.new (o := .tup ((it.map fun z : Nat => (z : Int)).map V.int)) (Same.new (Same.refl H6) nq3) nt7)
            rw [e7]
            have ht7 : H7 t7 = some (.tup (natsV it)) := by rw [ht7, List.map_map]; rfl
            have inl : (natsV it).length = it.length := natsV_len it
            have s57 := Same.trans s6 s7
            have hf7 := (Same.trans s5 s57) _ _ hf4
            have hD7 := s57 _ _ hD5
            have hR7 := hR4.tk (Same.tk (Same.trans s5 s57))
            have s17 := Same.trans s15 s57
            have xl : xs.length = i := hR4.1.trans hl4
            simp only [List.set_cons_zero, List.set_cons_succ]
            have bad : ∀ p ∈ P[y], i ≤ q.idxOf p → ∀ J, Same H J → E (.ref T.C_NoOrder) none J := fun p hp pi J sJ => by
              refine ke ?_ J sJ
              cases c2 : ordL P q with
              | false => rfl
              | true =>
                have := ordL_at.mp c2 i y hy p (by rw [gx]; exact hp)
                omega
            have good : (∀ p ∈ P[y], q.idxOf p < i) → ∃ (w4 w5 w6 w7 : Option V) (xs' : List V) (R : List (List Nat)), [some (.ref b.b), some (.ref a), some (.ref D), some (.ref f), some (.int (i : Int)), some (.int (y : Int)), some (.ref t7), v7] = [some (.ref b.b), some (.ref a), some (.ref D), some (.ref f), w4, w5, w6, w7] ∧ Same H (upd H7 f (.lst (xs ++ [.ref t7]))) ∧ upd H7 f (.lst (xs ++ [.ref t7])) D = some (.dK kvs) ∧ upd H7 f (.lst (xs ++ [.ref t7])) f = some (.lst xs') ∧ ParL (upd H7 f (.lst (xs ++ [.ref t7]))) xs' R ∧ R.length = i + 1 ∧ (∀ k x : Nat, k < i + 1 → q[k]? = some x → ∃ it : List Nat, R[k]? = some it ∧ it.Perm ((P.getD x []).map q.idxOf) ∧ it.Pairwise (· ≤ ·) ∧ ∀ p ∈ P.getD x [], q.idxOf p < k) := fun hgood => by
              have tk := TK.mut (o := .lst (xs ++ [.ref t7])) hf7
              refine ⟨some (.int (i : Int)), some (.int (y : Int)), some (.ref t7), v7, xs ++ [.ref t7], R ++ [it], rfl, Same.mut s17 nf0, (upd_ne nfD.symm).trans hD7, upd_same, (hR7.tk tk).snoc (tk _ _ ht7), by rw [List.length_append, hl4]; rfl, fun k x hk ek => ?_⟩
              by_cases z : k < i
              · obtain ⟨it2, g1, g2⟩ := inv k x z ek
                exact ⟨it2, by rw [List.getElem?_append_left (by omega)]; exact g1, g2⟩
              · obtain rfl : k = i := by omega
                rw [hy] at ek
                obtain rfl := Option.some.inj ek
                refine ⟨it, by rw [List.getElem?_append_right (by omega), hl4, Nat.sub_self]; rfl, by rw [gx]; exact ip, iw, by rw [gx]; exact hgood⟩
            have memi : ∀ p ∈ P[y], q.idxOf p ∈ it := fun p hp => ip.mem_iff.mpr (List.mem_map.mpr ⟨p, hp, rfl⟩)
            tm_at "w"
            refine iteD (fun z => ?_) (fun z => ?_)
            · have ne : it ≠ [] := fun e => by
                rw [inl, e] at z
                exact absurd z (by decide)
              have gl := it.getLast_mem ne
              have egl : it.getLastD 0 = it.getLast ne := by rw [List.getLastD_eq_getLast?, List.getLast?_eq_some_getLast ne]; rfl
              have big : ∀ j ∈ it, j ≤ it.getLastD 0 := fun j hj => by
                rw [egl]
                exact le_last iw ne j hj
              rw [← egl] at gl
              tm_at "w"
              refine ⟨_, _, _, _, rfl, rfl, SqT.of ht7, at_neg1 ne, ?_⟩
              tm_at "w"
              refine iteD (fun z2 => ?_) (fun z2 => ?_)
              · obtain ⟨p, hp, ep⟩ := List.mem_map.mp (ip.mem_iff.mp gl)
                exact bad p hp (by omega) H7 s17
              · tm_at "w"
                obtain ⟨w4, w5, w6, w7, xs', R', g1, g2, g3, g4, g5, g6, g7⟩ := good fun p hp => by
                  have := big _ (memi p hp)
                  omega
                exact ⟨w4, w5, w6, w7, xs', R', g1, g2, g3, g4, g5, g6, g7⟩
            · have e : it = [] := List.length_eq_zero_iff.mp (by omega)
              tm_at "w"
              obtain ⟨w4, w5, w6, w7, xs', R', g1, g2, g3, g4, g5, g6, g7⟩ := good fun p hp => by
                have := memi p hp
                rw [e] at this
                cases this
              exact ⟨w4, w5, w6, w7, xs', R', g1, g2, g3, g4, g5, g6, g7⟩
        · rintro σ H4 ⟨v4, v5, v6, v7, xs, R, rfl, s4, hD4, hf4, hR4, hl4, inv⟩
          rw [nql] at hl4 inv
          have ord : ordL P q = true := ordL_at.mpr fun k x e => by
            obtain ⟨_, _, _, _, g⟩ := inv k x (List.getElem?_eq_some_iff.mp e).1 e
            exact g
          have re : Re P q R := ⟨hl4, fun k x e => by
            obtain ⟨it, g1, g2, g3, _⟩ := inv k x (List.getElem?_eq_some_iff.mp e).1 e
            exact ⟨it, g1, g2, g3⟩⟩
          have okR := re.ok okP pm ord
          have okRf := okR.few
          tm_at "w"
          exact ⟨f, xs, R, rfl, .inl hf4, hR4, okR.rt, by omega, fun d H5 mk => k ord d R H5 (mk.early s4) re⟩
/-! check_fields -/
/-- right fields for n kinds -/
def fldB (H : Hp) (v : V) (n : Nat) : Bool := match v with
  | .ref a => match H a with
    | some (.tup xs) => decide (xs.length = n) && xs.all fun v => withinB v 0 6
    | _ => false
  | _ => false
theorem fldB_tup {H : Hp} {a : Addr} {xs : List V} {n : Nat} (h : H a = some (.tup xs)) : fldB H (.ref a) n = (decide (xs.length = n) && xs.all fun v => withinB v 0 6) := by
  simp only [fldB, h]
theorem fldB_no {H : Hp} {v : V} {n : Nat} (h : ∀ a xs, v = .ref a → H a ≠ some (.tup xs)) : fldB H v n = false := by
  unfold fldB
  split
  · split
    · rename_i a _ xs e
      exact absurd e (h a xs rfl)
    · rfl
  · rfl
theorem fldB_nats {H : Hp} {a : Addr} {F : List Nat} {n : Nat} (h : H a = some (.tup (natsV F))) (hl : F.length = n) (h6 : ∀ x ∈ F, x ≤ 6) : fldB H (.ref a) n = true := by
  rw [fldB_tup h, natsV_len, decide_eq_true hl, Bool.true_and]
  refine List.all_eq_true.mpr fun v hv => ?_
  obtain ⟨x, hx, rfl⟩ := List.mem_map.mp hv
  have := h6 x hx
  show (decide (0 ≤ ((x : Nat) : Int)) && decide (((x : Nat) : Int) ≤ 6)) = true
  rw [decide_eq_true (by omega), decide_eq_true (by omega)]
  rfl
def sp_check_fields (C : Addr) (C_NoFields : Addr) (K : PySem.W.Frag) : Sp := fun vs H Q E => ∃ (l : Bk) (v : V) (P : List (List Nat)) (z : Addr), vs = [.ref l.b, v] ∧ BookAt C H l P ∧ P.length ≤ 400 ∧ KitC K C ∧ Th C z H 1 v ∧
  (fldB H v P.length = true → ∀ H', Same H H' → Q .non H') ∧ (fldB H v P.length = false → ∀ H', Same H H' → E (.ref C_NoFields) none H')
theorem sc_check_fields : FnScope ["book", "thing", "number"] ["book", "thing"] (defScope s_check_fields) := ⟨rfl, rfl, rfl, by decide +kernel, rfl, by decide +kernel, by decide +kernel⟩
theorem ok_check_fields (T : Top P K mg) : FnOk P w K mg base (L2.CX P w) 3 T.f_check_fields T.fd_check_fields ["book", "thing"] (sp_check_fields T.C_Book T.C_NoFields K) := by
  have G_NoFields___init__ := ok_NoFields___init__ (P := P) (w := w) (base := base) T
  have G_is_within := ok_is_within (P := P) (w := w) (base := base) T
  have G_many_of := ok_many_of (P := P) (w := w) (base := base) T
  refine T.F_check_fields.okX sc_check_fields (fun vs H Q E h => ?_) (fun cdv A outer s H vs Q E hr h => ?_)
  · obtain ⟨l, v, P, z, rfl, _⟩ := h
    rfl
  · obtain ⟨l, v, P, z, rfl, hl, few, kc, ht, k, ke⟩ := h
    refine ⟨_, (pss_cons (ps_if (PW.pt (pw_or (pt_not (pt_val (pe_callB (r := rIsi K) (id := "isinstance") call_isi (by rfl) T.z_isinstance (by decide +kernel) (pa_cons (pv 1) (pa_cons (pe_bltn (v := .ty "tuple") (u := .type "tuple") (by rfl) T.z_tuple (by decide +kernel) rfl) pa_nil))))) (pw_or1 (pt_cmpR op_ne (pe_callB (r := rLenQ K) (id := "len") call_len_seq (by rfl) T.z_len (by decide +kernel) (pa_cons (pv 1) pa_nil)) (pe_call G_many_of (hr.mono (by decide)) (by rfl) T.g_many_of T.F_many_of.kp T.b_many_of .nil pass0 (pa_cons (pv 0) pa_nil)) (nomark _))))) (pss_one (ps_raise rfl (takes_of rfl rfl rfl rfl) (pmk_n T.er_NoFields.ex T.er_NoFields.ic T.er_NoFields.ti G_NoFields___init__ (hr.mono (by decide)) T.er_NoFields.bi pass0 (by rfl) T.er_NoFields.g))) pss_nil)
      (pss_one (ps_if (pt_not (pt_val (pe_callB (r := rAll K) (id := "all") (cr_all rfl) (by rfl) T.z_all (by decide +kernel) (pa_cons (pe_lc (own := [("number", 2)]) (g := gName 2) (tt := tYes) rfl sc_check_fields.nd (pi_tup (pv 1)) (blkOk_by (own := [("number", 2)]) (N := ["book", "thing", "number"]) (sc := defScope s_check_fields) (by decide +kernel)) (fun _ _ _ _ _ => (pg_name (i := 2) sc_check_fields.nd rfl (Or.inl rfl))) (fun _ _ _ _ _ => pts_nil) (fun _ _ _ _ _ => (pe_call G_is_within hr (by rfl) T.g_is_within T.F_is_within.kp T.b_is_within .nil pass0 (pa_cons (pv 2) (pa_cons pe_int (pa_cons (pe_glob (v := .int 6) (by rfl) T.c_MOST_BROUGHT.choose_spec ⟨_, rfl⟩) pa_nil)))))) pa_nil)))) (pss_one (ps_raise rfl (takes_of rfl rfl rfl rfl) (pmk_n T.er_NoFields.ex T.er_NoFields.ic T.er_NoFields.ti G_NoFields___init__ (hr.mono (by decide)) T.er_NoFields.bi pass0 (by rfl) T.er_NoFields.g))) pss_nil))), ?_⟩
    obtain ⟨t, bt, ty, tt, hh⟩ := ht.ty kc
    rcases hh with ⟨rfl, no⟩ | ⟨a, xs, rfl, ha, rfl, hx, hi⟩
    · have ke := ke (fldB_no no) H (Same.refl H)
      tm_at "w"
      exact ke
    · rw [fldB_tup ha] at k ke
      tm_at "w"
      refine ⟨l, P, rfl, hl, ?_⟩
      tm_at "w"
      by_cases zl : xs.length = P.length
      · rw [decide_eq_true zl, Bool.true_and] at k ke
        refine iteEF ?_ ?_
        · rw [zl]
          simp
        tm_at "w"
        refine ⟨⟨_, SqT.of ha⟩, fun D nD => lc_tupF (fun i => xs[i]?.map fun v => V.bl (withinB v 0 6)) ha nD (by omega) ?_ ?_⟩
        · intro i x H1 N M hx s1 kN kM
          have xm := List.mem_of_getElem? hx
          have hk := ((hi x xm).same s1).intK kc
          tm_at "w"
          refine ⟨x, 0, 6, rfl, hk, ?_⟩
          exact kN _ _ (by rw [hx]; rfl) (Same.refl H1)
        · intro H1 s1 hD
          rw [range_items] at hD
          have e : xs.map (fun v => V.bl (withinB v 0 6)) = (xs.map fun v => withinB v 0 6).map V.bl := by rw [List.map_map]; rfl
          rw [e] at hD
          tm_at "w"
          refine ⟨_, _, rfl, SqL.of hD, ?_⟩
          have e3 : (xs.map fun v => withinB v 0 6).all id = xs.all fun v => withinB v 0 6 := by rw [List.all_map]; rfl
          rw [e3]
          cases c : xs.all (fun v => withinB v 0 6) with
          | false =>
            tm_at "w"
            exact ke c H1 s1
          | true =>
            tm_at "w"
            exact k c H1 s1
      · rw [decide_eq_false zl, Bool.false_and] at k ke
        refine iteET ?_ ?_
        · simp
          exact fun e => zl (by omega)
        tm_at "w"
        exact ke rfl H (Same.refl H)
/-! heirs_bits -/
/-! ### kinds that quarrel -/
def posB (F : List Nat) (x : Nat) : Bool := decide (0 < F.getD x 0)
def comB (P : List (List Nat)) (a b : Nat) : Bool := (List.range P.length).any fun x => decide (b < x) && (isA P x a && isA P x b)
def quP (P : List (List Nat)) (F : List Nat) (a b : Nat) : Bool := decide (a < b) && (posB F a && (posB F b && (!isA P b a && comB P a b)))
def rowQ (P : List (List Nat)) (F : List Nat) (a m : Nat) : List (List Nat) := ((List.range m).filter (quP P F a)).map fun b => [a, b]
def quaB (P : List (List Nat)) (F : List Nat) : List (List Nat) := (List.range P.length).flatMap fun a => rowQ P F a P.length
theorem rowQ_succ (P : List (List Nat)) (F : List Nat) (a m : Nat) : rowQ P F a (m + 1) = rowQ P F a m ++ (if quP P F a m = true then [[a, m]] else []) := by
  unfold rowQ
  rw [List.range_succ, List.filter_append, List.map_append]
  congr 1
  cases h : quP P F a m <;> simp [h]
theorem rowQ_begin {P : List (List Nat)} {F : List Nat} {a m : Nat} (h : m ≤ a + 1) : rowQ P F a m = [] := by
  unfold rowQ
  rw [List.map_eq_nil_iff, List.filter_eq_nil_iff]
  intro b hb
  have := List.mem_range.mp hb
  unfold quP
  rw [decide_eq_false (by omega), Bool.false_and]
  decide
theorem rowQ_none {P : List (List Nat)} {F : List Nat} {a m : Nat} (h : posB F a = false) : rowQ P F a m = [] := by
  unfold rowQ
  rw [List.map_eq_nil_iff, List.filter_eq_nil_iff]
  intro b hb
  unfold quP
  rw [h, Bool.false_and, Bool.and_false]
  decide
theorem rowQ_len (P : List (List Nat)) (F : List Nat) (a m : Nat) : (rowQ P F a m).length ≤ m := by
  unfold rowQ
  rw [List.length_map]
  have := List.length_filter_le (quP P F a) (List.range m)
  rw [List.length_range] at this
  exact this
theorem flat_len {α : Type} {f : α → List (List Nat)} {m : Nat} : ∀ {l : List α}, (∀ x ∈ l, (f x).length ≤ m) → (l.flatMap f).length ≤ l.length * m
  | [], _ => by simp
  | x :: r, h => by
    have h1 := h x List.mem_cons_self
    have h2 := flat_len (l := r) fun y hy => h y (List.mem_cons_of_mem _ hy)
    rw [List.flatMap_cons, List.length_append, List.length_cons, Nat.succ_mul]
    omega
/-- bits of the heirs -/
def HBits (P : List (List Nat)) (ns : List Nat) : Prop := ns.length = P.length ∧ ∀ p j, p < P.length → (ns.getD p 0).testBit j = (decide (p < j) && (decide (j < P.length) && isA P j p))
theorem and_zero {x y : Nat} : x &&& y = 0 ↔ ∀ j, (x.testBit j && y.testBit j) = false := by
  constructor
  · intro h j
    rw [← Nat.testBit_and, h, Nat.zero_testBit]
  · intro h
    refine Nat.eq_of_testBit_eq fun j => ?_
    rw [Nat.testBit_and, h j, Nat.zero_testBit]
theorem HBits.com {P : List (List Nat)} {ns : List Nat} (h : HBits P ns) {a b : Nat} (ab : a < b) (hb : b < P.length) : decide (ns.getD a 0 &&& ns.getD b 0 = 0) = !comB P a b := by
  cases c : comB P a b with
  | true =>
    obtain ⟨x, hx, e⟩ := List.any_eq_true.mp c
    have hx := List.mem_range.mp hx
    rw [Bool.and_eq_true, Bool.and_eq_true, decide_eq_true_eq] at e
    refine decide_eq_false fun z => ?_
    have := and_zero.mp z x
    rw [h.2 a x (by omega), h.2 b x hb, e.2.1, e.2.2, decide_eq_true hx, decide_eq_true e.1, decide_eq_true (show a < x by omega)] at this
    cases this
  | false =>
    refine decide_eq_true (and_zero.mpr fun j => ?_)
    rw [h.2 a j (by omega), h.2 b j hb]
    by_cases hj : j < P.length
    · have := List.any_eq_false.mp c j (List.mem_range.mpr hj)
      by_cases bj : b < j
      · rw [decide_eq_true bj, Bool.true_and] at this
        rw [decide_eq_true hj, decide_eq_true bj, Bool.true_and, Bool.true_and, Bool.true_and, decide_eq_true (show a < j by omega), Bool.true_and]
        exact Bool.eq_false_iff.mpr this
      · rw [decide_eq_false bj, Bool.false_and, Bool.and_false]
    · rw [decide_eq_false hj]
      simp
theorem isA_later {P : List (List Nat)} (h : OkP P) {a b : Nat} (hab : a < b) (hb : b < P.length) : isA P a b = false := by
  cases c : isA P a b with
  | false => rfl
  | true => exact absurd (isA_le h.rt c) (by omega)
/-- those with fields -/
def someB (F : List Nat) (n : Nat) : List Nat := (List.range n).filter (posB F)
theorem someB_asc (F : List Nat) (n : Nat) : (someB F n).Pairwise (· < ·) := List.Pairwise.filter _ List.pairwise_lt_range
theorem drop_later {S : List Nat} (h : S.Pairwise (· < ·)) {i a : Nat} (e : S[i]? = some a) : S.drop (i + 1) = S.filter fun b => decide (a < b) := by
  induction S generalizing i with
  | nil => simp at e
  | cons x r ih =>
    obtain ⟨h1, h2⟩ := List.pairwise_cons.mp h
    cases i with
    | zero =>
      have e : x = a := Option.some.inj e
      rw [← e, List.filter_cons, decide_eq_false (Nat.lt_irrefl x), if_neg (by decide)]
      show r = _
      exact (List.filter_eq_self.mpr fun y hy => decide_eq_true (h1 y hy)).symm
    | succ i =>
      have e : r[i]? = some a := e
      have xa : x < a := h1 a (List.mem_of_getElem? e)
      rw [List.filter_cons, decide_eq_false (by omega), if_neg (by decide)]
      exact ih h2 e
theorem rowQ_some {P : List (List Nat)} {F : List Nat} {i a : Nat} (e : (someB F P.length)[i]? = some a) : (((someB F P.length).drop (i + 1)).filter fun b => !isA P b a && comB P a b).map (fun b => [a, b]) = rowQ P F a P.length := by
  have pa : posB F a = true := (List.mem_filter.mp (List.mem_of_getElem? e)).2
  rw [drop_later (someB_asc F _) e]
  unfold rowQ someB
  rw [List.filter_filter, List.filter_filter]
  congr 1
  refine List.filter_congr fun b _ => ?_
  unfold quP
  rw [pa, Bool.true_and]
  cases decide (a < b) <;> cases posB F b <;> simp
theorem quaB_some (P : List (List Nat)) (F : List Nat) : (someB F P.length).flatMap (fun a => rowQ P F a P.length) = quaB P F := by
  unfold quaB someB
  generalize List.range P.length = L
  induction L with
  | nil => rfl
  | cons x r ih =>
    rw [List.filter_cons, List.flatMap_cons]
    cases c : posB F x with
    | true => rw [if_pos rfl, List.flatMap_cons, ih]
    | false => rw [if_neg (by decide), ih, rowQ_none c, List.nil_append]
theorem flat_congr {α : Type} {f g : α → List (List Nat)} : ∀ {l : List α}, (∀ x ∈ l, f x = g x) → l.flatMap f = l.flatMap g
  | [], _ => rfl
  | x :: r, h => by
    rw [List.flatMap_cons, List.flatMap_cons, h x List.mem_cons_self, flat_congr fun y hy => h y (List.mem_cons_of_mem _ hy)]
theorem quaB_pos {P : List (List Nat)} {F G : List Nat} (h : ∀ x, x < P.length → posB F x = posB G x) : quaB P F = quaB P G := by
  have hr : ∀ a ∈ List.range P.length, rowQ P F a P.length = rowQ P G a P.length := fun a ha => by
    unfold rowQ
    congr 1
    refine List.filter_congr fun b hb => ?_
    unfold quP
    rw [h a (List.mem_range.mp ha), h b (List.mem_range.mp hb)]
  unfold quaB
  exact flat_congr hr
theorem flat_one {α : Type} (x : α) : ∀ n : Nat, (List.replicate n [x]).flatten = List.replicate n x
  | 0 => rfl
  | n + 1 => by
    rw [List.replicate_succ, List.flatten_cons, flat_one x n]
    rfl
theorem getD_set {ns : List Nat} {p q v : Nat} (hp : p < ns.length) : (ns.set p v).getD q 0 = if q = p then v else ns.getD q 0 := by
  rw [List.getD_eq_getElem?_getD, List.getD_eq_getElem?_getD, List.getElem?_set]
  by_cases e : p = q
  · rw [if_pos e, if_pos hp, if_pos e.symm]
    rfl
  · rw [if_neg e, if_neg (Ne.symm e)]
theorem natsV_set (ns : List Nat) (p v : Nat) : (natsV ns).set p (.int (v : Int)) = natsV (ns.set p v) := by
  unfold natsV
  rw [List.map_set]
theorem natsV_getD {ns : List Nat} {p : Nat} (h : p < ns.length) : (natsV ns)[p]? = some (.int ((ns.getD p 0 : Nat) : Int)) := by
  refine natsV_at ?_
  rw [List.getD_eq_getElem?_getD, List.getElem?_eq_getElem h]
  rfl
def sp_heirs_bits (C : Addr) (K : PySem.W.Frag) : Sp := fun vs H Q _ => ∃ (l : Bk) (P : List (List Nat)), vs = [.ref l.b] ∧ BookAt C H l P ∧ P.length ≤ 400 ∧
  ∀ t ns H', Same H H' → H' t = some (.lst (natsV ns)) → HBits P ns → Q (.ref t) H'
theorem sc_heirs_bits : FnScope ["book", "found", "x", "p"] ["book"] (defScope s_heirs_bits) := ⟨rfl, rfl, rfl, by decide +kernel, rfl, by decide +kernel, by decide +kernel⟩
theorem ok_heirs_bits (T : Top P K mg) : FnOk P w K mg base CX0 3 T.f_heirs_bits T.fd_heirs_bits ["book"] (sp_heirs_bits T.C_Book K) := by
  have G_forebears_of := ok_forebears_of (P := P) (w := w) (base := base) T
  have G_many_of := ok_many_of (P := P) (w := w) (base := base) T
  refine T.F_heirs_bits.ok sc_heirs_bits (fun vs H Q E h => ?_) (fun cdv A outer s H vs Q E hr h => ?_)
  · obtain ⟨l, P, rfl, _⟩ := h
    rfl
  · obtain ⟨l, P, rfl, hl, few, k⟩ := h
    refine ⟨_, (pss_cons (ps_set (i := 1) sc_heirs_bits.nd rfl (Or.inl rfl) (pe_op op_rep (pe_lst (pa_cons pe_int pa_nil)) (pe_call G_many_of (hr.mono (by decide)) (by rfl) T.g_many_of T.F_many_of.kp T.b_many_of .nil pass0 (pa_cons (pv 0) pa_nil))))
      (pss_cons (ps_for PassesOwn.never rfl (pi_range1 rfl T.z_range (pa_cons (pe_call G_many_of (hr.mono (by decide)) (by rfl) T.g_many_of T.F_many_of.kp T.b_many_of .nil pass0 (pa_cons (pv 0) pa_nil)) pa_nil)) (pg_name (i := 2) sc_heirs_bits.nd rfl (Or.inl rfl))
      (pss_one (ps_for PassesOwn.never rfl (pi_tup (pe_call G_forebears_of hr (by rfl) T.g_forebears_of T.F_forebears_of.kp T.b_forebears_of .nil pass0 (pa_cons (pv 0) (pa_cons (pv 2) pa_nil)))) (pg_name (i := 3) sc_heirs_bits.nd rfl (Or.inl rfl))
      (pss_one (ps_augS (pv 1) (pv 3) (pget_listK (K := K) rfl) (pe_op op_shl pe_int (pv 2)) ip_or set_list)))))
      (pss_one (ps_ret (pv 1))))), ?_⟩
    have est : L2.start ["book", "found", "x", "p"] [V.ref l.b] = ([some (.ref l.b), none, none, none] : L2.St) := rfl
    rw [est]
    tm_at "w"
    intro p0 np0
    obtain ⟨H1, e1, s1, hp0⟩ := new_hide (Same.new (o := .lst [.int 0]) (Same.refl H) np0)
    rw [e1]
    tm_at "w"
    refine ⟨l, P, rfl, hl.same s1, ?_⟩
    refine ⟨_, _, _, rfl, rfl, hp0, by omega, by omega, ?_, fun f nf => ?_⟩
    · rw [Int.toNat_natCast]
      show 1 * P.length ≤ sizeLine
      exact Nat.le_of_lt (lt_line (by omega))
    have ez : (List.replicate ((P.length : Int)).toNat [V.int 0]).flatten = natsV (List.replicate P.length 0) := by
      rw [Int.toNat_natCast, flat_one]
      unfold natsV
      rw [List.map_replicate]
      rfl
    rw [ez]
    obtain ⟨H2, e2, s2, hf⟩ := new_hide (Same.new (o := .lst (natsV (List.replicate P.length 0))) (Same.refl H1) nf)
    rw [e2]
    have nf0 : H f = none := s1.free nf
    have s02 := Same.trans s1 s2
    tm_at "w"
    refine ⟨l, P, rfl, hl.same s02, ?_⟩
    tm_at "w"
    refine for_range (lo := 0) (n := ((P.length : Int)).toNat) (fun i σ H' => ∃ (v2 v3 : Option V) (ns : List Nat), (Same H H' ∧ H' f = some (.lst (natsV ns)) ∧ ns.length = P.length ∧ ∀ p j, p < P.length → (ns.getD p 0).testBit j = (decide (p < j) && (decide (j < i) && isA P j p))) ∧ σ = [some (.ref l.b), some (.ref f), v2, v3]) ⟨none, none, _, ⟨s02, hf, List.length_replicate, fun p j hp => ?_⟩, rfl⟩ ?_ ?_
    · rw [List.getD_eq_getElem?_getD, List.getElem?_replicate, if_pos hp, decide_eq_false (Nat.not_lt_zero j), Bool.false_and, Bool.and_false]
      exact Nat.zero_testBit j
    · rintro i σ H3 hi ⟨v2, v3, ns, ⟨s3, hf3, nl, hb⟩, rfl⟩
      have il : i < P.length := by omega
      rw [Int.zero_add]
      tm_at "w"
      refine ⟨l, P, i, rfl, hl.same s3, il, by omega, fun t H4 s4 ht => ?_⟩
      have fl : (foreB P i).length ≤ P.length := by
        unfold foreB
        have := List.length_filter_le (fun p => isA P i p) (List.range i)
        rw [List.length_range] at this
        omega
      refine ⟨t, rfl, ⟨_, SqT.of ht⟩, for_tup (K := K) (a := t) (xs := natsV (foreB P i)) (fun m σ H' => ∃ (v3 : Option V) (ms : List Nat), (Same H H' ∧ H' t = some (.tup (natsV (foreB P i))) ∧ H' f = some (.lst (natsV ms)) ∧ ms.length = P.length ∧ ∀ p j, p < P.length → (ms.getD p 0).testBit j = ((decide (p < j) && (decide (j < i) && isA P j p)) || (decide (j = i) && decide (p ∈ (foreB P i).take m)))) ∧ σ = [some (.ref l.b), some (.ref f), some (.int (i : Int)), v3]) ?_ ?_ ?_ ?_⟩
      · refine ⟨v3, ns, ⟨Same.trans s3 s4, ht, s4 _ _ hf3, nl, fun p j hp => ?_⟩, rfl⟩
        rw [hb p j hp, List.take_zero]
        simp
      · rintro m σ H' _ ⟨_, _, ⟨_, h2, _⟩, _⟩
        exact SqT.of h2
      · rintro m x σ H5 hx ⟨v3, ms, ⟨s5, ht5, hf5, ml, hms⟩, rfl⟩
        obtain ⟨y, hy, rfl, jl⟩ := natsV_here hx
        have yi : y < i := by
          have := List.mem_of_getElem? hy
          unfold foreB at this
          exact List.mem_range.mp (List.mem_filter.mp this).1
        have hq2 : (natsV ms)[y]? = some (.int ((ms.getD y 0 : Nat) : Int)) := natsV_getD (by omega)
        tm_at "w"
        refine ⟨_, _, _, y, rfl, rfl, hf5, ixn_nat (by rw [natsV_len]; omega), ?_⟩
        have e : (1 : Int) * 2 ^ ((i : Int)).toNat = ((2 ^ i : Nat) : Int) := by rw [Int.one_mul, Int.toNat_natCast, Int.natCast_pow]; rfl
        have val : some (HO.lst ((natsV ms).set y (V.int (Builtin.bitOr ((ms.getD y 0 : Nat) : Int) ((1 : Int) * 2 ^ ((i : Int)).toNat))))) = some (.lst (natsV (ms.set y (ms.getD y 0 ||| 2 ^ i)))) := by rw [e, bitOr_nat, natsV_set]
        have tm := (foreB P i).take_add_one (i := m)
        rw [hy] at tm
        refine ⟨some (.int (y : Int)), ms.set y (ms.getD y 0 ||| 2 ^ i), ⟨Same.mut s5 nf0, (upd_ne (fun e => by rw [e, hf5] at ht5; cases ht5)).trans ht5, upd_same.trans val, by rw [List.length_set]; exact ml, fun p j hp => ?_⟩, rfl⟩
        rw [getD_set (by omega), tm]
        by_cases py : p = y
        · rw [if_pos py, ← py, Nat.testBit_or, Nat.testBit_two_pow, hms p j hp]
          have e2 : decide (p ∈ (foreB P i).take m ++ [p]) = true := decide_eq_true (List.mem_append_right _ (List.mem_singleton.mpr rfl))
          show _ = ((decide (p < j) && (decide (j < i) && isA P j p)) || (decide (j = i) && decide (p ∈ (foreB P i).take m ++ [p])))
          rw [e2]
          by_cases ij : i = j
          · rw [ij, decide_eq_true rfl]
            simp
          · rw [decide_eq_false ij, decide_eq_false (Ne.symm ij)]
            simp
        · rw [if_neg py, hms p j hp]
          have e2 : decide (p ∈ (foreB P i).take m ++ [y]) = decide (p ∈ (foreB P i).take m) := by
            rw [decide_eq_decide]
            constructor
            · intro h
              rcases List.mem_append.mp h with h | h
              · exact h
              · exact absurd (List.mem_singleton.mp h) py
            · exact List.mem_append_left _
          show _ = ((decide (p < j) && (decide (j < i) && isA P j p)) || (decide (j = i) && decide (p ∈ (foreB P i).take m ++ [y])))
          rw [e2]
      · rintro σ H5 ⟨v3, ms, ⟨s5, ht5, hf5, ml, hms⟩, rfl⟩
        rw [natsV_len, List.take_length] at hms
        refine ⟨_, v3, ms, ⟨s5, hf5, ml, fun p j hp => ?_⟩, rfl⟩
        rw [hms p j hp]
        by_cases ji : j = i
        · rw [ji, decide_eq_true rfl, Bool.true_and, decide_eq_false (Nat.lt_irrefl i), Bool.false_and, Bool.and_false, Bool.false_or, decide_eq_true (Nat.lt_succ_self i), Bool.true_and, Bool.eq_iff_iff, decide_eq_true_eq, Bool.and_eq_true, decide_eq_true_eq]
          unfold foreB
          rw [List.mem_filter, List.mem_range]
        · rw [decide_eq_false ji, Bool.false_and, Bool.or_false]
          have : decide (j < i) = decide (j < i + 1) := by
            rw [decide_eq_decide]
            omega
          rw [this]
    · rintro σ H3 ⟨v2, v3, ns, ⟨s3, hf3, nl, hb⟩, rfl⟩
      rw [Int.toNat_natCast] at hb
      tm_at "w"
      exact k f ns H3 s3 hf3 ⟨nl, hb⟩
/-! all_quarrels -/
theorem lc_enumTF {K : PySem.W.Frag} {a : Addr} {xs : List V} {g : TG} {tt : TT} {te : TE} {vs : List Nat} {σ : St} {H1 : Hp} {D : Addr} {Qd : Hp → Prop} (f : Nat → Option V) (hx : H1 a = some (.tup xs)) (nD : H1 D = none) (hn : xs.length ≤ 100000)
    (hs : ∀ (i : Nat) (x : V) (Z : Addr) (H : Hp) (N : V → Hp → Prop) (M : Hp → Prop), xs[i]? = some x → Same H1 H → H Z = some (.tup [.int (i : Nat), x]) → (∀ v H4, f i = some v → Same H H4 → N v H4) → (∀ H4, f i = none → Same H H4 → M H4) → g (.ref Z) (wipe σ vs) H fun σ2 H2 => wipe σ2 vs = wipe σ vs ∧ tt σ2 H2 fun b H3 => if b = true then te σ2 H3 N else M H3)
    (hd : ∀ H, Same H1 H → H D = some (.lst ((List.range xs.length).filterMap f)) → Qd H) : ∃ W : Nat → Nat → Hp → Prop, (∃ m, W 0 m (upd H1 D (.lst []))) ∧ ∀ i m H, W i m H →
      ((IteT K a).stop i H ∧ Qd H) ∨ ((IteT K a).go i H ∧ ∃ Nx : Hp → Prop, (∀ H', Nx H' → ∃ m', m' < m ∧ W (i + 1) m' H') ∧ ∀ x H', (IteT K a).yld i H x H' → g x (wipe σ vs) H' fun σ2 H2 => wipe σ2 vs = wipe σ vs ∧ tt σ2 H2 fun b H3 =>
        if b = true then te σ2 H3 fun y H4 => ∃ acc, H4 D = some (.lst acc) ∧ acc.length < sizeLine ∧ Nx (upd H4 D (.lst (acc ++ [y]))) else Nx H3) := by
  refine ⟨fun i m H => m = xs.length - i ∧ i ≤ xs.length ∧ Same H1 H ∧ H D = some (.lst ((List.range i).filterMap f)), ⟨xs.length, rfl, Nat.zero_le _, Same.new (Same.refl H1) nD, upd_same⟩, ?_⟩
  rintro i m H ⟨rfl, hi, s, hD⟩
  have qx : SqT K H a xs := SqT.of (s _ _ hx)
  have hz := filterMap_range_len f i
  by_cases hlt : i < xs.length
  · have ex : xs[i]? = some xs[i] := List.getElem?_eq_getElem hlt
    refine .inr ⟨⟨xs, _, qx, ex⟩, fun H => i < xs.length ∧ Same H1 H ∧ H D = some (.lst ((List.range (i + 1)).filterMap f)), fun H' p' => ⟨xs.length - (i + 1), by omega, rfl, hlt, p'.2⟩, fun v H' y => ?_⟩
    obtain ⟨Z, x', rfl, hZ, rfl, f1⟩ := y
    have s1 : Same H (upd H Z (.tup [.int (i : Nat), x'])) := Same.new (Same.refl H) hZ
    refine hs i x' Z _ _ _ (f1 xs qx) (s.trans s1) upd_same (fun v H4 e s4 => ⟨_, s4 _ _ (s1 _ _ hD), lt_line (by omega), hlt, ?_, ?_⟩) (fun H4 e s4 => ⟨hlt, ?_, ?_⟩)
    · exact Same.mut ((s.trans s1).trans s4) nD
    · rw [filterMap_range_succ, e]
      exact upd_same
    · exact (s.trans s1).trans s4
    · rw [filterMap_range_succ, e, s4 _ _ (s1 _ _ hD)]
      simp
  · have e : i = xs.length := by omega
    subst e
    exact .inl ⟨⟨xs, qx, Nat.le_refl _⟩, hd H s hD⟩
theorem take_list {xs : List V} {k : Nat} (h : k ≤ xs.length) : cutV xs none (some (k : Int)) = xs.take k := by
  unfold cutV
  rw [show HT.sIx xs.length 0 none = 0 from rfl, HT.sIx_nat, List.drop_zero]
  congr 1
  omega
theorem drop_list {xs : List V} {k : Nat} (h : k ≤ xs.length) : cutV xs (some (k : Int)) none = xs.drop k := by
  unfold cutV
  rw [show HT.sIx xs.length xs.length none = xs.length from rfl, HT.sIx_nat, show min k xs.length = k by omega]
  exact List.take_of_length_le (by rw [List.length_drop]; omega)
theorem ParL.app {H : Hp} {vs us : List V} {P R : List (List Nat)} (h : ParL H vs P) (g : ParL H us R) : ParL H (vs ++ us) (P ++ R) := by
  refine ⟨by rw [List.length_append, List.length_append, h.1, g.1], fun j q hq => ?_⟩
  by_cases hj : j < P.length
  · rw [List.getElem?_append_left hj] at hq
    rw [List.getElem?_append_left (by rw [h.1]; exact hj)]
    exact h.2 j q hq
  · rw [List.getElem?_append_right (by omega)] at hq
    rw [List.getElem?_append_right (by rw [h.1]; omega), h.1]
    exact g.2 _ q hq
theorem for_enumL {K : PySem.W.Frag} {a : Addr} {xs : List V} {g : TG} {tb : TS} {D : Ends} {σ : L2.St} {H : Hp} (Pv : Nat → L2.St → Hp → Prop) (h0 : Pv 0 σ H) (hq : ∀ i σ H, Pv i σ H → SqL K H a xs)
    (hs : ∀ (i : Nat) (x : V) (t : Addr) (σ : L2.St) (H : Hp), xs[i]? = some x → Pv i σ H → H t = none → g (.ref t) σ (upd H t (.tup [.int (i : Nat), x])) fun σ2 H2 => tb { D with nx := Pv (i + 1), ct := Pv (i + 1), bk := D.nx } σ2 H2)
    (hd : ∀ σ H, Pv xs.length σ H → D.nx σ H) : ∃ W : Nat → Nat → L2.St → Hp → Prop, (∃ m, W 0 m σ H) ∧ ∀ i m σ H, W i m σ H →
      ((Ite K a).stop i H ∧ D.nx σ H) ∨ ((Ite K a).go i H ∧ ∃ N : L2.St → Hp → Prop, (∀ σ' H', N σ' H' → ∃ m', m' < m ∧ W (i + 1) m' σ' H') ∧ ∀ v H', (Ite K a).yld i H v H' → g v σ H' fun σ2 H2 => tb { D with nx := N, ct := N, bk := D.nx } σ2 H2) := by
  refine ⟨fun i m σ H => m = xs.length - i ∧ i ≤ xs.length ∧ Pv i σ H, ⟨_, rfl, Nat.zero_le _, h0⟩, ?_⟩
  rintro i m σ H ⟨rfl, hi, p⟩
  have q := hq i σ H p
  by_cases lt : i < xs.length
  · refine .inr ⟨⟨xs, _, q, List.getElem?_eq_getElem lt⟩, Pv (i + 1), fun σ' H' p2 => ⟨_, by omega, rfl, lt, p2⟩, fun v H' y => ?_⟩
    obtain ⟨t, x, rfl, nt, rfl, f⟩ := y
    exact hs i x t σ H (f xs q) p nt
  · have e : i = xs.length := by omega
    subst e
    exact .inl ⟨⟨xs, q, Nat.le_refl _⟩, hd σ H p⟩
theorem lc_enumLF {K : PySem.W.Frag} {a : Addr} {xs : List V} {g : TG} {tt : TT} {te : TE} {vs : List Nat} {σ : St} {H1 : Hp} {D : Addr} {Qd : Hp → Prop} (f : Nat → Option V) (hx : H1 a = some (.lst xs)) (nD : H1 D = none) (hn : xs.length ≤ 100000)
    (hs : ∀ (i : Nat) (x : V) (Z : Addr) (H : Hp) (N : V → Hp → Prop) (M : Hp → Prop), xs[i]? = some x → Same H1 H → H Z = some (.tup [.int (i : Nat), x]) → (∀ v H4, f i = some v → Same H H4 → N v H4) → (∀ H4, f i = none → Same H H4 → M H4) → g (.ref Z) (wipe σ vs) H fun σ2 H2 => wipe σ2 vs = wipe σ vs ∧ tt σ2 H2 fun b H3 => if b = true then te σ2 H3 N else M H3)
    (hd : ∀ H, Same H1 H → H D = some (.lst ((List.range xs.length).filterMap f)) → Qd H) : ∃ W : Nat → Nat → Hp → Prop, (∃ m, W 0 m (upd H1 D (.lst []))) ∧ ∀ i m H, W i m H →
      ((Ite K a).stop i H ∧ Qd H) ∨ ((Ite K a).go i H ∧ ∃ Nx : Hp → Prop, (∀ H', Nx H' → ∃ m', m' < m ∧ W (i + 1) m' H') ∧ ∀ x H', (Ite K a).yld i H x H' → g x (wipe σ vs) H' fun σ2 H2 => wipe σ2 vs = wipe σ vs ∧ tt σ2 H2 fun b H3 =>
        if b = true then te σ2 H3 fun y H4 => ∃ acc, H4 D = some (.lst acc) ∧ acc.length < sizeLine ∧ Nx (upd H4 D (.lst (acc ++ [y]))) else Nx H3) := by
  refine ⟨fun i m H => m = xs.length - i ∧ i ≤ xs.length ∧ Same H1 H ∧ H D = some (.lst ((List.range i).filterMap f)), ⟨xs.length, rfl, Nat.zero_le _, Same.new (Same.refl H1) nD, upd_same⟩, ?_⟩
  rintro i m H ⟨rfl, hi, s, hD⟩
  have qx : SqL K H a xs := SqL.of (s _ _ hx)
  have hz := filterMap_range_len f i
  by_cases hlt : i < xs.length
  · have ex : xs[i]? = some xs[i] := List.getElem?_eq_getElem hlt
    refine .inr ⟨⟨xs, _, qx, ex⟩, fun H => i < xs.length ∧ Same H1 H ∧ H D = some (.lst ((List.range (i + 1)).filterMap f)), fun H' p' => ⟨xs.length - (i + 1), by omega, rfl, hlt, p'.2⟩, fun v H' y => ?_⟩
    obtain ⟨Z, x', rfl, hZ, rfl, f1⟩ := y
    have s1 : Same H (upd H Z (.tup [.int (i : Nat), x'])) := Same.new (Same.refl H) hZ
    refine hs i x' Z _ _ _ (f1 xs qx) (s.trans s1) upd_same (fun v H4 e s4 => ⟨_, s4 _ _ (s1 _ _ hD), lt_line (by omega), hlt, ?_, ?_⟩) (fun H4 e s4 => ⟨hlt, ?_, ?_⟩)
    · exact Same.mut ((s.trans s1).trans s4) nD
    · rw [filterMap_range_succ, e]
      exact upd_same
    · exact (s.trans s1).trans s4
    · rw [filterMap_range_succ, e, s4 _ _ (s1 _ _ hD)]
      simp
  · have e : i = xs.length := by omega
    subst e
    exact .inl ⟨⟨xs, qx, Nat.le_refl _⟩, hd H s hD⟩
theorem bitAnd_nat (a b : Nat) : Builtin.bitAnd (a : Int) (b : Int) = ((a &&& b : Nat) : Int) := by
  unfold Builtin.bitAnd
  rw [decide_eq_true (show (0 : Int) ≤ (a : Int) by omega), decide_eq_true (show (0 : Int) ≤ (b : Int) by omega), Int.toNat_natCast, Int.toNat_natCast]
theorem tNoPart_at {σ : St} {H : Hp} {Q : Option Int → Hp → Prop} (h : Q none H) : tNoPart σ H Q := h
theorem sl_ex {K : PySem.W.Frag} {H : Hp} {a : Addr} {xs ys : List V} {lo hi : Option Int} {Q : VK} (hx : H a = some (.lst xs)) (e : cutV xs lo hi = ys)
    (k : ∀ p H', Same H H' → H' p = some (.lst ys) → Q (.ref p) H') : rSlL K (.ref a) lo hi H Q := by
  refine ⟨a, xs, rfl, SqL.of hx, fun p np => ?_⟩
  rw [e]
  exact k p _ (Same.new (Same.refl H) np) upd_same
theorem natsV_drop (S : List Nat) (k : Nat) : (natsV S).drop k = natsV (S.drop k) := by
  unfold natsV
  rw [List.map_drop]
/-- pairs that a filter lets -/
theorem pairs_at {S : List Nat} {g : Nat → Bool} {a : Nat} {acc : List V} {H : Hp} (hl : acc.length = ((List.range S.length).filter fun j => g (S.getD j 0)).length)
    (h : ∀ (j : Nat) v, acc[j]? = some v → ∃ p, ((List.range S.length).filter fun j => g (S.getD j 0))[j]? = some p ∧ RN (fun j => [a, S.getD j 0]) p v H) : ParL H acc ((S.filter g).map fun b => [a, b]) := by
  have e : (S.filter g).map (fun b => [a, b]) = ((List.range S.length).filter fun j => g (S.getD j 0)).map fun j => [a, S.getD j 0] := by
    have es : S = (List.range S.length).map fun j => S.getD j 0 := by
      refine List.ext_getElem? fun j => ?_
      rw [List.getElem?_map]
      by_cases hj : j < S.length
      · rw [List.getElem?_range hj, List.getElem?_eq_getElem hj]
        show _ = some (S.getD j 0)
        rw [getD_at (List.getElem?_eq_getElem hj)]
      · rw [List.getElem?_eq_none (by omega), List.getElem?_eq_none (by rw [List.length_range]; omega)]
        rfl
    have e2 : S.filter g = ((List.range S.length).map fun j => S.getD j 0).filter g := by rw [← es]
    rw [e2, List.filter_map, List.map_map]
    rfl
  rw [e]
  refine ⟨by rw [List.length_map]; exact hl, fun j q hq => ?_⟩
  rw [List.getElem?_map] at hq
  have jl : j < acc.length := by
    by_cases z : j < acc.length
    · exact z
    · rw [List.getElem?_eq_none (by omega)] at hq
      cases hq
  obtain ⟨p, h1, b, h2, h3⟩ := h j _ (List.getElem?_eq_getElem jl)
  rw [h1] at hq
  have hq : [a, S.getD p 0] = q := Option.some.inj hq
  rw [← hq]
  exact ⟨b, by rw [List.getElem?_eq_getElem jl, h2], h3⟩
def sp_all_quarrels (C : Addr) (K : PySem.W.Frag) : Sp := fun vs H Q _ => ∃ (l : Bk) (a : Addr) (P : List (List Nat)) (F : List Nat), vs = [.ref l.b, .ref a] ∧ BookAt C H l P ∧ OkP P ∧ P.length ≤ 300 ∧ H a = some (.tup (natsV F)) ∧ F.length = P.length ∧
  ∀ t vs H', Same H H' → H t = none → H' t = some (.lst vs) → ParL H' vs (quaB P F) → Q (.ref t) H'
theorem sc_all_quarrels : FnScope ["book", "fields", "below", "some", "found", "at", "a", "kind", "number", "b"] ["book", "fields"] (defScope s_all_quarrels) := ⟨rfl, rfl, rfl, by decide +kernel, rfl, by decide +kernel, by decide +kernel⟩
theorem ok_all_quarrels (T : Top P K mg) : FnOk P w K mg base CX0 4 T.f_all_quarrels T.fd_all_quarrels ["book", "fields"] (sp_all_quarrels T.C_Book K) := by
  have G_are_apart := ok_are_apart (P := P) (w := w) (base := base) T
  have G_heirs_bits := ok_heirs_bits (P := P) (w := w) (base := base) T
  refine T.F_all_quarrels.ok sc_all_quarrels (fun vs H Q E h => ?_) (fun cdv A outer s H vs Q E hr h => ?_)
  · obtain ⟨l, a, P, F, rfl, _⟩ := h
    rfl
  · obtain ⟨l, a, P, F, rfl, hl, okP, few, ha, fl, k⟩ := h
    refine ⟨_, (pss_cons (ps_set (i := 2) sc_all_quarrels.nd rfl (Or.inr rfl) (pe_call G_heirs_bits hr (by rfl) T.g_heirs_bits T.F_heirs_bits.kp T.b_heirs_bits .nil pass0 (pa_cons (pv 0) pa_nil)))
      (pss_cons (ps_setLc (i := 3) (own := [("kind", 7), ("number", 8)]) rfl sc_all_quarrels.nd rfl rfl (sw_true rfl rfl rfl (by decide +kernel)) (pi_enumT (by rfl) T.z_enumerate (pa_cons (pv 1) pa_nil)) (blkOk_by (own := [("kind", 7), ("number", 8)]) (N := ["book", "fields", "below", "some", "found", "at", "a", "kind", "number", "b"]) (sc := defScope s_all_quarrels) (by decide +kernel)) (fun _ _ _ _ _ => (pg_tupK (K := K) 2 rfl rfl (pgs_cons (pg_name (i := 7) sc_all_quarrels.nd rfl (Or.inl rfl)) (pgs_cons (pg_name (i := 8) sc_all_quarrels.nd rfl (Or.inl rfl)) pgs_nil)))) (fun _ _ _ _ _ => (pts_one (pt_cmpR op_gt (pv 8) pe_int (nomark _)))) (fun _ _ _ _ _ => (pv 7)))
      (pss_cons (ps_set (i := 4) sc_all_quarrels.nd rfl (Or.inl rfl) (pe_lst pa_nil))
      (pss_cons (ps_for PassesOwn.never rfl (pi_enum (by rfl) T.z_enumerate (pa_cons (pv 3) pa_nil)) (pg_tup rfl (pgs_cons (pg_name (i := 5) sc_all_quarrels.nd rfl (Or.inl rfl)) (pgs_cons (pg_name (i := 6) sc_all_quarrels.nd rfl (Or.inr rfl)) pgs_nil)))
      (pss_one (ps_expr (pe_bm PySem.F.plainAttrs_list PySem.F.slot_list_extend PySem.F.type_list_extend mt_extend (pv 4) (pa_cons (pe_lc (own := [("b", 9)]) (g := gName 9) rfl sc_all_quarrels.nd (pi_list (pe_slice sl_list (pv 3) (po_some (pe_op op_add (pv 5) pe_int)) po_none)) (blkOk_by (own := [("b", 9)]) (N := ["book", "fields", "below", "some", "found", "at", "a", "kind", "number", "b"]) (sc := defScope s_all_quarrels) (by decide +kernel)) (fun _ _ _ _ _ => (pg_name (i := 9) sc_all_quarrels.nd rfl (Or.inl rfl))) (fun _ _ _ _ _ => (pts_one (PW.pt (pw_and (pt_cmpR op_ne (pe_op op_and (pe_ix (r := rIxL K) ix_list (pv 2) (pv 6) (fun _ _ => rfl)) (pe_ix (r := rIxL K) ix_list (pv 2) (pv 9) (fun _ _ => rfl))) pe_int (nomark _)) (pw_and1 (pt_val (pe_call G_are_apart (hr.mono (by decide)) (by rfl) T.g_are_apart T.F_are_apart.kp T.b_are_apart .nil pass0 (pa_cons (pv 0) (pa_cons (pv 6) (pa_cons (pv 9) pa_nil)))))))))) (fun _ _ _ _ _ => (pe_tup (pa_cons (pv 6) (pa_cons (pv 9) pa_nil))))) pa_nil)))))
      (pss_one (ps_ret (pv 4))))))), ?_⟩
    tm_at "w"
    refine ⟨l, P, rfl, hl, by omega, fun bt ns H1 s1 hbt hb => ?_⟩
    have ha1 := s1 _ _ ha
    have fv := natsV_len F
    tm_at "w"
    refine ⟨_, _, rfl, SqT.of ha1, fun D nD => lc_enumTF (fun i => if posB F i = true then some (V.int (i : Int)) else none) ha1 nD (by omega) ?_ ?_⟩
    · intro i x Z H2 N M hx s2 hZ kN kM
      obtain ⟨y, hy, rfl, il⟩ := natsV_here hx
      have e : posB F i = decide (0 < y) := by
        unfold posB
        rw [getD_at hy]
      tm_at "w"
      refine iteD (fun z => ?_) (fun z => ?_)
      · tm_at "w"
        exact kN _ _ (by rw [e, decide_eq_true (by omega)]; rfl) (Same.refl H2)
      · exact kM _ (by rw [e, decide_eq_false (by omega)]; rfl) (Same.refl H2)
    intro H2 s2 hD
    rw [fv, fl, filter_nats] at hD
    have hD : H2 D = some (.lst (natsV (someB F P.length))) := hD
    have hbt2 := s2 _ _ hbt
    have est : L2.start ["book", "fields", "below", "some", "found", "at", "a", "kind", "number", "b"] [V.ref l.b, V.ref a] = ([some (.ref l.b), some (.ref a), none, none, none, none, none, none, none, none] : L2.St) := rfl
    rw [est]
    simp only [List.set_cons_zero, List.set_cons_succ]
    tm_at "w"
    intro f nf
    obtain ⟨H3, e3, s3, hf⟩ := new_hide (Same.new (o := .lst []) (Same.refl H2) nf)
    rw [e3]
    have nf0 : H f = none := Same.free (Same.trans s1 s2) nf
    have nDf := ne_of_none hD nf
    have nbf := ne_of_none hbt2 nf
    have s03 := Same.trans (Same.trans s1 s2) s3
    simp only [List.set_cons_zero, List.set_cons_succ]
    have S0 : ∀ x ∈ someB F P.length, x < P.length := fun x hx => List.mem_range.mp (List.mem_filter.mp hx).1
    have rows := quaB_some P F
    have some' := fun i a (e : (someB F P.length)[i]? = some a) => rowQ_some (P := P) e
    have sl : (someB F P.length).length ≤ P.length := by
      unfold someB
      have := List.length_filter_le (posB F) (List.range P.length)
      rw [List.length_range] at this
      exact this
    have Sasc := someB_asc F P.length
    generalize someB F P.length = S at *
    have sv := natsV_len S
    tm_at "w"
    refine ⟨_, _, rfl, SqL.of (s3 _ _ hD), for_enumL (K := K) (a := D) (xs := natsV S) (fun i σ H' => ∃ (v5 v6 v7 v8 v9 : Option V) (fs : List V), (Same H H' ∧ H' bt = some (.lst (natsV ns)) ∧ H' D = some (.lst (natsV S)) ∧ H' f = some (.lst fs) ∧ ParL H' fs ((S.take i).flatMap fun a => rowQ P F a P.length)) ∧ σ = [some (.ref l.b), some (.ref a), some (.ref bt), some (.ref D), some (.ref f), v5, v6, v7, v8, v9]) ?_ ?_ ?_ ?_⟩
    · exact ⟨_, _, _, _, _, [], ⟨s03, s3 _ _ hbt2, s3 _ _ hD, hf, ParL.nil⟩, rfl⟩
    · rintro i σ H' ⟨_, _, _, _, _, _, ⟨_, _, h4, _⟩, _⟩
      exact SqL.of h4
    · rintro i x t σ H4 hx ⟨v5, v6, v7, v8, v9, fs, ⟨s4, hbt4, hD4, hf4, hp4⟩, rfl⟩ nt
      obtain ⟨a, hy, rfl, il⟩ := natsV_here hx
      obtain ⟨H5, e5, s5, ht5⟩ := new_hide (Same.new (o := .tup [.int (i : Int), .int (a : Int)]) (Same.refl H4) nt)
      rw [e5]
      simp only [List.set_cons_zero, List.set_cons_succ]
      tm_at "w"
      refine tNoPart_at ?_
      have ei : (i : Int) + 1 = ((i + 1 : Nat) : Int) := by omega
      have hD5 := s5 _ _ hD4
      refine sl_ex hD5 (ys := natsV (S.drop (i + 1))) ?_ fun J H6 s6 hJ => ?_
      · show cutV (natsV S) (some ((i : Int) + 1)) none = _
        rw [ei, drop_list (by omega), natsV_drop]
      have s36 := Same.trans (Same.trans s4 s5) s6
      have so := some' i a hy
      have sd : (S.drop (i + 1)).length ≤ P.length := by rw [List.length_drop]; omega
      have inS : ∀ x ∈ S.drop (i + 1), x < P.length := fun x hx => S0 x (List.mem_of_mem_drop hx)
      have later : ∀ x ∈ S.drop (i + 1), a < x := fun x hx => by
        rw [drop_later Sasc hy] at hx
        exact of_decide_eq_true (List.mem_filter.mp hx).2
      have al := S0 a (List.mem_of_getElem? hy)
      have rl := rowQ_len P F a P.length
      have hf6 := s6 _ _ (s5 _ _ hf4)
      have hbt6 := s6 _ _ (s5 _ _ hbt4)
      have hl6 := hl.same s36
      have hna : (natsV ns)[a]? = some (.int ((ns.getD a 0 : Nat) : Int)) := natsV_getD (by rw [hb.1]; exact al)
      generalize S.drop (i + 1) = S' at *
      have sv' := natsV_len S'
      refine ⟨J, rfl, ⟨_, SqL.of hJ⟩, fun D2 nD2 => lc_listFR (fun j => !isA P (S'.getD j 0) a && comB P a (S'.getD j 0)) (RN fun j => [a, S'.getD j 0]) (RN.tk _) hJ nD2 (by omega) ?_ ?_⟩
      · intro j x H7 N M hx7 s7 kN kM
        obtain ⟨c, hc, rfl, jl⟩ := natsV_here hx7
        rw [getD_at hc] at kN kM
        have cl := inS c (List.mem_of_getElem? hc)
        have ac := later c (List.mem_of_getElem? hc)
        have hnc : (natsV ns)[c]? = some (.int ((ns.getD c 0 : Nat) : Int)) := natsV_getD (by rw [hb.1]; exact cl)
        have hbt7 := s7 _ _ hbt6
        have hl7 := hl6.same s7
        have hcom := hb.com ac cl
        have et : (!decide (V.int (Builtin.bitAnd ((ns.getD a 0 : Nat) : Int) ((ns.getD c 0 : Nat) : Int)) = V.int 0)) = comB P a c := by
          rw [bitAnd_nat]
          show (!decide (V.int ((ns.getD a 0 &&& ns.getD c 0 : Nat) : Int) = V.int ((0 : Nat) : Int))) = _
          rw [dec_nat, hcom, Bool.not_not]
        tm_at "w"
        cases c2 : comB P a c with
        | false =>
          rw [c2] at et kM
          refine iteEF et ?_
          tm_at "w"
          exact kM (Bool.and_false _) H7 (Same.refl H7)
        | true =>
          rw [c2] at et kM kN
          refine iteET et ?_
          tm_at "w"
          refine ⟨l, P, a, c, rfl, hl7, al, cl, ?_⟩
          rw [isA_later okP ac cl, Bool.not_false, Bool.true_and]
          rw [Bool.and_true] at kN kM
          cases c3 : isA P c a with
          | true =>
            rw [c3] at kM
            tm_at "w"
            exact kM rfl H7 (Same.refl H7)
          | false =>
            rw [c3] at kN
            tm_at "w"
            intro t7 nt7
            refine kN rfl _ _ (Same.new (Same.refl H7) nt7) ⟨t7, rfl, ?_⟩
            show _ = some (HO.tup (natsV [a, S'.getD j 0]))
            rw [getD_at hc]
            exact upd_same
      · intro H7 acc s7 hD7 hlen hR
        rw [sv'] at hlen hR
        have pa := pairs_at (g := fun b => !isA P b a && comB P a b) hlen hR
        rw [so] at pa
        have hf7 := s7 _ _ hf6
        have bound := flat_len (l := S.take i) (f := fun a => rowQ P F a P.length) (m := P.length) fun x _ => rowQ_len P F x P.length
        have b2 : (S.take i).length * P.length ≤ 300 * 300 := Nat.mul_le_mul (by rw [List.length_take]; omega) few
        have fsl := hp4.1
        have pal := pa.1
        have nf7 := Same.trans (Same.trans s4 s5) (Same.trans s6 s7)
        tm_at "w"
        refine ⟨_, _, _, _, rfl, rfl, hf7, hD7, Nat.le_of_lt (lt_line (by omega)), ?_⟩
        have tk : TK H7 (upd H7 f (.lst (fs ++ acc))) := TK.mut hf7
        have tm := S.take_add_one (i := i)
        rw [hy] at tm
        refine ⟨_, _, _, _, _, fs ++ acc, ⟨Same.mut nf7 nf0, (upd_ne nbf).trans ((Same.trans s5 (Same.trans s6 s7)) _ _ hbt4), (upd_ne nDf).trans ((Same.trans s5 (Same.trans s6 s7)) _ _ hD4), upd_same, ?_⟩, rfl⟩
        rw [tm, List.flatMap_append]
        refine ParL.app ((hp4.tk (Same.tk (Same.trans s5 (Same.trans s6 s7)))).tk tk) ?_
        show ParL _ acc ([a].flatMap fun a => rowQ P F a P.length)
        rw [List.flatMap_singleton]
        exact pa.tk tk
    · rintro σ H4 ⟨v5, v6, v7, v8, v9, fs, ⟨s4, hbt4, hD4, hf4, hp4⟩, rfl⟩
      tm_at "w"
      rw [sv, List.take_length, rows] at hp4
      exact k f fs H4 s4 nf0 hf4 hp4
/-! quarrels -/
theorem nats_six : ∀ {xs : List V}, (∀ v ∈ xs, withinB v 0 6 = true) → ∃ F : List Nat, xs = natsV F ∧ ∀ x ∈ F, x ≤ 6
  | [], _ => ⟨[], rfl, fun x hx => by cases hx⟩
  | v :: r, h => by
    obtain ⟨x, rfl, hx⟩ := within_le (n := 6) (h v List.mem_cons_self)
    obtain ⟨F, rfl, hF⟩ := nats_six fun v hv => h v (List.mem_cons_of_mem _ hv)
    exact ⟨x :: F, rfl, fun y hy => by
      rcases List.mem_cons.mp hy with e | e
      · rw [e]
        exact hx
      · exact hF y e⟩
def sp_quarrels (C : Addr) (C_NoFields : Addr) (K : PySem.W.Frag) : Sp := fun vs H Q E => ∃ (l : Bk) (v : V) (P : List (List Nat)) (z : Addr), vs = [.ref l.b, v] ∧ BookAt C H l P ∧ OkP P ∧ P.length ≤ 300 ∧ KitC K C ∧ Th C z H 1 v ∧
  (∀ a F, v = .ref a → H a = some (.tup (natsV F)) → F.length = P.length → (∀ x ∈ F, x ≤ 6) → ∀ t vs H', Same H H' → H t = none → H' t = some (.lst vs) → ParL H' vs (quaB P F) → Q (.ref t) H') ∧
  (fldB H v P.length = false → ∀ H', Same H H' → E (.ref C_NoFields) none H')
theorem sc_quarrels : FnScope ["book", "fields"] ["book", "fields"] (defScope s_quarrels) := ⟨rfl, rfl, rfl, by decide +kernel, rfl, by decide +kernel, by decide +kernel⟩
theorem ok_quarrels (T : Top P K mg) : FnOk P w K mg base (L2.CX P w) 5 T.f_quarrels T.fd_quarrels ["book", "fields"] (sp_quarrels T.C_Book T.C_NoFields K) := by
  have G_all_quarrels := ok_all_quarrels (P := P) (w := w) (base := base) T
  have G_check_fields := ok_check_fields (P := P) (w := w) (base := base) T
  refine T.F_quarrels.okX sc_quarrels (fun vs H Q E h => ?_) (fun cdv A outer s H vs Q E hr h => ?_)
  · obtain ⟨l, v, P, z, rfl, _⟩ := h
    rfl
  · obtain ⟨l, v, P, z, rfl, hl, okP, few, kc, ht, k, ke⟩ := h
    refine ⟨_, (pss_cons (ps_expr (pe_callS G_check_fields (hr.mono (by decide)) (by rfl) T.g_check_fields T.F_check_fields.kp T.b_check_fields (fun σ => passAt (takes_of rfl rfl rfl rfl) σ) (by exact (pa_cons (pv 0) (pa_cons (pv 1) pa_nil)))))
      (pss_one (ps_ret (pe_call G_all_quarrels hr (by rfl) T.g_all_quarrels T.F_all_quarrels.kp T.b_all_quarrels .nil pass0 (pa_cons (pv 0) (pa_cons (pv 1) pa_nil)))))), ?_⟩
    tm_at "w"
    refine ⟨l, v, P, z, rfl, hl, by omega, kc, ht, fun c H1 s1 => ?_, fun c H1 s1 => ke c H1 s1⟩
    obtain ⟨a, F, rfl, ha, fl, f6⟩ : ∃ a F, v = .ref a ∧ H a = some (.tup (natsV F)) ∧ F.length = P.length ∧ ∀ x ∈ F, x ≤ 6 := by
      cases v with
      | ref a =>
        cases e : H a with
        | none => simp [fldB, e] at c
        | some o =>
          cases o with
          | tup xs =>
            rw [fldB_tup e, Bool.and_eq_true, decide_eq_true_eq] at c
            obtain ⟨F, rfl, h6⟩ := nats_six (List.all_eq_true.mp c.2)
            exact ⟨a, F, rfl, e, by rw [← c.1, natsV_len], h6⟩
          | _ => simp [fldB, e] at c
      | _ => cases c
    tm_at "w"
    refine ⟨l, a, P, F, rfl, hl.same s1, okP, few, s1 _ _ ha, fl, fun t vs H2 s2 nt h2 p2 => ?_⟩
    exact k a F rfl ha fl f6 t vs H2 (Same.trans s1 s2) (s1.free nt) h2 p2
/-! _law_hand -/
def sp__law_hand (K : PySem.W.Frag) : Sp := fun vs H Q _ => ∃ (a : Addr) (ns : List Int), vs = [.ref a] ∧ SqL K H a (ns.map V.int) ∧ ns.length ≤ 63 ∧ ∀ (τ : Tp) (H' : Hp), Same H H' → H τ.t = none → Tape τ H' → Q (.ref τ.t) H'
theorem sc__law_hand : FnScope ["_law_script", "_law_cells", "_law_cell"] ["_law_script"] (defScope s__law_hand) := ⟨rfl, rfl, rfl, by decide +kernel, rfl, by decide +kernel, by decide +kernel⟩
theorem ok__law_hand (T : Top P K mg) : FnOk P w K mg base CX0 1 T.f__law_hand T.fd__law_hand ["_law_script"] (sp__law_hand K) := by
  refine T.F__law_hand.ok sc__law_hand (fun vs H Q E h => ?_) (fun cdv A outer s H vs Q E hr h => ?_)
  · obtain ⟨a, ns, rfl, _⟩ := h
    rfl
  · obtain ⟨a, ns, rfl, hS, h63, k⟩ := h
    refine ⟨_, (pss_cons (ps_setLc (i := 1) (own := [("_law_cell", 2)]) (g := gName 2) (tt := tYes) rfl sc__law_hand.nd rfl rfl (sw_true rfl rfl rfl (by decide +kernel)) (pi_list (pe_slice sl_list (pv 0) po_none (po_some pe_int))) (blkOk_by (own := [("_law_cell", 2)]) (N := ["_law_script", "_law_cells", "_law_cell"]) (sc := defScope s__law_hand) (by decide +kernel)) (fun _ _ _ _ _ => (pg_name (i := 2) sc__law_hand.nd rfl (Or.inl rfl))) (fun _ _ _ _ _ => pts_nil) (fun _ _ _ _ _ => (pe_callB (id := "abs") call_abs (by rfl) T.z_abs (by decide +kernel) (pa_cons (pe_callTy (T := "int") call_int1 (by rfl) T.z_int (by decide +kernel) (pa_cons (pv 2) pa_nil)) pa_nil))))
      (pss_one (ps_ret (pe_lst (pa_cons (pv 1) (pa_cons pe_int (pa_cons pe_int (pa_cons (pe_op op_add pe_int (pe_callB (r := rLenQ K) (id := "len") call_len_seq (by rfl) T.z_len (by decide +kernel) (pa_cons (pv 1) pa_nil))) (pa_cons pe_int pa_nil))))))))), ?_⟩
    tm_at "w"
    refine ⟨_, _, rfl, hS, fun p np => ?_⟩
    have e63 : cutV (ns.map V.int) none (some 63) = ns.map V.int := by
      unfold cutV
      rw [show HT.sIx (ns.map V.int).length 0 none = 0 from rfl, show (some 63 : Option Int) = some ((63 : Nat) : Int) from rfl, HT.sIx_nat, List.length_map, List.drop_zero]
      exact List.take_of_length_le (by rw [List.length_map]; omega)
    rw [e63]
    refine ⟨p, rfl, ⟨_, SqL.of upd_same⟩, fun D nD => lc_listR (fun _ v _ => IsI v) (fun _ _ _ _ h _ => h) upd_same nD (by rw [List.length_map]; omega) ?_ ?_⟩
    · intro i x H1 N M hx s1 kN
      obtain ⟨z, _, rfl, _⟩ := int_here hx
      tm_at "w"
      exact kN _ _ (Same.refl H1) ⟨_, rfl⟩
    · intro H1 acc s1 hD hlen hI
      obtain ⟨ms, rfl⟩ := ints_at hI
      tm_at "w"
      intro t nt
      have wt : Nw _ t := ⟨nt⟩
      have ntl : D ≠ t := ne_of_none hD nt
      have s2 : Same H (upd H1 t (.lst [.ref D, .int 0, .int 0, .int (1 + ((ms.map V.int).length : Int)), .int 0])) := Same.new (Same.trans (Same.new (Same.refl H) np) s1) nt
      exact k ⟨t, D, ms⟩ _ s2 (Same.free (Same.trans (Same.new (Same.refl H) np) s1) nt) ⟨(upd_ne ntl).trans hD, ntl, 0, 0, _, 0, upd_same, by decide⟩
/-! _law_draw -/
def sp__law_draw (K : PySem.W.Frag) : Sp := fun vs H Q _ => ∃ (τ : Tp) (m : Int), vs = [.ref τ.t, .int m] ∧ Tape τ H ∧ 0 < m ∧ m < 1073741824 ∧ ∀ (r : Int) (H' : Hp), Mv τ H H' → 0 ≤ r → r < m → Q (.int r) H'
theorem sc__law_draw : FnScope ["_law_hand_here", "_law_many", "_law_number", "_law_cell", "_law_digit"] ["_law_hand_here", "_law_many"] (defScope s__law_draw) := ⟨rfl, rfl, rfl, by decide +kernel, rfl, by decide +kernel, by decide +kernel⟩
theorem ok__law_draw (T : Top P K mg) : FnOk P w K mg base CX0 1 T.f__law_draw T.fd__law_draw ["_law_hand_here", "_law_many"] (sp__law_draw K) := by
  refine T.F__law_draw.ok sc__law_draw (fun vs H Q E h => ?_) (fun cdv A outer s H vs Q E hr h => ?_)
  · obtain ⟨τ, m, rfl, _⟩ := h
    rfl
  · obtain ⟨τ, m, rfl, m0, hm, hm2, k⟩ := h
    refine ⟨_, (C8.pss_cut (ps_if (PW.pt (pw_and (pt_cmpR op_eq (pe_ix (r := rIxL K) ix_list (pv 0) pe_int (fun _ _ => rfl)) pe_int (nomark _)) (pw_and1 (pt_cmpR op_lt (pe_ix (r := rIxL K) ix_list (pv 0) pe_int (fun _ _ => rfl)) (pe_callB (r := rLenQ K) (id := "len") call_len_seq (by rfl) T.z_len (by decide +kernel) (pa_cons (pe_ix (r := rIxL K) ix_list (pv 0) pe_int (fun _ _ => rfl)) pa_nil)) (nomark _))))) (pss_cons (ps_set (i := 3) sc__law_draw.nd rfl (Or.inl rfl) (pe_ix (r := rIxL K) ix_list (pe_ix (r := rIxL K) ix_list (pv 0) pe_int (fun _ _ => rfl)) (pe_ix (r := rIxL K) ix_list (pv 0) pe_int (fun _ _ => rfl)) (fun _ _ => rfl)))
      (pss_cons (ps_asg (pe_op op_add (pe_ix (r := rIxL K) ix_list (pv 0) pe_int (fun _ _ => rfl)) pe_int) (pg_sub (pv 0) pe_int set_list))
      (pss_cons (ps_asg (pe_op op_modN (pe_callTy (T := "int") call_int1 (by rfl) T.z_int (by decide +kernel) (pa_cons (pe_op op_add (pe_op op_add (pe_op op_mul (pe_ix (r := rIxL K) ix_list (pv 0) pe_int (fun _ _ => rfl)) pe_int) (pv 3)) pe_int) pa_nil)) pe_int) (pg_sub (pv 0) pe_int set_list))
      (pss_one (ps_if (pt_cmpR op_ge (pv 3) (pe_op op_pow pe_int pe_int) (nomark _)) (pss_one (ps_asg (pv 3) (pg_sub (pv 0) pe_int set_list))) pss_nil))))) pss_nil)
      (pss_cons (ps_if (pt_cmpR op_gt (pe_ix (r := rIxL K) ix_list (pv 0) pe_int (fun _ _ => rfl)) pe_int (nomark _)) (pss_cons (ps_set (i := 4) sc__law_draw.nd rfl (Or.inl rfl) (pe_op op_modN (pe_callTy (T := "int") call_int1 (by rfl) T.z_int (by decide +kernel) (pa_cons (pe_ix (r := rIxL K) ix_list (pv 0) pe_int (fun _ _ => rfl)) pa_nil)) (pv 1)))
      (pss_cons (ps_asg (pe_op op_fdivN (pe_ix (r := rIxL K) ix_list (pv 0) pe_int (fun _ _ => rfl)) (pv 1)) (pg_sub (pv 0) pe_int set_list))
      (pss_one (ps_ret (pv 4))))) pss_nil)
      (pss_cons (ps_asg (pe_op op_add (pe_ix (r := rIxL K) ix_list (pv 0) pe_int (fun _ _ => rfl)) pe_int) (pg_sub (pv 0) pe_int set_list))
      (pss_cons (ps_set (i := 2) sc__law_draw.nd rfl (Or.inl rfl) (pe_op op_modN (pe_callTy (T := "int") call_int1 (by rfl) T.z_int (by decide +kernel) (pa_cons (pe_op op_mul (pe_callTy (T := "int") call_int1 (by rfl) T.z_int (by decide +kernel) (pa_cons (pe_op op_add (pe_ix (r := rIxL K) ix_list (pv 0) pe_int (fun _ _ => rfl)) (pe_op op_mul pe_int (pe_ix (r := rIxL K) ix_list (pv 0) pe_int (fun _ _ => rfl)))) pa_nil)) pe_int) pa_nil)) pe_int))
      (pss_cons (ps_set (i := 2) sc__law_draw.nd rfl (Or.inl rfl) (pe_op op_modN (pe_callTy (T := "int") call_int1 (by rfl) T.z_int (by decide +kernel) (pa_cons (pe_op op_mul (pv 2) (pe_op op_add (pe_op op_fdivN (pv 2) pe_int) pe_int)) pa_nil)) pe_int))
      (pss_cons (ps_set (i := 2) sc__law_draw.nd rfl (Or.inl rfl) (pe_op op_modN (pe_callTy (T := "int") call_int1 (by rfl) T.z_int (by decide +kernel) (pa_cons (pe_op op_mul (pv 2) (pe_op op_add (pe_op op_fdivN (pv 2) pe_int) pe_int)) pa_nil)) pe_int))
      (pss_one (ps_ret (pe_op op_modN (pe_callTy (T := "int") call_int1 (by rfl) T.z_int (by decide +kernel) (pa_cons (pe_op op_fdivN (pv 2) pe_int) pa_nil)) (pv 1)))))))))), ?_⟩
    obtain ⟨hl, nlt, i, c, s, n, ht, hi⟩ := id m0
    tm_at "w"
    refine ⟨fun σ H' => ∃ (x : Option V), σ = [some (.ref τ.t), some (.int m), none, x, none] ∧ Mv τ H H', ?_, ?_⟩
    · tm_at "w"
      refine iteI (fun hc => ?_) (fun hc => ?_)
      · tm_at "w"
        refine iteD (fun hc => ?_) (fun hc => ?_)
        · tm_at "w"
          obtain ⟨v, hv⟩ := at_ints hi hc
          refine ⟨_, _, _, _, rfl, rfl, by tm_at "sq", hv, ?_⟩
          tm_at "w"
          refine iteD (fun hd => ?_) (fun hd => ?_)
          · tm_at "w"
            exact ((m0.mv.put rfl (by omega)).put rfl (by omega)).put rfl (by omega)
          · exact ⟨_, rfl, (m0.mv.put rfl (by omega)).put rfl (by omega)⟩
        · exact ⟨none, rfl, m0.mv⟩
      · exact ⟨none, rfl, m0.mv⟩
    · rintro σ H' ⟨x, rfl, m1⟩
      obtain ⟨hl, nlt, i, c, s, n, ht, hi⟩ := m1.now
      tm_at "w"
      refine iteD (fun hc => ?_) (fun hc => ?_)
      · tm_at "w"
        exact k _ _ (m1.put rfl hi) (fmod_in hm).1 (fmod_in hm).2
      · tm_at "w"
        exact k _ _ (m1.put rfl hi) (fmod_in hm).1 (fmod_in hm).2
/-! _law_is -/
/-- two things that are alike through and through, at most so deep -/
inductive Alk (H : Hp) : Nat → V → V → Prop
  | int (n : Nat) (i : Int) : Alk H n (.int i) (.int i)
  | bl (n : Nat) (b : Bool) : Alk H n (.bl b) (.bl b)
  | non (n : Nat) : Alk H n .non .non
  | tup (n : Nat) (a b : Addr) (xs ys : List V) : H a = some (.tup xs) → H b = some (.tup ys) → xs.length = ys.length → xs.length ≤ 100000 → (∀ (i : Nat) x y, xs[i]? = some x → ys[i]? = some y → Alk H n x y) → Alk H (n + 1) (.ref a) (.ref b)
  | lst (n : Nat) (a b : Addr) (xs ys : List V) : H a = some (.lst xs) → H b = some (.lst ys) → xs.length = ys.length → xs.length ≤ 100000 → (∀ (i : Nat) x y, xs[i]? = some x → ys[i]? = some y → Alk H n x y) → Alk H (n + 1) (.ref a) (.ref b)
theorem Alk.same {H H' : Hp} {n : Nat} {x y : V} (h : Alk H n x y) (s : Same H H') : Alk H' n x y := by
  induction h with
  | int n i => exact .int n i
  | bl n b => exact .bl n b
  | non n => exact .non n
  | tup n a b xs ys ha hb hl hz _ ih => exact .tup n a b xs ys (s _ _ ha) (s _ _ hb) hl hz ih
  | lst n a b xs ys ha hb hl hz _ ih => exact .lst n a b xs ys (s _ _ ha) (s _ _ hb) hl hz ih
theorem Alk.up {H : Hp} {n : Nat} {x y : V} (h : Alk H n x y) : Alk H (n + 1) x y := by
  induction h with
  | int n i => exact .int _ i
  | bl n b => exact .bl _ b
  | non n => exact .non _
  | tup n a b xs ys ha hb hl hz _ ih => exact .tup _ a b xs ys ha hb hl hz ih
  | lst n a b xs ys ha hb hl hz _ ih => exact .lst _ a b xs ys ha hb hl hz ih
theorem Alk.nats {H : Hp} {a b : Addr} {q : List Nat} (ha : H a = some (.tup (natsV q))) (hb : H b = some (.tup (natsV q))) (hn : q.length ≤ 100000) : Alk H 1 (.ref a) (.ref b) :=
  .tup 0 a b _ _ ha hb rfl (by rw [natsV_len]; exact hn) fun i x y ex ey => by
    rw [ex] at ey
    rw [← Option.some.inj ey]
    obtain ⟨n, _, rfl, _⟩ := natsV_here ex
    exact .int 0 _
theorem Alk.rows {H : Hp} {a b : Addr} {P : List (List Nat)} (ha : ParAt H a P) (hb : ParAt H b P) (hn : P.length ≤ 1000) (hm : ∀ q ∈ P, q.length ≤ 1000) : Alk H 2 (.ref a) (.ref b) := by
  obtain ⟨xs, ha, la⟩ := ha
  obtain ⟨ys, hb, lb⟩ := hb
  refine .tup 1 a b _ _ ha hb (la.1.trans lb.1.symm) (by rw [la.1]; omega) fun i x y ex ey => ?_
  obtain ⟨u, p, rfl, e1, e2⟩ := la.here ex
  obtain ⟨v, q, rfl, e3, e4⟩ := lb.here ey
  rw [e1] at e3
  rw [← Option.some.inj e3] at e4
  have := hm p (List.mem_of_getElem? e1)
  exact Alk.nats e2 e4 (by omega)
theorem kit2 {K : PySem.W.Frag} {t : Value} {a b : Bool} (h1 : PySem.W.kitOne K t (.type "tuple") = some a) (h2 : PySem.W.kitOne K t (.type "list") = some b) : PySem.W.kitAny K t [.type "tuple", .type "list"] = some (a || b) := by
  refine kitAny_cons h1 (fun e => ?_) (fun e => by rw [e]; rfl)
  rw [e, Bool.false_or]
  refine kitAny_cons h2 (fun e2 => by rw [e2]; rfl) (fun e2 => e2)
theorem int_lst {K : PySem.W.Frag} : PySem.W.kitOne K (.type "int") (.type "list") = some false := kit_ty (by decide +kernel)
theorem bool_lst {K : PySem.W.Frag} : PySem.W.kitOne K (.type "bool") (.type "list") = some false := kit_ty (by decide +kernel)
theorem bool_tup {K : PySem.W.Frag} : PySem.W.kitOne K (.type "bool") (.type "tuple") = some false := kit_ty (by decide +kernel)
theorem tup_lst {K : PySem.W.Frag} : PySem.W.kitOne K (.type "tuple") (.type "list") = some false := kit_ty (by decide +kernel)
theorem lst_lst {K : PySem.W.Frag} : PySem.W.kitOne K (.type "list") (.type "list") = some true := kit_ty (by decide +kernel)
theorem lst_tup {K : PySem.W.Frag} : PySem.W.kitOne K (.type "list") (.type "tuple") = some false := kit_ty (by decide +kernel)
theorem none_tup {K : PySem.W.Frag} : PySem.W.kitOne K (.type "NoneType") (.type "tuple") = some false := kit_ty (by decide +kernel)
theorem none_lst {K : PySem.W.Frag} : PySem.W.kitOne K (.type "NoneType") (.type "list") = some false := kit_ty (by decide +kernel)
theorem none_bool {K : PySem.W.Frag} : PySem.W.kitOne K (.type "NoneType") (.type "bool") = some false := kit_ty (by decide +kernel)
theorem ty_non {K : PySem.W.Frag} {H : Hp} : TyX K H .non (.type "NoneType") := .base .non
theorem ty_lst {K : PySem.W.Frag} {H : Hp} {a : Addr} {xs : List V} (h : H a = some (.lst xs)) : TyX K H (.ref a) (.type "list") := .base (.lst h)
def spI (K : PySem.W.Frag) : Nat → Sp
  | 0 => fun _ _ _ _ => False
  | n + 1 => fun vs H Q _ => ∃ (x y : V), vs = [x, y] ∧ Alk H n x y ∧ ∀ H', Same H H' → Q (.bl true) H'
theorem sc__law_is : FnScope ["_law_told", "_law_due", "_law_one", "_law_two"] ["_law_told", "_law_due"] (defScope s__law_is) := ⟨rfl, rfl, rfl, by decide +kernel, rfl, by decide +kernel, by decide +kernel⟩
theorem okI0 (T : Top P K mg) : FnOk P w K mg base CX0 1 T.f__law_is T.fd__law_is ["_law_told", "_law_due"] (spI K 0) := by
  refine T.F__law_is.ok sc__law_is (fun vs H Q E h => h.elim) (fun cdv A outer s H vs Q E hr h => h.elim)
theorem okI (T : Top P K mg) {lv n : Nat} (G__law_is : FnOk P w K mg base CX0 lv T.f__law_is T.fd__law_is ["_law_told", "_law_due"] (spI K n)) : FnOk P w K mg base CX0 (lv + 1) T.f__law_is T.fd__law_is ["_law_told", "_law_due"] (spI K (n + 1)) := by
  refine T.F__law_is.ok sc__law_is (fun vs H Q E h => ?_) (fun cdv A outer s H vs Q E hr h => ?_)
  · obtain ⟨x, y, rfl, _⟩ := h
    rfl
  · obtain ⟨x, y, rfl, hA, k⟩ := h
    refine ⟨_, (pss_cons (ps_if (pt_val (pe_callB (id := "isinstance") call_isiT (by rfl) T.z_isinstance (by decide +kernel) (pa_cons (pv 1) (pa_cons (pe_tup (pa_cons (pe_bltn (v := .ty "tuple") (u := .type "tuple") (by rfl) T.z_tuple (by decide +kernel) rfl) (pa_cons (pe_bltn (v := .ty "list") (u := .type "list") (by rfl) T.z_list (by decide +kernel) rfl) pa_nil))) pa_nil)))) (pss_cons (ps_if (PW.pt (pw_or (pt_cmpR op_ne (pe_callB (r := rIsi K) (id := "isinstance") call_isi (by rfl) T.z_isinstance (by decide +kernel) (pa_cons (pv 0) (pa_cons (pe_bltn (v := .ty "tuple") (u := .type "tuple") (by rfl) T.z_tuple (by decide +kernel) rfl) pa_nil))) (pe_callB (r := rIsi K) (id := "isinstance") call_isi (by rfl) T.z_isinstance (by decide +kernel) (pa_cons (pv 1) (pa_cons (pe_bltn (v := .ty "tuple") (u := .type "tuple") (by rfl) T.z_tuple (by decide +kernel) rfl) pa_nil))) (nomark _)) (pw_or1 (pt_not (pt_val (pe_callB (id := "isinstance") call_isiT (by rfl) T.z_isinstance (by decide +kernel) (pa_cons (pv 0) (pa_cons (pe_tup (pa_cons (pe_bltn (v := .ty "tuple") (u := .type "tuple") (by rfl) T.z_tuple (by decide +kernel) rfl) (pa_cons (pe_bltn (v := .ty "list") (u := .type "list") (by rfl) T.z_list (by decide +kernel) rfl) pa_nil))) pa_nil)))))))) (pss_one (ps_ret pe_bl)) pss_nil)
      (pss_one (ps_ret (pe_and (pe_cmpR op_eq (pe_callB (r := rLenQ K) (id := "len") call_len_seq (by rfl) T.z_len (by decide +kernel) (pa_cons (pv 0) pa_nil)) (pe_callB (r := rLenQ K) (id := "len") call_len_seq (by rfl) T.z_len (by decide +kernel) (pa_cons (pv 1) pa_nil)) (nomark _)) (pe_one (pe_callB (r := rAll K) (id := "all") (cr_all rfl) (by rfl) T.z_all (by decide +kernel) (pa_cons (pe_lc (own := [("_law_one", 2), ("_law_two", 3)]) (tt := tYes) rfl sc__law_is.nd (RZ.pi_zipA (by rfl) T.z_zip (pa_cons (pv 0) (pa_cons (pv 1) pa_nil))) (blkOk_by (own := [("_law_one", 2), ("_law_two", 3)]) (N := ["_law_told", "_law_due", "_law_one", "_law_two"]) (sc := defScope s__law_is) (by decide +kernel)) (fun _ _ _ _ _ => (pg_tupK (K := K) 2 rfl rfl (pgs_cons (pg_name (i := 2) sc__law_is.nd rfl (Or.inl rfl)) (pgs_cons (pg_name (i := 3) sc__law_is.nd rfl (Or.inl rfl)) pgs_nil)))) (fun _ _ _ _ _ => pts_nil) (fun _ _ _ _ _ => (pe_call G__law_is hr (by rfl) T.g__law_is T.F__law_is.kp T.b__law_is .nil pass0 (pa_cons (pv 2) (pa_cons (pv 3) pa_nil))))) pa_nil))))))) pss_nil)
      (pss_one (ps_ret (pe_and (pe_cmpR op_eq (pe_callB (r := rIsi K) (id := "isinstance") call_isi (by rfl) T.z_isinstance (by decide +kernel) (pa_cons (pv 0) (pa_cons (pe_bltn (v := .ty "bool") (u := .type "bool") (by rfl) T.z_bool (by decide +kernel) rfl) pa_nil))) (pe_callB (r := rIsi K) (id := "isinstance") call_isi (by rfl) T.z_isinstance (by decide +kernel) (pa_cons (pv 1) (pa_cons (pe_bltn (v := .ty "bool") (u := .type "bool") (by rfl) T.z_bool (by decide +kernel) rfl) pa_nil))) (nomark _)) (pe_one (pe_cmpR op_eq (pv 0) (pv 1) (nomark _))))))), ?_⟩
    cases hA with
    | int n i =>
      tm_at "w"
      intro p np
      refine ⟨_, _, _, _, _, _, rfl, upd_same, .cons (.ty _) (.cons (.ty _) .nil), ty_int i, kit2 int_tup int_lst, ?_⟩
      tm_at "w"
      refine ⟨_, _, _, _, _, rfl, ClsV.ty _, ty_int i, int_bool, ?_⟩
      tm_at "w"
      refine ⟨_, _, _, _, _, rfl, ClsV.ty _, ty_int i, int_bool, ?_⟩
      tm_at "w"
      rw [show decide (V.int i = V.int i) = true from decide_eq_true rfl]
      exact k _ (Same.new (Same.refl H) np)
    | bl n b =>
      tm_at "w"
      intro p np
      refine ⟨_, _, _, _, _, _, rfl, upd_same, .cons (.ty _) (.cons (.ty _) .nil), ty_bl b, kit2 bool_tup bool_lst, ?_⟩
      tm_at "w"
      refine ⟨_, _, _, _, _, rfl, ClsV.ty _, ty_bl b, bool_bool, ?_⟩
      tm_at "w"
      refine ⟨_, _, _, _, _, rfl, ClsV.ty _, ty_bl b, bool_bool, ?_⟩
      tm_at "w"
      rw [show decide (V.bl b = V.bl b) = true from decide_eq_true rfl]
      exact k _ (Same.new (Same.refl H) np)
    | non n =>
      tm_at "w"
      intro p np
      refine ⟨_, _, _, _, _, _, rfl, upd_same, .cons (.ty _) (.cons (.ty _) .nil), ty_non, kit2 none_tup none_lst, ?_⟩
      tm_at "w"
      refine ⟨_, _, _, _, _, rfl, ClsV.ty _, ty_non, none_bool, ?_⟩
      tm_at "w"
      refine ⟨_, _, _, _, _, rfl, ClsV.ty _, ty_non, none_bool, ?_⟩
      tm_at "w"
      rw [show decide (V.non = V.non) = true from decide_eq_true rfl]
      exact k _ (Same.new (Same.refl H) np)
    | tup n a b xs ys ha hb hl hz hi =>
      tm_at "w"
      intro p np
      have s1 : Same H (upd H p (.tup [.ty "tuple", .ty "list"])) := Same.new (Same.refl H) np
      refine ⟨_, _, _, _, _, _, rfl, upd_same, .cons (.ty _) (.cons (.ty _) .nil), ty_tup (s1 _ _ hb), kit2 tup_tup tup_lst, ?_⟩
      tm_at "w"
      refine ⟨_, _, _, _, _, rfl, ClsV.ty _, ty_tup (s1 _ _ ha), tup_tup, ?_⟩
      tm_at "w"
      refine ⟨_, _, _, _, _, rfl, ClsV.ty _, ty_tup (s1 _ _ hb), tup_tup, ?_⟩
      tm_at "w"
      intro p2 np2
      have s2 : Same H (upd (upd H p (.tup [.ty "tuple", .ty "list"])) p2 (.tup [.ty "tuple", .ty "list"])) := Same.new s1 np2
      have ha2 := s2 _ _ ha
      have hb2 := s2 _ _ hb
      refine ⟨_, _, _, _, _, _, rfl, upd_same, .cons (.ty _) (.cons (.ty _) .nil), ty_tup ha2, kit2 tup_tup tup_lst, ?_⟩
      tm_at "w"
      refine iteET (decide_eq_true (by rw [hl])) ?_
      tm_at "w"
      refine ⟨_, _, _, _, rfl, .inr ⟨SqT.of ha2, SqT.of hb2, fun D nD => lc_zipTF (fun _ => some (.bl true)) ha2 hb2 hl nD hz ?_ ?_⟩⟩
      · intro i x y Z H3 N M hx hy s3 hZ kN kM
        tm_at "w"
        exact ⟨x, y, rfl, (hi i x y hx hy).same (Same.trans s2 s3), fun H4 s4 => kN _ _ rfl s4⟩
      · intro H3 s3 hD
        rw [all_true] at hD
        tm_at "w"
        refine ⟨_, _, rfl, SqL.of hD, ?_⟩
        rw [all_id]
        exact k _ (Same.trans s2 s3)
    | lst n a b xs ys ha hb hl hz hi =>
      tm_at "w"
      intro p np
      have s1 : Same H (upd H p (.tup [.ty "tuple", .ty "list"])) := Same.new (Same.refl H) np
      refine ⟨_, _, _, _, _, _, rfl, upd_same, .cons (.ty _) (.cons (.ty _) .nil), ty_lst (s1 _ _ hb), kit2 lst_tup lst_lst, ?_⟩
      tm_at "w"
      refine ⟨_, _, _, _, _, rfl, ClsV.ty _, ty_lst (s1 _ _ ha), lst_tup, ?_⟩
      tm_at "w"
      refine ⟨_, _, _, _, _, rfl, ClsV.ty _, ty_lst (s1 _ _ hb), lst_tup, ?_⟩
      tm_at "w"
      intro p2 np2
      have s2 : Same H (upd (upd H p (.tup [.ty "tuple", .ty "list"])) p2 (.tup [.ty "tuple", .ty "list"])) := Same.new s1 np2
      have ha2 := s2 _ _ ha
      have hb2 := s2 _ _ hb
      refine ⟨_, _, _, _, _, _, rfl, upd_same, .cons (.ty _) (.cons (.ty _) .nil), ty_lst ha2, kit2 lst_tup lst_lst, ?_⟩
      tm_at "w"
      refine iteET (decide_eq_true (by rw [hl])) ?_
      tm_at "w"
      refine ⟨_, _, _, _, rfl, .inl ⟨SqL.of ha2, SqL.of hb2, fun D nD => lc_zipLF (fun _ => some (.bl true)) ha2 hb2 hl nD hz ?_ ?_⟩⟩
      · intro i x y Z H3 N M hx hy s3 hZ kN kM
        tm_at "w"
        exact ⟨x, y, rfl, (hi i x y hx hy).same (Same.trans s2 s3), fun H4 s4 => kN _ _ rfl s4⟩
      · intro H3 s3 hD
        rw [all_true] at hD
        tm_at "w"
        refine ⟨_, _, rfl, SqL.of hD, ?_⟩
        rw [all_id]
        exact k _ (Same.trans s2 s3)
def sp__law_is (K : PySem.W.Frag) : Sp := spI K 3
theorem ok__law_is (T : Top P K mg) : FnOk P w K mg base CX0 4 T.f__law_is T.fd__law_is ["_law_told", "_law_due"] (sp__law_is K) := okI T (okI T (okI T (okI0 T)))
/-! _law_parents -/
theorem snoc_at {R : Nat → V → Prop} {acc : List V} {x : V} {i : Nat} (hl : acc.length = i) (h : ∀ (j : Nat) v, acc[j]? = some v → R j v) (hx : R i x) : ∀ (j : Nat) v, (acc ++ [x])[j]? = some v → R j v := fun j v e => by
  by_cases hj : j < acc.length
  · rw [List.getElem?_append_left hj] at e
    exact h j v e
  · rw [List.getElem?_append_right (by omega)] at e
    have q := (List.getElem?_eq_some_iff.mp e).1
    rw [List.length_singleton] at q
    have ej : j = i := by omega
    rw [ej, hl, Nat.sub_self] at e
    rw [ej, ← Option.some.inj e]
    exact hx
theorem nats_all {i : Nat} : ∀ {acc : List V}, (∀ v ∈ acc, ∃ z : Int, v = .int z ∧ 0 ≤ z ∧ z < i) → ∃ q : List Nat, q.length = acc.length ∧ (∀ x ∈ q, x < i) ∧ acc = natsV q
  | [], _ => ⟨[], rfl, (fun x hx => by cases hx), rfl⟩
  | v :: r, h => by
    obtain ⟨q, h1, h2, h3⟩ := nats_all fun u hu => h u (List.mem_cons_of_mem _ hu)
    obtain ⟨z, e, z0, z1⟩ := h v List.mem_cons_self
    refine ⟨z.toNat :: q, by rw [List.length_cons, List.length_cons, h1], fun x hx => ?_, ?_⟩
    · rcases List.mem_cons.mp hx with e | e
      · omega
      · exact h2 x e
    · rw [e, h3]
      show V.int z :: natsV q = V.int (z.toNat : Int) :: natsV q
      rw [show (z.toNat : Int) = z by omega]
def sp__law_parents (K : PySem.W.Frag) : Sp := fun vs H Q _ => ∃ (τ : Tp) (n m : Nat), vs = [.ref τ.t, .int n, .int m] ∧ Tape τ H ∧ n ≤ 400 ∧ m ≤ 6 ∧
  ∀ a P H', Mv τ H H' → ParAt H' a P → OkP P → P.length = n → Q (.ref a) H'
theorem sc__law_parents : FnScope ["_law_hand_here", "_law_many", "_law_most", "_law_found", "_law_kind", "_law_some", "_law_turn"] ["_law_hand_here", "_law_many", "_law_most"] (defScope s__law_parents) := ⟨rfl, rfl, rfl, by decide +kernel, rfl, by decide +kernel, by decide +kernel⟩
theorem ok__law_parents (T : Top P K mg) : FnOk P w K mg base CX0 2 T.f__law_parents T.fd__law_parents ["_law_hand_here", "_law_many", "_law_most"] (sp__law_parents K) := by
  have G__law_draw := ok__law_draw (P := P) (w := w) (base := base) T
  refine T.F__law_parents.ok sc__law_parents (fun vs H Q E h => ?_) (fun cdv A outer s H vs Q E hr h => ?_)
  · obtain ⟨τ, n, m, rfl, _⟩ := h
    rfl
  · obtain ⟨τ, n, m, rfl, m0, hn, hm, kk⟩ := h
    refine ⟨_, (pss_cons (ps_set (i := 3) sc__law_parents.nd rfl (Or.inl rfl) (pe_lst pa_nil))
      (pss_cons (ps_for PassesOwn.never rfl (pi_range1 rfl T.z_range (pa_cons (pv 1) pa_nil)) (pg_name (i := 4) sc__law_parents.nd rfl (Or.inr rfl))
      (pss_cons (ps_set (i := 5) sc__law_parents.nd rfl (Or.inl rfl) (pe_ifExp (pt_cmpR op_gt (pv 4) pe_int (nomark _)) (pe_lc (own := [("_law_turn", 6)]) (g := gName 6) (tt := tYes) rfl sc__law_parents.nd (pi_range1 rfl T.z_range (pa_cons (pe_call G__law_draw hr (by rfl) T.g__law_draw T.F__law_draw.kp T.b__law_draw .nil pass0 (pa_cons (pv 0) (pa_cons (pe_op op_add (pv 2) pe_int) pa_nil))) pa_nil)) (blkOk_by (own := [("_law_turn", 6)]) (N := ["_law_hand_here", "_law_many", "_law_most", "_law_found", "_law_kind", "_law_some", "_law_turn"]) (sc := defScope s__law_parents) (by decide +kernel)) (fun _ _ _ _ _ => (pg_name (i := 6) sc__law_parents.nd rfl (Or.inl rfl))) (fun _ _ _ _ _ => pts_nil) (fun _ _ _ _ _ => (pe_call G__law_draw hr (by rfl) T.g__law_draw T.F__law_draw.kp T.b__law_draw .nil pass0 (pa_cons (pv 0) (pa_cons (pv 4) pa_nil))))) (pe_lst pa_nil)))
      (pss_one (ps_expr (pe_bm PySem.F.plainAttrs_list PySem.F.slot_list_append PySem.F.type_list_append mt_append (pv 3) (pa_cons (pe_callTy (r := rTupQ K) (T := "tuple") call_tuple_of (by rfl) T.z_tuple (by decide +kernel) (pa_cons (pe_callB (id := "sorted") (cr_sortedSet rfl) (by rfl) T.z_sorted (by decide +kernel) (pa_cons (pe_callTy (T := "set") (cr_setL rfl) (by rfl) T.z_set (by decide +kernel) (pa_cons (pv 5) pa_nil)) pa_nil)) pa_nil)) pa_nil))))))
      (pss_one (ps_ret (pe_callTy (r := rTupQ K) (T := "tuple") call_tuple_of (by rfl) T.z_tuple (by decide +kernel) (pa_cons (pv 3) pa_nil)))))), ?_⟩
    tm_at "w"
    intro F nF
    have nFt := m0.mv.neN nF
    tm_at "w"
    refine for_range (lo := 0) (n := (n : Int).toNat) (fun i σ H' => ∃ x y z, σ = [some (.ref τ.t), some (.int (n : Int)), some (.int (m : Int)), some (.ref F), x, y, z] ∧ Mv τ H H' ∧ ∃ acc, H' F = some (.lst acc) ∧ acc.length = i ∧ ∀ (j : Nat) v, acc[j]? = some v → RowR j v H') ?_ ?_ ?_
    · exact ⟨none, none, none, rfl, m0.mv.new nF, [], upd_same, rfl, fun j v e => by simp at e⟩
    · rintro i σ H1 hi ⟨x0, y0, z0, rfl, m1, acc, hF1, hacc, hR1⟩
      rw [Int.zero_add]
      tm_at "w"
      refine iteD (fun z => ?_) (fun z => ?_)
      tm_at "w"
      refine ⟨τ, _, rfl, m1.now, by omega, by omega, fun r H2 m2 h0 h1 => ?_⟩
      obtain ⟨r, rfl⟩ : ∃ n : Nat, r = n := ⟨r.toNat, by omega⟩
      tm_at "w"
      intro D nD
      refine lc_rangeM (τ := τ) (fun _ v _ => ∃ z : Int, v = .int z ∧ 0 ≤ z ∧ z < i) (fun _ _ _ _ h _ => h) m2.now nD (by omega) ?_ ?_
      · intro j H3 N M hj m3 kN
        tm_at "w"
        exact ⟨τ, _, rfl, m3.now, by omega, by omega, fun r3 H4 m4 h3 h4 => kN _ _ m4 ⟨r3, rfl, h3, by omega⟩⟩
      intro H3 acc2 m3 hD hlen hR
      rw [Int.toNat_natCast] at hlen
      obtain ⟨q, hql, hqn, rfl⟩ : ∃ q : List Nat, q.length ≤ 6 ∧ (∀ x ∈ q, x < i) ∧ acc2 = natsV q := by
        obtain ⟨q, e1, e2, e3⟩ := nats_all (i := i) (acc := acc2) fun v hv => by
          obtain ⟨j, hj, e⟩ := List.mem_iff_getElem.mp hv
          exact hR j v (by rw [List.getElem?_eq_getElem hj, e])
        exact ⟨q, by omega, e2, e3⟩
      have m13 := m2.trans m3
      rotate_left
      tm_at "w"
      intro D nD
      obtain ⟨q, hql, hqn, eq⟩ : ∃ q : List Nat, q.length ≤ 6 ∧ (∀ x ∈ q, x < i) ∧ ([] : List V) = natsV q := ⟨[], by decide, (fun x hx => by cases hx), rfl⟩
      have hD : upd H1 D (.lst []) D = some (.lst (natsV q)) := by rw [upd_same, eq]
      have m13 := m1.now.mv.new (o := .lst []) nD
      all_goals
        tm_at "w"
        refine ⟨_, q.map fun z : Nat => (z : Int), rfl, SqL.of (by rw [List.map_map]; exact hD), by rw [List.length_map]; omega, fun S c hc _ nS => ?_⟩
        rw [List.length_map] at hc
        refine ⟨S, _, _, rfl, upd_same, by omega, fun ns p hs hmem hlen np => ?_⟩
        obtain ⟨ks, rfl, hks, hkp⟩ := nats_of hs (n := i) fun x hx => by
          have := of_decide_eq_true ((hmem x).mp hx)
          obtain ⟨z, hz, e⟩ := List.mem_map.mp this
          exact ⟨z, hqn z hz, e.symm⟩
        rw [List.length_map] at hlen
        have m15 := ((m1.trans m13).new nS).new (p := p) (o := .lst ((ks.map fun z : Nat => (z : Int)).map V.int)) np
        have m35 := (m13.new nS).new (p := p) (o := .lst ((ks.map fun z : Nat => (z : Int)).map V.int)) np
        tm_at "w"
        intro t nt
        have m16 := m15.new (o := .tup ((ks.map fun z : Nat => (z : Int)).map V.int)) nt
        have m36 := m35.new (o := .tup ((ks.map fun z : Nat => (z : Int)).map V.int)) nt
        have hF6 := m36.keep _ _ nFt hF1
        tm_at "w"
        refine ⟨_, _, _, rfl, m16.mut nF, acc ++ [.ref t], upd_same, len_app hacc, snoc_at hacc (fun j v e => (hR1 j v e).tk (TK.trans m36.tk (TK.mut hF6))) ⟨t, ks, rfl, ?_, ⟨hkp, hks, by omega⟩⟩⟩
        rw [upd_ne (fun e => by rw [e] at nt; rw [m35.keep _ _ nFt hF1] at nt; cases nt), upd_same, List.map_map]
        rfl
    · rintro σ H1 ⟨x0, y0, z0, rfl, m1, acc, hF1, hacc, hR1⟩
      obtain ⟨P, hP, ok, hPl⟩ := rows_of hn (by omega) hR1
      tm_at "w"
      intro t nt
      exact kk t P _ (m1.new nt) ⟨acc, upd_same, hP.tk (TK.new nt)⟩ ok hPl
/-! _law_sheet -/
theorem int_nodup_le {ks : List Int} {m : Nat} (hn : ks.Nodup) (h : ∀ k ∈ ks, 0 ≤ k ∧ k < (m : Int)) : ks.length ≤ m := by
  have l : (ks.map Int.toNat).length ≤ m := nodup_le m (by
    unfold List.Nodup
    rw [List.pairwise_map]
    refine List.Pairwise.imp_of_mem (fun {a b} ha hb z e => z ?_) hn
    have := h a ha
    have := h b hb
    omega) fun k hk => by
    obtain ⟨z, hz, rfl⟩ := List.mem_map.mp hk
    have := h z hz
    omega
  rw [List.length_map] at l
  exact l
/-- for each kind the tuple of all kinds that it is -/
def ShL (H : Hp) (vs : List V) (P : List (List Nat)) (l : Addr) : Prop := ∀ (j : Nat) v, vs[j]? = some v → ∃ b q, v = .ref b ∧ H b = some (.tup (natsV q)) ∧ (∀ k, k ∈ q ↔ isA P j k = true) ∧ q.length ≤ P.length ∧ b ≠ l
def ShAt (H : Hp) (l : Addr) (P : List (List Nat)) : Prop := ∃ vs, H l = some (.lst vs) ∧ vs.length = P.length ∧ ShL H vs P l
theorem ShL.tk {H H' : Hp} {vs : List V} {P : List (List Nat)} {l : Addr} (h : ShL H vs P l) (k : TK H H') : ShL H' vs P l := fun j v e => by
  obtain ⟨b, q, e1, e2, e3⟩ := h j v e
  exact ⟨b, q, e1, k _ _ e2, e3⟩
theorem ShAt.same {H H' : Hp} {l : Addr} {P : List (List Nat)} (h : ShAt H l P) (s : Same H H') : ShAt H' l P := by
  obtain ⟨vs, h1, h2, h3⟩ := h
  exact ⟨vs, s _ _ h1, h2, h3.tk (Same.tk s)⟩
theorem ShAt.mv {H H' : Hp} {l : Addr} {P : List (List Nat)} {τ : Tp} (h : ShAt H l P) (m : Mv τ H H') (n : l ≠ τ.t) : ShAt H' l P := by
  obtain ⟨vs, h1, h2, h3⟩ := h
  exact ⟨vs, m.keep _ _ n h1, h2, h3.tk m.tk⟩
theorem ShAt.at {H : Hp} {l : Addr} {P : List (List Nat)} (h : ShAt H l P) {x : Nat} (hx : x < P.length) : ∃ vs b q, H l = some (.lst vs) ∧ vs[x]? = some (.ref b) ∧ H b = some (.tup (natsV q)) ∧ (∀ k, k ∈ q ↔ isA P x k = true) ∧ q.length ≤ P.length := by
  obtain ⟨vs, h1, h2, h3⟩ := h
  obtain ⟨b, q, e1, e2, e3, e4, _⟩ := h3 x _ (List.getElem?_eq_getElem (by omega))
  exact ⟨vs, b, q, h1, by rw [List.getElem?_eq_getElem (by omega), e1], e2, e3, e4⟩
def sp__law_sheet (K : PySem.W.Frag) : Sp := fun vs H Q _ => ∃ (a : Addr) (P : List (List Nat)), vs = [.ref a] ∧ ParAt H a P ∧ OkP P ∧ P.length ≤ 63 ∧ ∀ l H', Same H H' → Nw H l → ShAt H' l P → Q (.ref l) H'
theorem sc__law_sheet : FnScope ["_law_parents_here", "_law_found", "_law_kind", "_law_item", "_law_here", "_law_parent"] ["_law_parents_here"] (defScope s__law_sheet) := ⟨rfl, rfl, rfl, by decide +kernel, rfl, by decide +kernel, by decide +kernel⟩
theorem ok__law_sheet (T : Top P K mg) : FnOk P w K mg base CX0 1 T.f__law_sheet T.fd__law_sheet ["_law_parents_here"] (sp__law_sheet K) := by
  refine T.F__law_sheet.ok sc__law_sheet (fun vs H Q E h => ?_) (fun cdv A outer s H vs Q E hr h => ?_)
  · obtain ⟨a, P, rfl, _⟩ := h
    rfl
  · obtain ⟨a, P, rfl, hP, ok, h63, k⟩ := h
    refine ⟨_, (pss_cons (ps_set (i := 1) sc__law_sheet.nd rfl (Or.inl rfl) (pe_lst pa_nil))
      (pss_cons (ps_for PassesOwn.never rfl (pi_enumT (by rfl) T.z_enumerate (pa_cons (pv 0) pa_nil)) (pg_tup rfl (pgs_cons (pg_name (i := 2) sc__law_sheet.nd rfl (Or.inl rfl)) (pgs_cons (pg_name (i := 3) sc__law_sheet.nd rfl (Or.inl rfl)) pgs_nil)))
      (pss_cons (ps_set (i := 4) sc__law_sheet.nd rfl (Or.inl rfl) (pe_lst (pa_cons (pv 2) pa_nil)))
      (pss_cons (ps_for PassesOwn.never rfl (pi_tup (pv 3)) (pg_name (i := 5) sc__law_sheet.nd rfl (Or.inl rfl))
      (pss_one (ps_expr (pe_bm PySem.F.plainAttrs_list PySem.F.slot_list_extend PySem.F.type_list_extend mt_extend (pv 4) (pa_cons (pe_callTy (r := rListQ K) (T := "list") call_list_of (by rfl) T.z_list (by decide +kernel) (pa_cons (pe_ix (r := rIxL K) ix_list (pv 1) (pv 5) (fun _ _ => rfl)) pa_nil)) pa_nil)))))
      (pss_one (ps_expr (pe_bm PySem.F.plainAttrs_list PySem.F.slot_list_append PySem.F.type_list_append mt_append (pv 1) (pa_cons (pe_callTy (r := rTupQ K) (T := "tuple") call_tuple_of (by rfl) T.z_tuple (by decide +kernel) (pa_cons (pe_callB (id := "sorted") (cr_sortedSet rfl) (by rfl) T.z_sorted (by decide +kernel) (pa_cons (pe_callTy (T := "set") (cr_setL rfl) (by rfl) T.z_set (by decide +kernel) (pa_cons (pv 4) pa_nil)) pa_nil)) pa_nil)) pa_nil)))))))
      (pss_one (ps_ret (pv 1))))), ?_⟩
    have hR := ok.rt
    obtain ⟨vsP, hpa, hlen, hit⟩ := id hP
    tm_at "w"
    intro F nF
    have s0 : Same H (upd H F (.lst [])) := Same.new (Same.refl H) nF
    have hpa1 := s0 _ _ hpa
    tm_at "w"
    refine ⟨_, _, rfl, SqT.of hpa1, for_enumT (K := K) (a := a) (xs := vsP) (fun i σ H' => ∃ x y z w, σ = [some (.ref a), some (.ref F), x, y, z, w] ∧ Same H H' ∧ ∃ vs, H' F = some (.lst vs) ∧ vs.length = i ∧ ShL H' vs P F) ?_ ?_ ?_ ?_⟩
    · exact ⟨_, _, _, _, rfl, s0, [], upd_same, rfl, fun j v e => by simp at e⟩
    · rintro i σ H' ⟨_, _, _, _, rfl, s1, _⟩
      exact SqT.of (s1 _ _ hpa)
    · rintro i x t σ H' hx ⟨x0, y0, z0, w0, rfl, s1, vs, hl1, hvl, hfl⟩ nt
      obtain ⟨ai, p, rfl, hp, hai⟩ := ParL.here ⟨hlen, hit⟩ hx
      have il := (List.getElem?_eq_some_iff.mp hp).1
      have p6 := (ok.ok i p hp).few
      have s2 : Same H' (upd H' t (.tup [V.int (i : Int), V.ref ai])) := Same.new (Same.refl H') nt
      have hai2 := s2 _ _ (s1 _ _ hai)
      tm_at "w"
      intro L nL
      have nL0 : H' L = none := Same.free s2 nL
      have s3 : Same H' (upd (upd H' t (.tup [V.int (i : Int), V.ref ai])) L (.lst [V.int (i : Int)])) := Same.new s2 nL
      have hai3 := s3 _ _ (s1 _ _ hai)
      tm_at "w"
      refine ⟨⟨_, SqT.of hai3⟩, for_tup (K := K) (a := ai) (xs := natsV p) (fun j σ H2 => ∃ u, σ = [some (.ref a), some (.ref F), some (.int (i : Int)), some (.ref ai), some (.ref L), u] ∧ Same H' H2 ∧ ∃ S, H2 L = some (.lst (natsV S)) ∧ (∀ k, k ∈ S ↔ k = i ∨ ∃ z ∈ p.take j, isA P z k = true) ∧ S.length ≤ 1 + j * 63) ?_ ?_ ?_ ?_⟩
      · exact ⟨w0, rfl, s3, [i], upd_same, (fun k => ⟨(fun h => .inl (List.mem_singleton.mp h)), (fun h => by
          rcases h with h | ⟨z, hz, _⟩
          · exact List.mem_singleton.mpr h
          · simp at hz)⟩), by show 1 ≤ 1 + 0 * 63; decide⟩
      · rintro j σ H2 _ ⟨_, rfl, s4, _⟩
        exact SqT.of (s4 _ _ (s1 _ _ hai))
      · rintro j v σ H2 hv ⟨u0, rfl, s4, S, hL, hS, hSl⟩
        obtain ⟨q, hq, rfl, jl⟩ := natsV_here hv
        have ql := hR i p hp q (List.mem_of_getElem? hq)
        obtain ⟨aq, w, e1, e2, e3, e4, _⟩ := hfl q _ (List.getElem?_eq_getElem (by omega))
        have hl4 := s4 _ _ hl1
        have hq4 := s4 _ _ e2
        have hvq : vs[q]? = some (.ref aq) := by rw [List.getElem?_eq_getElem (by omega), e1]
        tm_at "w"
        intro M nM
        have hL5 : upd H2 M (.lst (natsV w)) L = some (.lst (natsV S)) := (upd_ne (ne_of_none hL nM)).trans hL
        have s5 := Same.new (o := .lst (natsV w)) s4 nM
        tm_at "w"
        refine ⟨_, _, _, _, rfl, rfl, hL5, upd_same, by rw [natsV_len, natsV_len]; have := lt_line (n := 90000) (by decide); omega, ?_⟩
        refine ⟨_, rfl, Same.mut s5 nL0, S ++ w, by rw [upd_same]; unfold natsV; rw [List.map_append], fun k => ?_, by rw [List.length_append]; omega⟩
        rw [List.mem_append, hS, e3, List.take_add_one, hq]
        constructor
        · rintro ((e | ⟨y, hy, e⟩) | e)
          · exact .inl e
          · exact .inr ⟨y, List.mem_append_left _ hy, e⟩
          · exact .inr ⟨q, List.mem_append_right _ (List.mem_singleton.mpr rfl), e⟩
        · rintro (e | ⟨y, hy, e⟩)
          · exact .inl (.inl e)
          · rcases List.mem_append.mp hy with hy | hy
            · exact .inl (.inr ⟨y, hy, e⟩)
            · rw [show y = q from List.mem_singleton.mp hy] at e
              exact .inr e
      · rintro σ H2 ⟨u0, rfl, s4, S, hL, hS, hSl⟩
        rw [natsV_len, List.take_length] at hS
        rw [natsV_len] at hSl
        have hl4 := s4 _ _ hl1
        tm_at "w"
        refine ⟨_, S.map fun z : Nat => (z : Int), rfl, SqL.of (by rw [List.map_map]; exact hL), by rw [List.length_map]; omega, fun Z c hc hks nZ => ?_⟩
        have hSi : ∀ k, k ∈ S ↔ isA P i k = true := fun k => by
          rw [hS, isA_rec hR hp, Bool.or_eq_true, decide_eq_true_eq, List.any_eq_true]
          exact ⟨fun h => h.imp Eq.symm id, fun h => h.imp Eq.symm id⟩
        have hSn : ∀ k ∈ S, k < P.length := fun k hk => by
          have := isA_le hR ((hSi k).mp hk)
          omega
        have hcn : c ≤ P.length := by
          obtain ⟨ks, h1, h2, h3⟩ := hks
          rw [← h2]
          refine int_nodup_le h1 fun k hk => ?_
          obtain ⟨z, hz, e⟩ := List.mem_map.mp ((h3 k).mp hk)
          have := hSn z hz
          omega
        refine ⟨Z, _, _, rfl, upd_same, by omega, fun ns p2 hs hmem hlen2 np => ?_⟩
        obtain ⟨ks, rfl, hks2, hkp⟩ := nats_of hs (n := P.length) fun x hx => by
          have := of_decide_eq_true ((hmem x).mp hx)
          obtain ⟨z, hz, e⟩ := List.mem_map.mp this
          exact ⟨z, hSn z hz, e.symm⟩
        rw [List.length_map] at hlen2
        have s6 := (Same.new (o := .lst ((ks.map fun z : Nat => (z : Int)).map V.int)) (Same.new s4 nZ) np)
        tm_at "w"
        intro u nu
        have s7 := Same.new (o := .tup ((ks.map fun z : Nat => (z : Int)).map V.int)) s6 nu
        have hl7 := s7 _ _ hl1
        have nuF : u ≠ F := fun e => by rw [e, s6 _ _ hl1] at nu; cases nu
        tm_at "w"
        refine ⟨_, _, _, _, rfl, Same.mut (Same.trans s1 s7) nF, vs ++ [.ref u], upd_same, len_app hvl, snoc_at hvl (hfl.tk (TK.trans (Same.tk s7) (TK.mut hl7))) ⟨u, ks, rfl, ?_, fun k => ?_, by omega, nuF⟩⟩
        · rw [upd_ne nuF, upd_same, List.map_map]
          rfl
        · rw [← hSi]
          constructor
          · intro h
            have := of_decide_eq_true ((hmem (k : Int)).mp (List.mem_map.mpr ⟨k, h, rfl⟩))
            obtain ⟨z, hz, e⟩ := List.mem_map.mp this
            rw [show k = z by omega]
            exact hz
          · intro h
            have := (hmem (k : Int)).mpr (decide_eq_true (List.mem_map.mpr ⟨k, h, rfl⟩))
            obtain ⟨z, hz, e⟩ := List.mem_map.mp this
            rw [show k = z by omega]
            exact hz
    · rintro σ H' ⟨x0, y0, z0, w0, rfl, s1, vs, hl1, hvl, hfl⟩
      tm_at "w"
      exact k F _ s1 ⟨nF⟩ ⟨vs, hl1, by omega, hfl⟩
/-! _law_lots -/
def natsD (p : List Nat) : List PyData := p.map fun q : Nat => PyData.int (q : Int)
def rowsD (P : List (List Nat)) : List PyData := P.map fun p => PyData.tuple (natsD p)
theorem nats_lay : ∀ q : List Nat, PyData.canLayAll0 (natsD q) = true
  | [] => rfl
  | n :: r => by
    show (PyData.canLay0 (.int (n : Int)) && PyData.canLayAll0 (natsD r)) = true
    rw [nats_lay r]
    rfl
theorem rows_lay : ∀ P : List (List Nat), PyData.canLayAll0 (rowsD P) = true
  | [] => rfl
  | q :: r => by
    show (PyData.canLay0 (.tuple (natsD q)) && PyData.canLayAll0 (rowsD r)) = true
    rw [rows_lay r]
    show (PyData.canLayAll0 (natsD q) && true) = true
    rw [nats_lay]
    rfl
theorem nats_deep : ∀ q : List Nat, PyData.depthAll (natsD q) ≤ 1
  | [] => by simp [natsD, PyData.depthAll]
  | n :: r => by
    have ih := nats_deep r
    show PyData.depthAll (PyData.int (n : Int) :: natsD r) ≤ 1
    simp only [PyData.depthAll, PyData.depth]
    omega
theorem rows_deep : ∀ P : List (List Nat), PyData.depthAll (rowsD P) ≤ 2
  | [] => by simp [rowsD, PyData.depthAll]
  | q :: r => by
    have ih := rows_deep r
    have iq := nats_deep q
    show PyData.depthAll (PyData.tuple (natsD q) :: rowsD r) ≤ 2
    simp only [PyData.depthAll, PyData.depth]
    omega
theorem nats_shaped (q : List Nat) : SeqAt.shaped (.tuple (natsD q)) = true := by
  have iq := nats_deep q
  have h2 : PyData.depth (.tuple (natsD q)) ≤ 64 := by
    simp only [PyData.depth]
    omega
  exact Bool.and_eq_true_iff.mpr ⟨nats_lay q, decide_eq_true h2⟩
theorem rows_shaped (P : List (List Nat)) : SeqAt.shaped (.tuple (rowsD P)) = true := by
  have iq := rows_deep P
  have h2 : PyData.depth (.tuple (rowsD P)) ≤ 64 := by
    simp only [PyData.depth]
    omega
  exact Bool.and_eq_true_iff.mpr ⟨rows_lay P, decide_eq_true h2⟩
theorem rows_refl (P : List (List Nat)) : PyData.eqv (.tuple (rowsD P)) (.tuple (rowsD P)) = true := SeqAt.eqv_refl _ (rows_lay P)
theorem nats_refl (q : List Nat) : PyData.eqv (.tuple (natsD q)) (.tuple (natsD q)) = true := SeqAt.eqv_refl _ (nats_lay q)
theorem dp_nats {K : PySem.W.Frag} {H : Hp} : ∀ q : List Nat, DpAll K H (natsV q) (natsD q)
  | [] => .nil
  | n :: r => .cons (.int n) (dp_nats r)
theorem dp_tup {K : PySem.W.Frag} {H : Hp} {a : Addr} {q : List Nat} (h : H a = some (.tup (natsV q))) : Dp K H (.ref a) (.tuple (natsD q)) := .tup (SqT.of h) (dp_nats q)
theorem dp_rows {K : PySem.W.Frag} {H : Hp} : ∀ {vs : List V} {P : List (List Nat)}, ParL H vs P → DpAll K H vs (rowsD P)
  | [], [], _ => .nil
  | [], _ :: _, h => nomatch h.1
  | _ :: _, [], h => nomatch h.1
  | v :: vs, p :: P, h => by
    obtain ⟨a, e1, e2⟩ := h.2 0 p rfl
    have ev : v = .ref a := Option.some.inj e1
    subst ev
    exact .cons (dp_tup e2) (dp_rows ⟨by have := h.1; simpa using this, fun j q e => h.2 (j + 1) q (by simpa using e)⟩)
theorem dp_par {K : PySem.W.Frag} {H : Hp} {a : Addr} {P : List (List Nat)} (h : ParAt H a P) : Dp K H (.ref a) (.tuple (rowsD P)) := by
  obtain ⟨vs, e, l⟩ := h
  exact .tup (SqT.of e) (dp_rows l)
/-! ### sorted of data -/
section
open PySem.Spec PyProof.Rows
variable {X : Cx}
def dLe (x y : V × PyData) : Bool := PySem.W.dataLe false (fun b : V × PyData => b.2) x y
def rSortedD (K : PySem.W.Frag) : List V → Hp → VK → Prop := fun vs H Q => ∃ (a : Addr) (xs : List V) (ds : List PyData), vs = [.ref a] ∧ SqL K H a xs ∧ DpAll K H xs ds ∧ PySem.W.AllAlike ds ∧ PySem.W.Sortable ds ∧ (∀ d ∈ ds, d.depth ≤ 60) ∧
  ∀ p, H p = none → Q (.ref p) (upd H p (.lst (((xs.zip ds).mergeSort dLe).map (·.1))))
theorem dpAll_len {K : PySem.W.Frag} {H : Hp} : ∀ {xs : List V} {ds : List PyData}, DpAll K H xs ds → xs.length = ds.length
  | [], [], _ => rfl
  | _ :: _, _ :: _, .cons _ h => by rw [List.length_cons, List.length_cons, dpAll_len h]
theorem zip_snd {α β : Type} : ∀ {xs : List α} {ds : List β}, xs.length = ds.length → (xs.zip ds).map (·.2) = ds
  | [], [], _ => rfl
  | [], _ :: _, h => by cases h
  | _ :: _, [], h => by cases h
  | x :: xs, d :: ds, h => by
    show d :: (xs.zip ds).map (·.2) = d :: ds
    rw [zip_snd (by simpa using h)]
theorem each_vals : ∀ {xs : List V} {us : List Value} {ds : List PyData}, Vals xs us → xs.length = ds.length → PySem.W.EachIs (fun (u : Value) (b : V × PyData) => RelV b.1 u) us (xs.zip ds)
  | [], [], [], .nil, _ => .nil
  | _ :: _, _ :: _, _ :: _, .cons r t, h => .cons r (each_vals t (by simpa using h))
theorem each_reads {h : Heap} : ∀ (ds : List PyData) (xs : List V) (us : List Value) (as : List Addr), xs.length = ds.length → ReadsAll h us ds as → PySem.W.EachIs (fun (u : Value) (b : V × PyData) => ∃ as, Reads h u b.2 as) us (xs.zip ds)
  | [], xs, us, as, e, r => by
    obtain rfl : xs = [] := List.eq_nil_of_length_eq_zero e
    cases r
    exact .nil
  | d :: ds, xs, us, as, e, r => by
    cases xs with
    | nil => cases e
    | cons x xs =>
      cases r with
      | cons r t => exact .cons ⟨_, r⟩ (each_reads ds xs _ _ (by simpa using e) t)
theorem vals_each : ∀ {us : List Value} {bs : List (V × PyData)}, PySem.W.EachIs (fun (u : Value) (b : V × PyData) => RelV b.1 u) us bs → Vals (bs.map (·.1)) us
  | _, _, .nil => .nil
  | _, _, .cons r t => .cons r (vals_each t)
theorem cr_sortedD (hu : X.A.units + 64 < cLine) : CallR X (.builtin "sorted") (rSortedD X.K) := by
  intro pins s σ H vs us Q I r h
  obtain ⟨a, xs, ds, rfl, hs, hd, ha, hk, hdp, q⟩ := h
  obtain ⟨its, rv, hl, hz⟩ := I.list hs
  rw [Vals.ref1 r]
  have len := dpAll_len hd
  have e2 := zip_snd len
  obtain ⟨as, rd⟩ := Dp.readsAll I ds xs its hd rv
  have zl : (xs.zip ds).length = xs.length := by rw [List.length_zip, ← len, Nat.min_self]
  refine PySem.W.sorted_data (vs := its) (enc := fun b : V × PyData => b.2) hl.isList (each_vals rv len) (each_reads ds xs its as len rd) (by rw [e2]; exact ha) (by rw [e2]; exact hk) (by rw [zl]; exact hz) (fun b hb => ?_) fun out hlen ho => ?_
  · have := hdp b.2 (by rw [← e2]; exact List.mem_map.mpr ⟨b, hb, rfl⟩)
    omega
  · obtain ⟨ep, he'⟩ := PyProof.Rows.sortedAll_at s.heap its out.toArray
    have vo := vals_each ho
    have hlen2 : (((xs.zip ds).mergeSort dLe).map (·.1)).length ≤ sizeLine := by
      rw [List.length_map, List.length_mergeSort, zl]
      exact hz
    exact ⟨.ref _, upd H (s.heap.objs.size + 1) (.lst (((xs.zip ds).mergeSort dLe).map (·.1))), I.laid (t' := s.toks) (fun _ _ => PyProof.Rows.sortedAll_old) (Nat.le_succ _) ⟨hlen2, out, ep, vo, he'⟩, rfl, q _ (I.hok.fresh (Nat.le_succ _))⟩
end
/-! all lots of numbers below n, fewer first, then ascending -/
def lotsB : Nat → List (List Nat)
  | 0 => [[]]
  | n + 1 => lotsB n ++ (lotsB n).map (· ++ [n])
theorem lotsB_len : ∀ n, (lotsB n).length = 2 ^ n
  | 0 => rfl
  | n + 1 => by
    show (lotsB n ++ (lotsB n).map (· ++ [n])).length = 2 ^ (n + 1)
    rw [List.length_append, List.length_map, lotsB_len n, Nat.pow_succ]
    omega
theorem asc_split {n : Nat} {q : List Nat} (h : q.Pairwise (· < ·)) (hn : ∀ k ∈ q, k < n + 1) : (∀ k ∈ q, k < n) ∨ ∃ r, q = r ++ [n] ∧ r.Pairwise (· < ·) ∧ ∀ k ∈ r, k < n := by
  by_cases e : q = []
  · exact .inl fun k hk => by rw [e] at hk; cases hk
  · have z := (List.dropLast_concat_getLast e).symm
    rw [z] at h hn
    obtain ⟨h1, _, h3⟩ := List.pairwise_append.mp h
    have hl := hn _ (List.mem_append_right _ (List.mem_singleton.mpr rfl))
    by_cases g : q.getLast e = n
    · refine .inr ⟨q.dropLast, by rw [← g]; exact z, h1, fun k hk => ?_⟩
      have := h3 k hk _ (List.mem_singleton.mpr rfl)
      omega
    · refine .inl fun k hk => ?_
      rw [z] at hk
      rcases List.mem_append.mp hk with hk | hk
      · have := h3 k hk _ (List.mem_singleton.mpr rfl)
        omega
      · rw [List.mem_singleton.mp hk]
        omega
theorem lotsB_mem : ∀ n {q : List Nat}, q ∈ lotsB n ↔ q.Pairwise (· < ·) ∧ ∀ k ∈ q, k < n
  | 0, q => by
    constructor
    · intro h
      rw [List.mem_singleton.mp h]
      exact ⟨List.Pairwise.nil, fun k hk => by cases hk⟩
    · rintro ⟨_, h⟩
      cases q with
      | nil => exact List.mem_singleton.mpr rfl
      | cons k r => exact absurd (h k List.mem_cons_self) (Nat.not_lt_zero _)
  | n + 1, q => by
    show q ∈ lotsB n ++ (lotsB n).map (· ++ [n]) ↔ _
    rw [List.mem_append, List.mem_map]
    constructor
    · rintro (h | ⟨r, h, rfl⟩)
      · obtain ⟨h1, h2⟩ := (lotsB_mem n).mp h
        exact ⟨h1, fun k hk => Nat.lt_succ_of_lt (h2 k hk)⟩
      · obtain ⟨h1, h2⟩ := (lotsB_mem n).mp h
        refine ⟨List.pairwise_append.mpr ⟨h1, List.pairwise_singleton _ _, fun a ha b hb => ?_⟩, fun k hk => ?_⟩
        · rw [List.mem_singleton.mp hb]
          exact h2 a ha
        · rcases List.mem_append.mp hk with hk | hk
          · exact Nat.lt_succ_of_lt (h2 k hk)
          · rw [List.mem_singleton.mp hk]
            exact Nat.lt_succ_self n
    · rintro ⟨h1, h2⟩
      rcases asc_split h1 h2 with h | ⟨r, rfl, h3, h4⟩
      · exact .inl ((lotsB_mem n).mpr ⟨h1, h⟩)
      · exact .inr ⟨r, (lotsB_mem n).mpr ⟨h3, h4⟩, rfl⟩
def le2 (a b : List Nat) : Bool := decide (a.length < b.length ∨ (a.length = b.length ∧ a ≤ b))
theorem le2_trans (a b c : List Nat) (h1 : le2 a b = true) (h2 : le2 b c = true) : le2 a c = true := by
  have h1 := of_decide_eq_true h1
  have h2 := of_decide_eq_true h2
  refine decide_eq_true ?_
  rcases h1 with h1 | ⟨h1, h3⟩ <;> rcases h2 with h2 | ⟨h2, h4⟩
  · exact .inl (by omega)
  · exact .inl (by omega)
  · exact .inl (by omega)
  · exact .inr ⟨by omega, List.le_trans h3 h4⟩
theorem le2_total (a b : List Nat) : (le2 a b || le2 b a) = true := by
  rw [Bool.or_eq_true]
  by_cases h : a.length < b.length
  · exact .inl (decide_eq_true (.inl h))
  · by_cases h2 : b.length < a.length
    · exact .inr (decide_eq_true (.inl h2))
    · rcases List.le_total a b with h3 | h3
      · exact .inl (decide_eq_true (.inr ⟨by omega, h3⟩))
      · exact .inr (decide_eq_true (.inr ⟨by omega, h3⟩))
theorem le2_anti {a b : List Nat} (h1 : le2 a b = true) (h2 : le2 b a = true) : a = b := by
  have h1 := of_decide_eq_true h1
  have h2 := of_decide_eq_true h2
  rcases h1 with h1 | ⟨h1, h3⟩ <;> rcases h2 with h2 | ⟨h2, h4⟩
  · omega
  · omega
  · omega
  · exact List.le_antisymm h3 h4
def sortB (n : Nat) : List (List Nat) := (lotsB n).mergeSort le2
theorem sortB_mem {n : Nat} {q : List Nat} : q ∈ sortB n ↔ q.Pairwise (· < ·) ∧ ∀ k ∈ q, k < n := List.mem_mergeSort.trans (lotsB_mem n)
theorem sortB_sorted (n : Nat) : (sortB n).Pairwise fun a b => le2 a b = true := List.pairwise_mergeSort le2_trans le2_total _
theorem sortB_len (n : Nat) : (sortB n).length = 2 ^ n := by
  unfold sortB
  rw [List.length_mergeSort, lotsB_len]
theorem find_least {α : Type} {le : α → α → Bool} (anti : ∀ a b, le a b = true → le b a = true → a = b) {p : α → Bool} {a : α} : ∀ {l : List α}, (l.Pairwise fun a b => le a b = true) → a ∈ l → p a = true → (∀ b ∈ l, p b = true → le a b = true) → l.find? p = some a
  | [], _, h, _, _ => by cases h
  | b :: r, hs, h, hp, hl => by
    obtain ⟨h1, h2⟩ := List.pairwise_cons.mp hs
    rw [List.find?_cons]
    cases e : p b with
    | true =>
      rcases List.mem_cons.mp h with z | z
      · rw [z]
      · rw [anti a b (hl b List.mem_cons_self e) (h1 a z)]
    | false =>
      rcases List.mem_cons.mp h with z | z
      · rw [z, e] at hp
        cases hp
      · exact find_least anti h2 z hp fun c hc => hl c (List.mem_cons_of_mem _ hc)
/-! the order of the data -/
def lotD (q : List Nat) : PyData := .tuple [.int (q.length : Int), .tuple (natsD q)]
theorem lt_cast : ∀ a b : List Nat, (a.map fun z : Nat => (z : Int)) < (b.map fun z : Nat => (z : Int)) ↔ a < b
  | [], [] => by simp
  | [], y :: ys => by simp
  | x :: xs, [] => by simp
  | x :: xs, y :: ys => by
    rw [List.map_cons, List.map_cons, List.cons_lt_cons_iff, List.cons_lt_cons_iff, lt_cast xs ys]
    constructor
    · rintro (h | ⟨h, h2⟩)
      · exact .inl (by omega)
      · exact .inr ⟨by omega, h2⟩
    · rintro (h | ⟨h, h2⟩)
      · exact .inl (by omega)
      · exact .inr ⟨by omega, h2⟩
theorem natsD_ints (q : List Nat) : natsD q = (q.map fun z : Nat => (z : Int)).map PyData.int := by
  unfold natsD
  rw [List.map_map]
  rfl
theorem alike_nats (a b : List Nat) : PySem.W.alike (.tuple (natsD a)) (.tuple (natsD b)) = true := by
  rw [natsD_ints, natsD_ints]
  show PySem.W.alikeAll _ _ = true
  exact PySem.W.alike_ints _ _
theorem alike_lots (a b : List Nat) : PySem.W.alike (lotD a) (lotD b) = true := by
  show (true && (PySem.W.alike (.tuple (natsD a)) (.tuple (natsD b)) && true)) = true
  rw [alike_nats]
  rfl
theorem lt_nats (a b : List Nat) : PySem.W.dataLt (.tuple (natsD a)) (.tuple (natsD b)) = decide (a < b) := by
  rw [natsD_ints, natsD_ints, PySem.W.dataLt_tuple]
  refine (PySem.W.dataLt_ints _ _).trans (decide_eq_decide.mpr (lt_cast a b))
theorem eqv_nats : ∀ a b : List Nat, PyData.eqvAll (natsD a) (natsD b) = decide (a = b)
  | [], [] => rfl
  | [], _ :: _ => rfl
  | _ :: _, [] => rfl
  | x :: xs, y :: ys => by
    show (PyData.eqv (.int (x : Int)) (.int (y : Int)) && PyData.eqvAll (natsD xs) (natsD ys)) = _
    rw [eqv_nats xs ys]
    show (((x : Int) == (y : Int)) && _) = _
    rw [Bool.eq_iff_iff, Bool.and_eq_true, beq_iff_eq, decide_eq_true_eq, decide_eq_true_eq, List.cons.injEq, Int.ofNat_inj]
theorem le_lots (a b : List Nat) : (!PySem.W.dataLt (lotD b) (lotD a)) = le2 a b := by
  unfold lotD
  rw [PySem.W.dataLt_pair (by simp [PySem.W.alike]) (alike_nats b a), PySem.W.dataLt_int, lt_nats]
  show (!(if ((b.length : Int) == (a.length : Int)) = true then (if PyData.eqvAll (natsD b) (natsD a) = true then false else decide (b < a)) else decide ((b.length : Int) < (a.length : Int)))) = le2 a b
  rw [eqv_nats]
  unfold le2
  by_cases h : b.length = a.length
  · rw [if_pos (by rw [beq_iff_eq]; omega)]
    by_cases e : b = a
    · rw [if_pos (decide_eq_true e), e]
      exact (decide_eq_true (.inr ⟨rfl, List.le_refl a⟩)).symm
    · rw [if_neg (by rw [decide_eq_true_eq]; exact e)]
      by_cases l : b < a
      · rw [decide_eq_true l, decide_eq_false]
        · rfl
        · rintro (g | ⟨_, g⟩)
          · omega
          · exact List.not_lt.mpr g l
      · rw [decide_eq_false l, decide_eq_true]
        · rfl
        · exact .inr ⟨h.symm, List.not_lt.mp l⟩
  · rw [if_neg (by rw [beq_iff_eq]; omega)]
    by_cases l : b.length < a.length
    · rw [decide_eq_true (by omega), decide_eq_false]
      · rfl
      · rintro (g | ⟨g, _⟩) <;> omega
    · rw [decide_eq_false (by omega), decide_eq_true]
      · rfl
      · exact .inl (by omega)
theorem cat_any {K : PySem.W.Frag} {H : Hp} {a b : Addr} {xs ys : List V} {Q : VK} (hx : H a = some (.tup xs)) (hy : H b = some (.tup ys)) (hl : xs.length + ys.length ≤ sizeLine)
    (k : ∀ p H', Same H H' → H' p = some (.tup (xs ++ ys)) → Q (.ref p) H') : rCatA K (.ref a) (.ref b) H Q := by
  refine ⟨a, b, xs, ys, rfl, rfl, SqT.of hx, SqT.of hy, hl, fun e => ?_, fun _ e => ?_, fun _ _ p np => ?_⟩
  · exact k b H (Same.refl H) (by rw [hy, e]; rfl)
  · exact k a H (Same.refl H) (by rw [hx, e, List.append_nil])
  · exact k p _ (Same.new (Same.refl H) np) upd_same
/-- a lot with its size: the pair, the lot -/
structure LotC where
  t : Addr
  a : Addr
  q : List Nat
def LotOk (H : Hp) (c : LotC) : Prop := H c.t = some (.tup [.int (c.q.length : Int), .ref c.a]) ∧ H c.a = some (.tup (natsV c.q))
theorem lots_sorted {n : Nat} {B : List LotC} (h : B.map (·.q) = lotsB n) : (B.mergeSort fun x y => le2 x.q y.q).map (·.q) = sortB n := by
  unfold sortB
  rw [← h]
  exact List.map_mergeSort fun _ _ _ _ => rfl
theorem lots_zip (B : List LotC) : (((B.map fun c => V.ref c.t).zip (B.map fun c => lotD c.q)).mergeSort dLe).map (·.1) = (B.mergeSort fun x y => le2 x.q y.q).map fun c => V.ref c.t := by
  have e : (B.map fun c => V.ref c.t).zip (B.map fun c => lotD c.q) = B.map fun c => (V.ref c.t, lotD c.q) := by
    rw [List.zip_map']
  rw [e, ← List.map_mergeSort (r := fun x y => le2 x.q y.q) fun a _ b _ => ?_, List.map_map]
  · rfl
  · show le2 a.q b.q = PySem.W.dataLe false (fun b : V × PyData => b.2) _ _
    rw [PySem.W.dataLe_eq]
    exact (le_lots a.q b.q).symm
theorem dp_lots {K : PySem.W.Frag} {H : Hp} : ∀ {B : List LotC}, (∀ c ∈ B, LotOk H c) → DpAll K H (B.map fun c => V.ref c.t) (B.map fun c => lotD c.q)
  | [], _ => .nil
  | c :: B, h => .cons (.tup (SqT.of (h c List.mem_cons_self).1) (.cons (.int _) (.cons (dp_tup (h c List.mem_cons_self).2) .nil))) (dp_lots fun d hd => h d (List.mem_cons_of_mem _ hd))
theorem lots_pick {H : Hp} {acc : List V} {n : Nat} (hl : acc.length = (lotsB n).length) (h : ∀ (j : Nat) v, acc[j]? = some v → ∃ c : LotC, v = .ref c.t ∧ LotOk H c ∧ (lotsB n)[j]? = some c.q) : ∃ B : List LotC, acc = B.map (fun c => V.ref c.t) ∧ B.map (·.q) = lotsB n ∧ ∀ c ∈ B, LotOk H c := by
  obtain ⟨f, hf⟩ := Classical.axiomOfChoice (r := fun (j : Nat) (c : LotC) => j < acc.length → acc[j]? = some (.ref c.t) ∧ LotOk H c ∧ (lotsB n)[j]? = some c.q) (fun j => by
    by_cases hj : j < acc.length
    · obtain ⟨c, h1, h2, h3⟩ := h j _ (List.getElem?_eq_getElem hj)
      exact ⟨c, fun _ => ⟨by rw [List.getElem?_eq_getElem hj, h1], h2, h3⟩⟩
    · exact ⟨⟨0, 0, []⟩, fun z => absurd z hj⟩)
  refine ⟨(List.range acc.length).map f, ?_, ?_, fun c hc => ?_⟩
  · refine List.ext_getElem? fun j => ?_
    rw [List.map_map, List.getElem?_map]
    by_cases hj : j < acc.length
    · rw [List.getElem?_range hj]
      exact (hf j hj).1
    · rw [List.getElem?_eq_none (by omega), List.getElem?_eq_none (by rw [List.length_range]; omega)]
      rfl
  · refine List.ext_getElem? fun j => ?_
    rw [List.map_map, List.getElem?_map]
    by_cases hj : j < acc.length
    · rw [List.getElem?_range hj]
      exact (hf j hj).2.2.symm
    · rw [List.getElem?_eq_none (by rw [List.length_range]; omega), List.getElem?_eq_none (by omega)]
      rfl
  · obtain ⟨j, hj, rfl⟩ := List.mem_map.mp hc
    exact (hf j (List.mem_range.mp hj)).2.1
def sp__law_lots (K : PySem.W.Frag) : Sp := fun vs H Q _ => ∃ (n : Nat), vs = [.int n] ∧ n ≤ 9 ∧ ∀ r vs H', Same H H' → H' r = some (.lst vs) → ParL H' vs (sortB n) → Q (.ref r) H'
theorem sc__law_lots : FnScope ["_law_many", "_law_found", "_law_number", "_law_lot", "_law_size"] ["_law_many"] (defScope s__law_lots) := ⟨rfl, rfl, rfl, by decide +kernel, rfl, by decide +kernel, by decide +kernel⟩
theorem ok__law_lots (T : Top P K mg) : FnOk P w K mg base CX0 1 T.f__law_lots T.fd__law_lots ["_law_many"] (sp__law_lots K) := by
  refine T.F__law_lots.ok sc__law_lots (fun vs H Q E h => ?_) (fun cdv A outer s H vs Q E hr h => ?_)
  · obtain ⟨n, rfl, _⟩ := h
    rfl
  · obtain ⟨n, rfl, h9, k⟩ := h
    refine ⟨_, (pss_cons (ps_set (i := 1) sc__law_lots.nd rfl (Or.inl rfl) (pe_lst (pa_cons (pe_tup pa_nil) pa_nil)))
      (pss_cons (ps_for PassesOwn.never rfl (pi_range1 rfl T.z_range (pa_cons (pv 0) pa_nil)) (pg_name (i := 2) sc__law_lots.nd rfl (Or.inr rfl))
      (pss_one (ps_set (i := 1) sc__law_lots.nd rfl (Or.inl rfl) (pe_op op_cat (pv 1) (pe_lc (own := [("_law_lot", 3)]) (g := gName 3) (tt := tYes) rfl sc__law_lots.nd (pi_list (pv 1)) (blkOk_by (own := [("_law_lot", 3)]) (N := ["_law_many", "_law_found", "_law_number", "_law_lot", "_law_size"]) (sc := defScope s__law_lots) (by decide +kernel)) (fun _ _ _ _ _ => (pg_name (i := 3) sc__law_lots.nd rfl (Or.inl rfl))) (fun _ _ _ _ _ => pts_nil) (fun _ _ _ _ _ => (pe_op (r := rCatA K) op_catA (pv 3) (pe_tup (pa_cons (pv 2) pa_nil)))))))))
      (pss_one (ps_ret (pe_lc (own := [("_law_size", 4), ("_law_lot", 3)]) (tt := tYes) rfl sc__law_lots.nd (pi_list (pe_callB (id := "sorted") (cr_sortedD hr.units) (by rfl) T.z_sorted (by decide +kernel) (pa_cons (pe_lc (own := [("_law_lot", 3)]) (g := gName 3) (tt := tYes) rfl sc__law_lots.nd (pi_list (pv 1)) (blkOk_by (own := [("_law_lot", 3)]) (N := ["_law_many", "_law_found", "_law_number", "_law_lot", "_law_size"]) (sc := defScope s__law_lots) (by decide +kernel)) (fun _ _ _ _ _ => (pg_name (i := 3) sc__law_lots.nd rfl (Or.inl rfl))) (fun _ _ _ _ _ => pts_nil) (fun _ _ _ _ _ => (pe_tup (pa_cons (pe_callB (r := rLenQ K) (id := "len") call_len_seq (by rfl) T.z_len (by decide +kernel) (pa_cons (pv 3) pa_nil)) (pa_cons (pv 3) pa_nil))))) pa_nil))) (blkOk_by (own := [("_law_size", 4), ("_law_lot", 3)]) (N := ["_law_many", "_law_found", "_law_number", "_law_lot", "_law_size"]) (sc := defScope s__law_lots) (by decide +kernel)) (fun _ _ _ _ _ => (pg_tupK (K := K) 2 rfl rfl (pgs_cons (pg_name (i := 4) sc__law_lots.nd rfl (Or.inl rfl)) (pgs_cons (pg_name (i := 3) sc__law_lots.nd rfl (Or.inl rfl)) pgs_nil)))) (fun _ _ _ _ _ => pts_nil) (fun _ _ _ _ _ => (pv 3))))))), ?_⟩
    have p9 : ∀ i, i ≤ n → 2 ^ i ≤ 512 := fun i hi => Nat.le_trans (Nat.pow_le_pow_right (by decide) (show i ≤ 9 by omega)) (by decide)
    tm_at "w"
    intro e0 ne0
    obtain ⟨H1, e1, s1, he0⟩ := new_hide (Same.new (o := .tup []) (Same.refl H) ne0)
    rw [e1]
    tm_at "w"
    intro F0 nF0
    obtain ⟨H2, e2, s2, hF0⟩ := new_hide (Same.new (o := .lst [.ref e0]) (Same.refl H1) nF0)
    rw [e2]
    tm_at "w"
    refine for_range (lo := 0) (n := (n : Int).toNat) (fun i σ H' => ∃ F u2 fs, σ = [some (.int (n : Int)), some (.ref F), u2, none, none] ∧ Same H H' ∧ H' F = some (.lst fs) ∧ ParL H' fs (lotsB i)) ⟨F0, _, [.ref e0], rfl, Same.trans s1 s2, hF0, rfl, fun j q e => ?_⟩ ?_ ?_
    · cases j with
      | zero => exact ⟨e0, rfl, by rw [← Option.some.inj e]; exact s2 _ _ he0⟩
      | succ j => simp [lotsB] at e
    · rintro i σ H3 hi ⟨F, u2, fs, rfl, s3, hF, hp⟩
      rw [Int.zero_add]
      have fl := hp.1
      rw [lotsB_len] at fl
      have := p9 i (by omega)
      tm_at "w"
      refine ⟨⟨_, SqL.of hF⟩, fun D nD => lc_listR (fun j v H' => ∃ a q, (lotsB i)[j]? = some q ∧ v = .ref a ∧ H' a = some (.tup (natsV (q ++ [i])))) (fun j v H1 H2 h t => by
        obtain ⟨b, q, h1, h2, h3⟩ := h
        exact ⟨b, q, h1, h2, t _ _ h3⟩) hF nD (by omega) ?_ ?_⟩
      · intro j x H4 N M hx s4 kN
        obtain ⟨a, q, rfl, hq, ha⟩ := ParL.here hp hx
        have ha4 := s4 _ _ ha
        have ql : q.length ≤ i := by
          obtain ⟨h1, h2⟩ := (lotsB_mem i).mp (List.mem_of_getElem? hq)
          exact nodup_le i (h1.imp fun {a b} h => Nat.ne_of_lt h) h2
        tm_at "w"
        intro t nt
        obtain ⟨H5, e5, s5, ht⟩ := new_hide (Same.new (o := .tup [.int (i : Int)]) (Same.refl H4) nt)
        rw [e5]
        tm_at "w"
        refine cat_any (s5 _ _ ha4) ht (Nat.le_trans (show _ ≤ 1000 by rw [natsV_len, List.length_singleton]; omega) (by decide)) fun p H6 s6 hp6 => ?_
        exact kN _ _ (Same.trans s5 s6) ⟨p, q, hq, rfl, by rw [hp6, ← natsV_snoc]⟩
      · intro H4 acc s4 hD hlen hR
        have hF4 := s4 _ _ hF
        refine ⟨_, _, _, _, rfl, rfl, hF4, hD, Nat.le_trans (show fs.length + acc.length ≤ 2000 by omega) (by decide), fun p np => ?_⟩
        have s5 : Same H4 (upd H4 p (.lst (fs ++ acc))) := Same.new (Same.refl H4) np
        have tk := Same.tk (Same.trans s4 s5)
        refine ⟨p, _, fs ++ acc, rfl, Same.trans s3 (Same.trans s4 s5), upd_same, ?_⟩
        have pa : ParL (upd H4 p (.lst (fs ++ acc))) acc ((lotsB i).map (· ++ [i])) := ⟨by rw [List.length_map, lotsB_len]; omega, fun j q e => by
          rw [List.getElem?_map] at e
          have jl : j < acc.length := by
            by_cases g : j < (lotsB i).length
            · rw [lotsB_len] at g
              omega
            · rw [List.getElem?_eq_none (by omega)] at e
              cases e
          obtain ⟨a, q0, h1, h2, h3⟩ := hR j _ (List.getElem?_eq_getElem jl)
          rw [h1] at e
          have e : q0 ++ [i] = q := Option.some.inj e
          rw [e] at h3
          exact ⟨a, by rw [List.getElem?_eq_getElem jl, h2], s5 _ _ h3⟩⟩
        exact ParL.app (hp.tk tk) pa
    · rintro σ H3 ⟨F, u2, fs, rfl, s3, hF, hp⟩
      rw [Int.toNat_natCast] at hp
      have fl := hp.1
      have fl2 := fl
      rw [lotsB_len] at fl2
      have := p9 n (Nat.le_refl n)
      tm_at "w"
      refine ⟨⟨_, SqL.of hF⟩, fun D nD => lc_listR (fun j v H' => ∃ c : LotC, v = .ref c.t ∧ LotOk H' c ∧ (lotsB n)[j]? = some c.q) (fun j v H1 H2 h t => by
        obtain ⟨c, h1, ⟨h2, h3⟩, h4⟩ := h
        exact ⟨c, h1, ⟨t _ _ h2, t _ _ h3⟩, h4⟩) hF nD (by omega) ?_ ?_⟩
      · intro j x H4 N M hx s4 kN
        obtain ⟨a, q, rfl, hq, ha⟩ := ParL.here hp hx
        have ha4 := s4 _ _ ha
        tm_at "w"
        rw [natsV_len]
        intro t nt
        have s5 := Same.new (o := .tup [.int (q.length : Int), .ref a]) (Same.refl H4) nt
        exact kN _ _ s5 ⟨⟨t, a, q⟩, rfl, ⟨upd_same, s5 _ _ ha4⟩, hq⟩
      · intro H4 acc s4 hD hlen hR
        obtain ⟨B, rfl, hB, hok⟩ := lots_pick (by omega) hR
        have bl : B.length = 2 ^ n := by
          have := congrArg List.length hB
          rw [List.length_map, lotsB_len] at this
          exact this
        tm_at "w"
        refine ⟨_, _, _, rfl, SqL.of hD, dp_lots hok, PySem.W.AllAlike.of fun a b => alike_lots a.q b.q, PySem.W.Sortable.tuples fun c => ⟨_, _, rfl⟩, fun d hd => ?_, fun p np => ?_⟩
        · obtain ⟨c, _, rfl⟩ := List.mem_map.mp hd
          have := nats_deep c.q
          unfold lotD
          simp only [PyData.depth, PyData.depthAll]
          omega
        rw [lots_zip]
        have hS := lots_sorted hB
        have hok2 : ∀ c ∈ (B.mergeSort fun x y => le2 x.q y.q), LotOk H4 c := fun c hc => hok c (List.mem_mergeSort.mp hc)
        have sl : (B.mergeSort fun x y => le2 x.q y.q).length = 2 ^ n := by rw [List.length_mergeSort, bl]
        generalize (B.mergeSort fun x y => le2 x.q y.q) = B2 at *
        obtain ⟨H5, e5, s5, hp5⟩ := new_hide (Same.new (o := .lst (B2.map fun c => V.ref c.t)) (Same.refl H4) np)
        rw [e5]
        refine ⟨p, rfl, ⟨_, SqL.of hp5⟩, fun D2 nD2 => lc_listR (fun j v H' => ∃ c : LotC, v = .ref c.a ∧ H' c.a = some (.tup (natsV c.q)) ∧ B2[j]? = some c) (fun j v H1 H2 h t => by
          obtain ⟨c, h1, h2, h3⟩ := h
          exact ⟨c, h1, t _ _ h2, h3⟩) hp5 nD2 (by rw [List.length_map]; omega) ?_ ?_⟩
        · intro j x H6 N M hx s6 kN
          rw [List.getElem?_map] at hx
          cases eb : B2[j]? with
          | none => rw [eb] at hx; cases hx
          | some c =>
            rw [eb] at hx
            obtain rfl := Option.some.inj hx
            obtain ⟨g1, g2⟩ := hok2 c (List.mem_of_getElem? eb)
            have g16 := s6 _ _ (s5 _ _ g1)
            have g26 := s6 _ _ (s5 _ _ g2)
            tm_at "w"
            exact kN _ _ (Same.refl H6) ⟨c, rfl, g26, eb⟩
        · intro H6 acc2 s6 hD6 hl6 hR6
          rw [List.length_map] at hl6
          refine k D2 acc2 _ (Same.trans s3 (Same.trans s4 (Same.trans s5 s6))) hD6 ⟨by rw [sortB_len]; omega, fun j q e => ?_⟩
          rw [← hS, List.getElem?_map] at e
          have jl : j < acc2.length := by
            by_cases g : j < B2.length
            · omega
            · rw [List.getElem?_eq_none (by omega)] at e
              cases e
          obtain ⟨c, h1, h2, h3⟩ := hR6 j _ (List.getElem?_eq_getElem jl)
          rw [h3] at e
          have e : c.q = q := Option.some.inj e
          rw [e] at h2
          exact ⟨c.a, by rw [List.getElem?_eq_getElem jl, h1], h2⟩
/-! _law_brought -/
theorem nats_le {m : Nat} : ∀ {xs : List V}, (∀ v ∈ xs, ∃ x : Nat, v = .int (x : Int) ∧ x ≤ m) → ∃ F : List Nat, xs = natsV F ∧ ∀ x ∈ F, x ≤ m
  | [], _ => ⟨[], rfl, fun x hx => by cases hx⟩
  | v :: r, h => by
    obtain ⟨x, rfl, hx⟩ := h v List.mem_cons_self
    obtain ⟨F, rfl, hF⟩ := nats_le fun v hv => h v (List.mem_cons_of_mem _ hv)
    exact ⟨x :: F, rfl, fun y hy => by
      rcases List.mem_cons.mp hy with e | e
      · rw [e]
        exact hx
      · exact hF y e⟩
def sp__law_brought (K : PySem.W.Frag) : Sp := fun vs H Q _ => ∃ (τ : Tp) (n m : Nat), vs = [.ref τ.t, .int n, .int m] ∧ Tape τ H ∧ n ≤ 400 ∧ m ≤ 100 ∧
  ∀ a F H', Mv τ H H' → H' a = some (.tup (natsV F)) → F.length = n → (∀ x ∈ F, x ≤ m) → Q (.ref a) H'
theorem sc__law_brought : FnScope ["_law_hand_here", "_law_many", "_law_most", "_law_kind"] ["_law_hand_here", "_law_many", "_law_most"] (defScope s__law_brought) := ⟨rfl, rfl, rfl, by decide +kernel, rfl, by decide +kernel, by decide +kernel⟩
theorem ok__law_brought (T : Top P K mg) : FnOk P w K mg base CX0 2 T.f__law_brought T.fd__law_brought ["_law_hand_here", "_law_many", "_law_most"] (sp__law_brought K) := by
  have G__law_draw := ok__law_draw (P := P) (w := w) (base := base) T
  refine T.F__law_brought.ok sc__law_brought (fun vs H Q E h => ?_) (fun cdv A outer s H vs Q E hr h => ?_)
  · obtain ⟨τ, n, m, rfl, _⟩ := h
    rfl
  · obtain ⟨τ, n, m, rfl, t0, hn, hm, k⟩ := h
    refine ⟨_, (pss_one (ps_ret (pe_callTy (r := rTupQ K) (T := "tuple") call_tuple_of (by rfl) T.z_tuple (by decide +kernel) (pa_cons (pe_lc (own := [("_law_kind", 3)]) (g := gName 3) (tt := tYes) rfl sc__law_brought.nd (pi_range1 rfl T.z_range (pa_cons (pv 1) pa_nil)) (blkOk_by (own := [("_law_kind", 3)]) (N := ["_law_hand_here", "_law_many", "_law_most", "_law_kind"]) (sc := defScope s__law_brought) (by decide +kernel)) (fun _ _ _ _ _ => (pg_name (i := 3) sc__law_brought.nd rfl (Or.inl rfl))) (fun _ _ _ _ _ => pts_nil) (fun _ _ _ _ _ => (pe_ifExp (pt_cmpR op_eq (pe_call G__law_draw hr (by rfl) T.g__law_draw T.F__law_draw.kp T.b__law_draw .nil pass0 (pa_cons (pv 0) (pa_cons pe_int pa_nil))) pe_int (nomark _)) pe_int (pe_call G__law_draw hr (by rfl) T.g__law_draw T.F__law_draw.kp T.b__law_draw .nil pass0 (pa_cons (pv 0) (pa_cons (pe_op op_add (pv 2) pe_int) pa_nil)))))) pa_nil)))), ?_⟩
    tm_at "w"
    intro D nD
    refine lc_rangeM (fun _ v _ => ∃ x : Nat, v = .int (x : Int) ∧ x ≤ m) (fun _ _ _ _ h _ => h) t0 nD (by omega) ?_ ?_
    · intro i H1 N M hi m1 kN
      tm_at "w"
      refine ⟨τ, _, rfl, m1.now, by decide, by decide, fun r H2 m2 r0 r1 => ?_⟩
      tm_at "w"
      refine iteI (fun z => ?_) (fun z => ?_)
      · tm_at "w"
        exact kN _ _ m2 ⟨0, rfl, Nat.zero_le _⟩
      · tm_at "w"
        refine ⟨τ, _, rfl, m2.now, by omega, by omega, fun r2 H3 m3 r20 r21 => ?_⟩
        exact kN _ _ (m2.trans m3) ⟨r2.toNat, by rw [show ((r2.toNat : Nat) : Int) = r2 by omega], by omega⟩
    · intro H1 acc m1 hD hl hR
      obtain ⟨F, rfl, hF⟩ := nats_le (m := m) fun v hv => by
        obtain ⟨j, hj, e⟩ := List.mem_iff_getElem.mp hv
        exact hR j v (by rw [List.getElem?_eq_getElem hj, e])
      rw [natsV_len] at hl
      tm_at "w"
      intro t nt
      exact k t F _ (m1.new nt) upd_same (by omega) hF
/-! _law_pairs -/
theorem inV_nats (k : Nat) (q : List Nat) : inV (.int (k : Int)) (natsV q) = decide (k ∈ q) := by
  have e : natsV q = (q.map fun z : Nat => (z : Int)).map V.int := by unfold natsV; rw [List.map_map]; rfl
  rw [e, inV_int]
  refine decide_eq_decide.mpr ⟨fun h => ?_, fun h => List.mem_map.mpr ⟨k, h, rfl⟩⟩
  obtain ⟨z, hz, ez⟩ := List.mem_map.mp h
  rw [show k = z by omega]
  exact hz
theorem flat_nats (q : List Nat) : (natsV q).all flatV = true := List.all_eq_true.mpr fun v hv => by
  unfold natsV at hv
  obtain ⟨n, _, rfl⟩ := List.mem_map.mp hv
  rfl
theorem com_from (P : List (List Nat)) (a b : Nat) : comB P a b = ((List.range (P.length - (b + 1))).map fun j => isA P (b + 1 + j) a && isA P (b + 1 + j) b).any id := by
  unfold comB
  rw [Bool.eq_iff_iff, List.any_eq_true, List.any_eq_true]
  constructor
  · rintro ⟨x, hx, e⟩
    have hx := List.mem_range.mp hx
    rw [Bool.and_eq_true, decide_eq_true_eq] at e
    refine ⟨_, List.mem_map.mpr ⟨x - (b + 1), List.mem_range.mpr (by omega), rfl⟩, ?_⟩
    rw [show b + 1 + (x - (b + 1)) = x by omega]
    exact e.2
  · rintro ⟨y, hy, e⟩
    obtain ⟨j, hj, rfl⟩ := List.mem_map.mp hy
    have hj := List.mem_range.mp hj
    refine ⟨b + 1 + j, List.mem_range.mpr (by omega), ?_⟩
    rw [decide_eq_true (show b < b + 1 + j by omega), Bool.true_and]
    exact e
theorem dec_mem {P : List (List Nat)} {x k : Nat} {q : List Nat} (h : ∀ k, k ∈ q ↔ isA P x k = true) : decide (k ∈ q) = isA P x k := by
  rw [Bool.eq_iff_iff, decide_eq_true_eq]
  exact h k
def sp__law_pairs (K : PySem.W.Frag) : Sp := fun vs H Q _ => ∃ (s a : Addr) (P : List (List Nat)) (F : List Nat), vs = [.ref s, .ref a] ∧ ShAt H s P ∧ OkP P ∧ P.length ≤ 300 ∧ H a = some (.tup (natsV F)) ∧ F.length = P.length ∧
  ∀ l vs H', Same H H' → H l = none → H' l = some (.lst vs) → ParL H' vs (quaB P F) → Q (.ref l) H'
theorem sc__law_pairs : FnScope ["_law_sheet_here", "_law_brought_here", "_law_many", "_law_found", "_law_a", "_law_b", "_law_x"] ["_law_sheet_here", "_law_brought_here"] (defScope s__law_pairs) := ⟨rfl, rfl, rfl, by decide +kernel, rfl, by decide +kernel, by decide +kernel⟩
theorem ok__law_pairs (T : Top P K mg) : FnOk P w K mg base CX0 1 T.f__law_pairs T.fd__law_pairs ["_law_sheet_here", "_law_brought_here"] (sp__law_pairs K) := by
  refine T.F__law_pairs.ok sc__law_pairs (fun vs H Q E h => ?_) (fun cdv A outer s H vs Q E hr h => ?_)
  · obtain ⟨s, a, P, F, rfl, _⟩ := h
    rfl
  · obtain ⟨s, a, P, F, rfl, hs, okP, few, ha, fl, k⟩ := h
    refine ⟨_, (pss_cons (ps_set (i := 2) sc__law_pairs.nd rfl (Or.inl rfl) (pe_callB (r := rLenQ K) (id := "len") call_len_seq (by rfl) T.z_len (by decide +kernel) (pa_cons (pv 0) pa_nil)))
      (pss_cons (ps_set (i := 3) sc__law_pairs.nd rfl (Or.inl rfl) (pe_lst pa_nil))
      (pss_cons (ps_for PassesOwn.never rfl (pi_range1 rfl T.z_range (pa_cons (pv 2) pa_nil)) (pg_name (i := 4) sc__law_pairs.nd rfl (Or.inr rfl))
      (pss_one (ps_for PassesOwn.never rfl (pi_range2 rfl T.z_range (pa_cons (pe_op op_add (pv 4) pe_int) (pa_cons (pv 2) pa_nil))) (pg_name (i := 5) sc__law_pairs.nd rfl (Or.inr rfl))
      (pss_one (ps_if (PW.pt (pw_and (pt_cmpR op_gt (pe_ix (r := rIxT K) ix_tup (pv 1) (pv 4) (fun _ _ => rfl)) pe_int (nomark _)) (pw_and (pt_cmpR op_gt (pe_ix (r := rIxT K) ix_tup (pv 1) (pv 5) (fun _ _ => rfl)) pe_int (nomark _)) (pw_and1 (pt_cmpR op_notIn_seq (pv 4) (pe_ix (r := rIxL K) ix_list (pv 0) (pv 5) (fun _ _ => rfl)) (by rfl)))))) (pss_one (ps_if (pt_val (pe_callB (r := rAny K) (id := "any") (cr_any rfl) (by rfl) T.z_any (by decide +kernel) (pa_cons (pe_lc (own := [("_law_x", 6)]) (g := gName 6) (tt := tYes) rfl sc__law_pairs.nd (pi_range2 rfl T.z_range (pa_cons (pe_op op_add (pv 5) pe_int) (pa_cons (pv 2) pa_nil))) (blkOk_by (own := [("_law_x", 6)]) (N := ["_law_sheet_here", "_law_brought_here", "_law_many", "_law_found", "_law_a", "_law_b", "_law_x"]) (sc := defScope s__law_pairs) (by decide +kernel)) (fun _ _ _ _ _ => (pg_name (i := 6) sc__law_pairs.nd rfl (Or.inl rfl))) (fun _ _ _ _ _ => pts_nil) (fun _ _ _ _ _ => (pe_and (pe_cmpR (r := rIn K false) op_in_seq (pv 4) (pe_ix (r := rIxL K) ix_list (pv 0) (pv 6) (fun _ _ => rfl)) (by rfl)) (pe_one (pe_cmpR (r := rIn K false) op_in_seq (pv 5) (pe_ix (r := rIxL K) ix_list (pv 0) (pv 6) (fun _ _ => rfl)) (by rfl)))))) pa_nil))) (pss_one (ps_expr (pe_bm PySem.F.plainAttrs_list PySem.F.slot_list_append PySem.F.type_list_append mt_append (pv 3) (pa_cons (pe_tup (pa_cons (pv 4) (pa_cons (pv 5) pa_nil))) pa_nil)))) pss_nil)) pss_nil)))))
      (pss_one (ps_ret (pv 3)))))), ?_⟩
    obtain ⟨svs, hsl, hsn, _⟩ := id hs
    have est : L2.start ["_law_sheet_here", "_law_brought_here", "_law_many", "_law_found", "_law_a", "_law_b", "_law_x"] [V.ref s, V.ref a] = ([some (.ref s), some (.ref a), none, none, none, none, none] : L2.St) := rfl
    rw [est]
    have fv := natsV_len F
    have fat : ∀ x, x < P.length → (natsV F)[x]? = some (.int ((F.getD x 0 : Nat) : Int)) := fun x hx => natsV_getD (by omega)
    tm_at "w"
    intro f nf
    obtain ⟨H1, e1, s1, hf⟩ := new_hide (Same.new (o := .lst []) (Same.refl H) nf)
    rw [e1]
    simp only [List.set_cons_zero, List.set_cons_succ]
    tm_at "w"
    refine for_range (lo := 0) (n := ((svs.length : Int)).toNat) (fun i σ H' => ∃ (v4 v5 v6 : Option V) (fs : List V), (Same H H' ∧ H' f = some (.lst fs) ∧ ParL H' fs ((List.range i).flatMap fun a => rowQ P F a P.length)) ∧ σ = [some (.ref s), some (.ref a), some (.int (svs.length : Int)), some (.ref f), v4, v5, v6]) ?_ ?_ ?_
    · exact ⟨_, _, _, [], ⟨s1, hf, ParL.nil⟩, rfl⟩
    · rintro i σ H2 hi ⟨v4, v5, v6, fs, ⟨s2, hf2, hp2⟩, rfl⟩
      rw [Int.zero_add]
      have il : i < P.length := by omega
      tm_at "w"
      refine ⟨_, _, rfl, ⟨by omega, by omega, by omega, by omega⟩, ?_⟩
      refine for_range (lo := (i : Int) + 1) (n := ((svs.length : Int) - ((i : Int) + 1)).toNat) (fun j σ H' => ∃ (v5 v6 : Option V) (fs : List V), (Same H H' ∧ H' f = some (.lst fs) ∧ ParL H' fs (((List.range i).flatMap fun a => rowQ P F a P.length) ++ rowQ P F i (i + 1 + j))) ∧ σ = [some (.ref s), some (.ref a), some (.int (svs.length : Int)), some (.ref f), some (.int (i : Int)), v5, v6]) ?_ ?_ ?_
      · exact ⟨v5, v6, fs, ⟨s2, hf2, by rw [rowQ_begin (by omega), List.append_nil]; exact hp2⟩, rfl⟩
      · rintro j σ H3 hj ⟨v5, v6, fs, ⟨s3, hf3, hp3⟩, rfl⟩
        have eb : (i : Int) + 1 + (j : Int) = ((i + 1 + j : Nat) : Int) := by omega
        rw [eb]
        have bl : i + 1 + j < P.length := by omega
        have ib : i < i + 1 + j := by omega
        have rs := rowQ_succ P F i (i + 1 + j)
        rw [show i + 1 + j + 1 = i + 1 + (j + 1) by omega] at rs
        generalize i + 1 + j = b at *
        have ha3 := s3 _ _ ha
        have fi := fat i il
        have fb := fat b bl
        have hq : quP P F i b = (posB F i && (posB F b && (!isA P b i && comB P i b))) := by
          unfold quP
          rw [decide_eq_true ib, Bool.true_and]
        have pi : posB F i = decide (0 < F.getD i 0) := rfl
        have pb : posB F b = decide (0 < F.getD b 0) := rfl
        have nop : quP P F i b = false → ∀ (v6 : Option V) J, Same H3 J → ∃ (v5 v6' : Option V) (fs : List V), (Same H J ∧ J f = some (.lst fs) ∧ ParL J fs (((List.range i).flatMap fun a => rowQ P F a P.length) ++ rowQ P F i (i + 1 + (j + 1)))) ∧ [some (.ref s), some (.ref a), some (.int (svs.length : Int)), some (.ref f), some (.int (i : Int)), some (.int (b : Int)), v6] = [some (.ref s), some (.ref a), some (.int (svs.length : Int)), some (.ref f), some (.int (i : Int)), v5, v6'] := fun e v6 J sJ => by
          rw [e, if_neg (by decide), List.append_nil] at rs
          exact ⟨_, v6, fs, ⟨Same.trans s3 sJ, sJ _ _ hf3, by rw [rs]; exact hp3.tk (Same.tk sJ)⟩, rfl⟩
        simp only [List.set_cons_zero, List.set_cons_succ]
        tm_at "w"
        refine iteD (fun z1 => ?_) (fun z1 => ?_)
        rotate_left
        · refine nop ?_ _ _ (Same.refl H3)
          rw [hq, pi, decide_eq_false (by omega), Bool.false_and]
        tm_at "w"
        refine iteD (fun z2 => ?_) (fun z2 => ?_)
        rotate_left
        · refine nop ?_ _ _ (Same.refl H3)
          rw [hq, pb, decide_eq_false (by omega), Bool.false_and, Bool.and_false]
        rw [pi, decide_eq_true (by omega), pb, decide_eq_true (by omega), Bool.true_and, Bool.true_and] at hq
        obtain ⟨us, c, q, g1, g2, g3, gq, gl⟩ := (hs.same s3).at bl
        tm_at "w"
        refine ⟨flat_nats _, ?_⟩
        show ∃ k, V.bl (!inV (.int (i : Int)) (natsV q)) = V.bl k ∧ _
        rw [inV_nats, dec_mem gq]
        cases c1 : isA P b i with
        | true =>
          rw [c1] at hq
          tm_at "w"
          exact nop hq _ _ (Same.refl H3)
        | false =>
          rw [c1, Bool.not_false, Bool.true_and] at hq
          tm_at "w"
          refine ⟨_, _, rfl, ⟨by omega, by omega, by omega, by omega⟩, ?_⟩
          intro D nD
          refine lc_rangeF (fun j => some (V.bl (isA P (b + 1 + j) i && isA P (b + 1 + j) b))) nD (by omega) ?_ ?_
          · intro j2 J N M hj2 sJ kN kM
            have ex : (b : Int) + 1 + (j2 : Int) = ((b + 1 + j2 : Nat) : Int) := by omega
            rw [ex]
            have xl : b + 1 + j2 < P.length := by omega
            have kN := kN _ J rfl (Same.refl J)
            generalize b + 1 + j2 = x at *
            obtain ⟨us2, c2, q2, g1, g2, g3, gq2, gl2⟩ := ((hs.same s3).same sJ).at xl
            tm_at "w"
            refine ⟨flat_nats _, ?_⟩
            show ∃ k, V.bl (inV (.int (i : Int)) (natsV q2)) = V.bl k ∧ _
            rw [inV_nats, dec_mem gq2]
            cases c3 : isA P x i with
            | false =>
              rw [c3] at kN
              tm_at "w"
              exact kN
            | true =>
              rw [c3, Bool.true_and] at kN
              tm_at "w"
              refine ⟨flat_nats _, ?_⟩
              show N (V.bl (inV (.int (b : Int)) (natsV q2))) J
              rw [inV_nats, dec_mem gq2]
              exact kN
          intro J sJ hD
          have el : (List.range ((svs.length : Int) - ((b : Int) + 1)).toNat).filterMap (fun j => some (V.bl (isA P (b + 1 + j) i && isA P (b + 1 + j) b))) = ((List.range (P.length - (b + 1))).map fun j => isA P (b + 1 + j) i && isA P (b + 1 + j) b).map V.bl := by
            rw [show ((svs.length : Int) - ((b : Int) + 1)).toNat = P.length - (b + 1) by omega, List.filterMap_eq_map', List.map_map]
            rfl
          rw [el] at hD
          tm_at "w"
          refine ⟨_, _, rfl, SqL.of hD, ?_⟩
          rw [← com_from]
          cases c4 : comB P i b with
          | false =>
            rw [c4] at hq
            tm_at "w"
            exact nop hq _ _ sJ
          | true =>
            rw [c4] at hq
            tm_at "w"
            intro t nt
            obtain ⟨J2, e2, s2', ht⟩ := new_hide (Same.new (o := .tup [.int (i : Int), .int (b : Int)]) (Same.refl J) nt)
            rw [e2]
            have hf5 := s2' _ _ (sJ _ _ hf3)
            have sz := hp3.1
            have bound := flat_len (l := List.range i) (f := fun a => rowQ P F a P.length) (m := P.length) fun x _ => rowQ_len P F x P.length
            have b2 : (List.range i).length * P.length ≤ 300 * 300 := Nat.mul_le_mul (by rw [List.length_range]; omega) few
            have rl := rowQ_len P F i b
            rw [List.length_append] at sz
            tm_at "w"
            rw [hq, if_pos rfl] at rs
            have tk : TK J2 (upd J2 f (.lst (fs ++ [.ref t]))) := TK.mut hf5
            refine ⟨_, v6, fs ++ [.ref t], ⟨Same.mut (Same.trans s3 (Same.trans sJ s2')) nf, upd_same, ?_⟩, rfl⟩
            rw [rs, ← List.append_assoc]
            exact ((hp3.tk (Same.tk (Same.trans sJ s2'))).tk tk).snoc (tk _ _ ht)
      · rintro σ H3 ⟨v5, v6, fs, ⟨s3, hf3, hp3⟩, rfl⟩
        rw [show i + 1 + ((svs.length : Int) - ((i : Int) + 1)).toNat = P.length by omega] at hp3
        refine ⟨_, v5, v6, fs, ⟨s3, hf3, ?_⟩, rfl⟩
        rw [List.range_succ, List.flatMap_append, List.flatMap_singleton]
        exact hp3
    · rintro σ H2 ⟨v4, v5, v6, fs, ⟨s2, hf2, hp2⟩, rfl⟩
      rw [show ((svs.length : Int)).toNat = P.length by omega] at hp2
      tm_at "w"
      exact k f fs H2 s2 nf hf2 hp2
/-! _law_graph -/
/-! ### a tuple times 1 is the tuple itself -/
section
open PySem.Spec PyProof.Rows
variable {X : Cx}
theorem tuple_mul1 (l : Addr) (items : Array Value) (n : Nat) (dd : Option Addr) (sl : Array (Option Value)) (u : Tok) :
    Meets (Builtin.«tuple.__mul__» ⟨[.ref l, .int 1 u], []⟩) (fun _ R s => s.heap.get? l = some { cls := .type "tuple", dict := dd, data := .seq items n, slots := sl } ∧ R (.ok (.ret (Value.ref l))) s) :=
  .of_wp fun prog w A R s h => by
    obtain ⟨hp, g, d, tk, os⟩ := s
    obtain ⟨hl, h⟩ := h
    have f1 := AutoSeq1.idx_int
    have c0 : (decide ((1 : Int) < -(2 ^ 63)) || decide ((1 : Int) ≥ 2 ^ 63)) = false := by decide
    have c1 : (items.isEmpty || (1 : Int) == 1) = true := by rw [Bool.or_eq_true]; exact .inr rfl
    wp_walk using wpAny_loadPart' hl
    repeat (first
      | (refine wpAny_ite_false (decide_eq_false (by rw [c0]; exact Bool.false_ne_true)) ?_; wp_walk using wpAny_loadPart' hl)
      | (refine wpAny_ite_true (decide_eq_true (by rw [c1])) ?_; wp_walk using wpAny_loadPart' hl))
    exact ⟨_, rfl, h⟩
def rRepT1 (K : PySem.W.Frag) : R2 := fun x y H Q => ∃ l k xs, x = .ref l ∧ y = .int k ∧ ((k = 1 ∧ SqT K H l xs ∧ Q (.ref l) H) ∨ (SqT K H l xs ∧ xs ≠ [] ∧ 2 ≤ k ∧ k ≤ 1000 ∧ xs.length ≤ 1000 ∧ ∀ p, H p = none → Q (.ref p) (upd H p (.tup (List.replicate k.toNat xs).flatten))))
theorem op_repT1 : OpR X (binaryOp .Mult) (rRepT1 X.K) := by
  intro pins s σ H x y v u Q I rx ry h
  obtain ⟨l, k, xs, rfl, rfl, ⟨rfl, hT, q⟩ | ⟨hT, h1, h2, h3, h4, q⟩⟩ := h
  · cases rx
    obtain ⟨t, rfl⟩ := ry
    obtain ⟨its, r, ⟨⟨cls, dd, data, sl⟩, ho, hc, n, hd⟩, hs⟩ := I.tuple hT
    simp only at hc hd
    subst hc hd
    exact wpAny_binaryOp_repeat_ref (T := "tuple") (U := "int") (by decide) ⟨_, ho, rfl⟩ (fun s' => typeIs_int s' 1 t) noFill_tuple_mul PySem.F.fills_int_mul PySem.F.slot_int_rmul repeat_tuple PySem.F.slot_int_index.lookup
      (call_meets PySem.F.slot_int_rmul (typeIs_int s 1 t) PySem.F.entry_int_rmul (PySem.F.args_int_rmul_2 _ _) (int_rmul_tuple 1 t l its.toArray n dd sl)
        ⟨ho, rfl, ⟨_, ho, rfl⟩, call_meets PySem.F.slot_tuple_mul ⟨_, ho, rfl⟩ PySem.F.entry_tuple_mul (PySem.F.args_tuple_mul_2 _ _) (tuple_mul1 l its.toArray n dd sl t) ⟨ho, .ref l, H, I, rfl, q⟩⟩)
  · exact op_repT pins s σ H _ _ v u Q I rx ry ⟨l, k, xs, rfl, rfl, hT, h1, h2, h3, h4, q⟩
end
theorem isA_more {P : List (List Nat)} (hR : RtP P) {q : List Nat} (hq : ∀ z ∈ q, z < P.length) {k : Nat} (hk : k < P.length) : isA (P ++ [q]) P.length k = q.any fun z => isA P z k := by
  have h2 : RtP (P ++ [q]) := hR.snoc hq
  rw [isA_rec h2 (show (P ++ [q])[P.length]? = some q by rw [List.getElem?_append_right (Nat.le_refl _), Nat.sub_self]; rfl), decide_eq_false (show ¬ P.length = k by omega), Bool.false_or]
  have key : ∀ z ∈ q, isA (P ++ [q]) z k = isA P z k := fun z hz => by
    have := isA_take (P := P ++ [q]) (hq z hz) k
    rw [List.take_append_of_le_length (Nat.le_refl _), List.take_length] at this
    exact this.symm
  rw [Bool.eq_iff_iff, List.any_eq_true, List.any_eq_true]
  constructor
  · rintro ⟨z, hz, e⟩
    exact ⟨z, hz, by rw [← key z hz]; exact e⟩
  · rintro ⟨z, hz, e⟩
    exact ⟨z, hz, by rw [key z hz]; exact e⟩
def Qu (P : List (List Nat)) (F : List Nat) (a b : Nat) : Prop := posB F a = true ∧ posB F b = true ∧ isA P a b = false ∧ isA P b a = false ∧ ∃ x, x < P.length ∧ isA P x a = true ∧ isA P x b = true
theorem Qu.symm {P : List (List Nat)} {F : List Nat} {a b : Nat} (h : Qu P F a b) : Qu P F b a := by
  obtain ⟨h1, h2, h3, h4, x, h5, h6, h7⟩ := h
  exact ⟨h2, h1, h4, h3, x, h5, h7, h6⟩
theorem quP_iff {P : List (List Nat)} (h : OkP P) {F : List Nat} {a b : Nat} (hb : b < P.length) : quP P F a b = true ↔ a < b ∧ Qu P F a b := by
  unfold quP
  rw [Bool.and_eq_true, Bool.and_eq_true, Bool.and_eq_true, Bool.and_eq_true, decide_eq_true_eq, Bool.not_eq_true']
  constructor
  · rintro ⟨ab, pa, pb, nb, c⟩
    obtain ⟨x, hx, e⟩ := List.any_eq_true.mp c
    rw [Bool.and_eq_true, Bool.and_eq_true, decide_eq_true_eq] at e
    exact ⟨ab, pa, pb, isA_later h ab hb, nb, x, List.mem_range.mp hx, e.2.1, e.2.2⟩
  · rintro ⟨ab, pa, pb, _, nb, x, hx, xa, xb⟩
    refine ⟨ab, pa, pb, nb, List.any_eq_true.mpr ⟨x, List.mem_range.mpr hx, ?_⟩⟩
    have := isA_le h.rt xb
    have ne : x ≠ b := fun e => by
      rw [e, nb] at xa
      cases xa
    rw [decide_eq_true (show b < x by omega), xa, xb]
    rfl
theorem mem_qua {P : List (List Nat)} (h : OkP P) {F : List Nat} {q : List Nat} : q ∈ quaB P F ↔ ∃ a b, q = [a, b] ∧ a < b ∧ b < P.length ∧ Qu P F a b := by
  unfold quaB rowQ
  rw [List.mem_flatMap]
  constructor
  · rintro ⟨a, ha, hq⟩
    obtain ⟨b, hb, rfl⟩ := List.mem_map.mp hq
    obtain ⟨hb, e⟩ := List.mem_filter.mp hb
    have hb := List.mem_range.mp hb
    obtain ⟨ab, qu⟩ := (quP_iff h hb).mp e
    exact ⟨a, b, rfl, ab, hb, qu⟩
  · rintro ⟨a, b, rfl, ab, hb, qu⟩
    exact ⟨a, List.mem_range.mpr (by omega), List.mem_map.mpr ⟨b, List.mem_filter.mpr ⟨List.mem_range.mpr hb, (quP_iff h hb).mpr ⟨ab, qu⟩⟩, rfl⟩⟩
theorem pair_lt {a b c d : Nat} : ([a, b] : List Nat) < [c, d] ↔ a < c ∨ (a = c ∧ b < d) := by
  rw [List.cons_lt_cons_iff, List.cons_lt_cons_iff]
  constructor
  · rintro (h | ⟨h1, h | ⟨_, h⟩⟩)
    · exact .inl h
    · exact .inr ⟨h1, h⟩
    · exact absurd h (List.lt_irrefl _)
  · rintro (h | ⟨h1, h⟩)
    · exact .inl h
    · exact .inr ⟨h1, .inl h⟩
theorem quaB_sorted (P : List (List Nat)) (F : List Nat) : (quaB P F).Pairwise (· < ·) := by
  unfold quaB
  rw [List.pairwise_flatMap]
  refine ⟨fun a _ => ?_, ?_⟩
  · unfold rowQ
    rw [List.pairwise_map]
    exact (List.Pairwise.filter _ List.pairwise_lt_range).imp fun {b c} h => pair_lt.mpr (.inr ⟨rfl, h⟩)
  · refine List.pairwise_lt_range.imp fun {a c} h x hx y hy => ?_
    unfold rowQ at hx hy
    obtain ⟨b, _, rfl⟩ := List.mem_map.mp hx
    obtain ⟨d, _, rfl⟩ := List.mem_map.mp hy
    exact pair_lt.mpr (.inl h)
theorem ne_of_ltL {x y : List Nat} (h : x < y) : x ≠ y := fun e => by
  rw [e] at h
  exact List.lt_irrefl _ h
theorem eq_sorted {A B : List (List Nat)} (ha : A.Pairwise (· < ·)) (hb : B.Pairwise (· < ·)) (h : ∀ q, q ∈ A ↔ q ∈ B) : A = B := by
  have p : A.Perm B := (List.perm_ext_iff_of_nodup (ha.imp fun {a b} h => ne_of_ltL h) (hb.imp fun {a b} h => ne_of_ltL h)).mpr h
  exact List.Perm.eq_of_pairwise (le := (· < ·)) (fun a b _ _ h1 h2 => absurd h2 (List.lt_asymm h1)) ha hb p
theorem posB_app {F : List Nat} {v x : Nat} (h : x < F.length) : posB (F ++ [v]) x = posB F x := by
  unfold posB
  rw [List.getD_eq_getElem?_getD, List.getElem?_append_left h, ← List.getD_eq_getElem?_getD]
theorem quaB_more {P : List (List Nat)} (h : OkP P) (h' : OkP (P ++ [[P.length - 1]])) {F : List Nat} (hF : F.length = P.length) (hn : 0 < P.length) : quaB (P ++ [[P.length - 1]]) (F ++ [1]) = quaB P F := by
  refine eq_sorted (quaB_sorted _ _) (quaB_sorted _ _) fun q => ?_
  rw [mem_qua h', mem_qua h]
  have l : (P ++ [[P.length - 1]]).length = P.length + 1 := by rw [List.length_append]; rfl
  have old : ∀ {x : Nat}, x < P.length → ∀ j, isA (P ++ [[P.length - 1]]) x j = isA P x j := fun {x} hx j => by
    rw [← isA_take (m := P.length) hx, List.take_left']
    rfl
  have new : ∀ j, j < P.length → isA (P ++ [[P.length - 1]]) P.length j = isA P (P.length - 1) j := fun j hj => by
    rw [isA_more h.rt (fun z hz => by rw [List.mem_singleton.mp hz]; omega) hj, List.any_cons, List.any_nil, Bool.or_false]
  constructor
  · rintro ⟨a, b, rfl, ab, hb, pa, pb, n1, n2, x, hx, xa, xb⟩
    rw [l] at hb hx
    have bx := isA_le h'.rt xb
    by_cases eb : b = P.length
    · have ex : x = b := by omega
      rw [ex, n2] at xa
      cases xa
    · have hb2 : b < P.length := by omega
      rw [posB_app (by omega)] at pa pb
      rw [old (by omega)] at n1 n2
      refine ⟨a, b, rfl, ab, hb2, pa, pb, n1, n2, ?_⟩
      by_cases ex : x = P.length
      · rw [ex, new a (by omega)] at xa
        rw [ex, new b hb2] at xb
        exact ⟨P.length - 1, by omega, xa, xb⟩
      · rw [old (by omega)] at xa xb
        exact ⟨x, by omega, xa, xb⟩
  · rintro ⟨a, b, rfl, ab, hb, pa, pb, n1, n2, x, hx, xa, xb⟩
    refine ⟨a, b, rfl, ab, by omega, ?_, ?_, ?_, ?_, x, by omega, ?_, ?_⟩
    · rw [posB_app (by omega)]; exact pa
    · rw [posB_app (by omega)]; exact pb
    · rw [old (by omega)]; exact n1
    · rw [old (by omega)]; exact n2
    · rw [old hx]; exact xa
    · rw [old hx]; exact xb
theorem quaB_wide {n : Nat} (h : OkP (wideP n)) (F : List Nat) : quaB (wideP n) F = [] := by
  refine List.eq_nil_iff_forall_not_mem.mpr fun q hq => ?_
  obtain ⟨a, b, rfl, ab, hb, _, _, _, _, x, hx, xa, xb⟩ := (mem_qua h).mp hq
  have l : (wideP n).length = n := by unfold wideP; rw [List.length_replicate]
  rw [isA_wide (by omega), decide_eq_true_eq] at xa xb
  omega
/-! renamed kinds -/
def srt2 (x y : Nat) : List Nat := if x ≤ y then [x, y] else [y, x]
def nameB (q : List Nat) (p : List Nat) : List Nat := srt2 (q.idxOf (p.getD 0 0)) (q.idxOf (p.getD 1 0))
theorem srt2_comm (x y : Nat) : srt2 x y = srt2 y x := by
  unfold srt2
  by_cases h : x ≤ y
  · by_cases h2 : y ≤ x
    · rw [if_pos h, if_pos h2, Nat.le_antisymm h h2]
    · rw [if_pos h, if_neg h2]
  · rw [if_neg h, if_pos (by omega)]
theorem srt2_inj {x y z w : Nat} (h : srt2 x y = srt2 z w) : (x = z ∧ y = w) ∨ (x = w ∧ y = z) := by
  unfold srt2 at h
  by_cases h1 : x ≤ y
  · by_cases h2 : z ≤ w
    · rw [if_pos h1, if_pos h2] at h
      simp at h
      exact .inl h
    · rw [if_pos h1, if_neg h2] at h
      simp at h
      exact .inr h
  · by_cases h2 : z ≤ w
    · rw [if_neg h1, if_pos h2] at h
      simp at h
      exact .inr ⟨h.2, h.1⟩
    · rw [if_neg h1, if_neg h2] at h
      simp at h
      exact .inl ⟨h.2, h.1⟩
theorem Re.qu {P R : List (List Nat)} {q F : List Nat} (r : Re P q R) (h : OkP P) (hR : OkP R) (pm : IsPm q P.length) {a b : Nat} (ha : a < P.length) (hb : b < P.length) :
    Qu R (q.map fun x => F.getD x 0) (q.idxOf a) (q.idxOf b) ↔ Qu P F a b := by
  have lR : R.length = P.length := by rw [r.len, pm.len]
  have pos : ∀ {x}, x < P.length → posB (q.map fun x => F.getD x 0) (q.idxOf x) = posB F x := fun {x} hx => by
    unfold posB
    rw [List.getD_eq_getElem?_getD, List.getElem?_map, at_idx (pm_mem pm hx)]
    rfl
  unfold Qu
  rw [pos ha, pos hb, r.isA h hR pm hb a ha, r.isA h hR pm ha b hb]
  constructor
  · rintro ⟨pa, pb, n1, n2, y, hy, ya, yb⟩
    have hyq : y < q.length := by rw [pm.len, ← lR]; exact hy
    have ey := List.getElem?_eq_getElem hyq
    have iy := idx_at pm.nd ey
    have xl := pm.lt _ (List.getElem_mem hyq)
    rw [← iy, r.isA h hR pm ha _ xl] at ya
    rw [← iy, r.isA h hR pm hb _ xl] at yb
    exact ⟨pa, pb, n1, n2, _, xl, ya, yb⟩
  · rintro ⟨pa, pb, n1, n2, x, hx, xa, xb⟩
    refine ⟨pa, pb, n1, n2, q.idxOf x, by rw [lR]; exact pm_idx pm hx, ?_, ?_⟩
    · rw [r.isA h hR pm ha x hx]; exact xa
    · rw [r.isA h hR pm hb x hx]; exact xb
theorem named_perm {P R : List (List Nat)} {q F : List Nat} (r : Re P q R) (h : OkP P) (hR : OkP R) (pm : IsPm q P.length) :
    ((quaB P F).map (nameB q)).Perm (quaB R (q.map fun x => F.getD x 0)) := by
  have lR : R.length = P.length := by rw [r.len, pm.len]
  refine (List.perm_ext_iff_of_nodup ?_ ((quaB_sorted _ _).imp fun {a b} h => ne_of_ltL h)).mpr fun p => ?_
  · refine List.pairwise_map.mpr ((quaB_sorted P F).imp_of_mem fun {x y} hx hy lt e => ?_)
    obtain ⟨a, b, rfl, ab, hb, _⟩ := (mem_qua h).mp hx
    obtain ⟨c, d, rfl, cd, hd, _⟩ := (mem_qua h).mp hy
    have inj : ∀ {u v}, u < P.length → v < P.length → q.idxOf u = q.idxOf v → u = v := fun hu hv e => idx_inj (pm_mem pm hu) (pm_mem pm hv) e
    have e : srt2 (q.idxOf a) (q.idxOf b) = srt2 (q.idxOf c) (q.idxOf d) := e
    rcases srt2_inj e with ⟨e1, e2⟩ | ⟨e1, e2⟩
    · rw [inj (by omega) (by omega) e1, inj (by omega) (by omega) e2] at lt
      exact List.lt_irrefl _ lt
    · have := inj (by omega) (by omega) e1
      have := inj (by omega) (by omega) e2
      omega
  · rw [List.mem_map, mem_qua hR]
    constructor
    · rintro ⟨y, hy, rfl⟩
      obtain ⟨a, b, rfl, ab, hb, qu⟩ := (mem_qua h).mp hy
      have qu2 := (r.qu h hR pm (F := F) (by omega) hb).mpr qu
      have ne : q.idxOf a ≠ q.idxOf b := fun e => by
        have := idx_inj (pm_mem pm (by omega)) (pm_mem pm hb) e
        omega
      have la := pm_idx pm (x := a) (by omega)
      have lb := pm_idx pm hb
      show ∃ c d, srt2 (q.idxOf a) (q.idxOf b) = [c, d] ∧ _
      by_cases z : q.idxOf a ≤ q.idxOf b
      · exact ⟨_, _, by unfold srt2; rw [if_pos z], by omega, by omega, qu2⟩
      · exact ⟨_, _, by unfold srt2; rw [if_neg z], by omega, by omega, qu2.symm⟩
    · rintro ⟨c, d, rfl, cd, hd, qu⟩
      have hcq : c < q.length := by rw [pm.len]; omega
      have hdq : d < q.length := by rw [pm.len]; omega
      have ec := List.getElem?_eq_getElem hcq
      have ed := List.getElem?_eq_getElem hdq
      have ic := idx_at pm.nd ec
      have id := idx_at pm.nd ed
      have al := pm.lt _ (List.mem_of_getElem? ec)
      have bl := pm.lt _ (List.mem_of_getElem? ed)
      generalize q[c] = a at *
      generalize q[d] = b at *
      rw [← ic, ← id] at qu
      have qu := (r.qu h hR pm al bl).mp qu
      by_cases z : a < b
      · refine ⟨[a, b], (mem_qua h).mpr ⟨a, b, rfl, z, bl, qu⟩, ?_⟩
        show srt2 (q.idxOf a) (q.idxOf b) = _
        rw [ic, id]
        unfold srt2
        rw [if_pos (by omega)]
      · have ne : a ≠ b := fun e => by
          rw [e, id] at ic
          omega
        refine ⟨[b, a], (mem_qua h).mpr ⟨b, a, rfl, by omega, al, qu.symm⟩, ?_⟩
        show srt2 (q.idxOf b) (q.idxOf a) = _
        rw [ic, id]
        unfold srt2
        rw [if_neg (by omega)]
theorem leL_trans (a b c : List Nat) (h1 : (!decide (b < a)) = true) (h2 : (!decide (c < b)) = true) : (!decide (c < a)) = true := by
  rw [Bool.not_eq_true', decide_eq_false_iff_not] at *
  exact List.not_lt.mpr (List.le_trans (List.not_lt.mp h1) (List.not_lt.mp h2))
theorem leL_total (a b : List Nat) : ((!decide (b < a)) || (!decide (a < b))) = true := by
  rw [Bool.or_eq_true, Bool.not_eq_true', Bool.not_eq_true', decide_eq_false_iff_not, decide_eq_false_iff_not, List.not_lt, List.not_lt]
  exact List.le_total a b
theorem rows_sorted {H : Hp} {vs : List V} {M T : List (List Nat)} (h : ParL H vs M) (perm : M.Perm T) (srt : T.Pairwise (· < ·)) : ParL H (((vs.zip (rowsD M)).mergeSort dLe).map (·.1)) T := by
  have ez : vs.zip (rowsD M) = (vs.zip M).map fun z => (z.1, PyData.tuple (natsD z.2)) := by
    unfold rowsD
    rw [List.zip_map_right]
    rfl
  rw [ez, ← List.map_mergeSort (r := fun x y => !decide (y.2 < x.2)) fun x _ y _ => ?_, List.map_map]
  · have mem : ∀ z ∈ (vs.zip M).mergeSort (fun x y => !decide (y.2 < x.2)), ∃ a, z.1 = .ref a ∧ H a = some (.tup (natsV z.2)) := fun z hz => by
      have hz := List.mem_mergeSort.mp hz
      obtain ⟨j, hj, e⟩ := List.mem_iff_getElem.mp hz
      have e := (List.getElem?_eq_getElem hj).trans (congrArg some e)
      rw [List.getElem?_zip_eq_some] at e
      obtain ⟨a, e1, e2⟩ := h.2 j z.2 e.2
      rw [e.1] at e1
      exact ⟨a, Option.some.inj e1, e2⟩
    have e2 : ((vs.zip M).mergeSort (fun x y => !decide (y.2 < x.2))).map (·.2) = T := by
      have p1 : (((vs.zip M).mergeSort (fun x y => !decide (y.2 < x.2))).map (·.2)).Perm T := by
        refine ((List.mergeSort_perm _ _).map _).trans ?_
        rw [zip_snd h.1]
        exact perm
      refine List.Perm.eq_of_pairwise (le := (· ≤ ·)) (fun a b _ _ h1 h2 => List.le_antisymm h1 h2) ?_ (srt.imp fun {a b} h => List.le_of_lt h) p1
      refine List.pairwise_map.mpr ((List.pairwise_mergeSort (le := fun x y : V × List Nat => !decide (y.2 < x.2)) (fun a b c => leL_trans a.2 b.2 c.2) (fun a b => leL_total a.2 b.2) _).imp fun {a b} h => ?_)
      rw [Bool.not_eq_true', decide_eq_false_iff_not] at h
      exact List.not_lt.mp h
    generalize (vs.zip M).mergeSort (fun x y => !decide (y.2 < x.2)) = Z at *
    rw [← e2]
    refine ⟨by rw [List.length_map, List.length_map], fun j q hq => ?_⟩
    rw [List.getElem?_map] at hq
    cases c : Z[j]? with
    | none => rw [c] at hq; cases hq
    | some z =>
      rw [c] at hq
      have hq : z.2 = q := Option.some.inj hq
      obtain ⟨a, e3, e4⟩ := mem z (List.mem_of_getElem? c)
      refine ⟨a, ?_, by rw [← hq]; exact e4⟩
      rw [List.getElem?_map, c]
      exact congrArg some e3
  · show (!decide (y.2 < x.2)) = PySem.W.dataLe false (fun b : V × PyData => b.2) _ _
    rw [PySem.W.dataLe_eq]
    show _ = !PySem.W.dataLt (.tuple (natsD y.2)) (.tuple (natsD x.2))
    rw [lt_nats]
theorem rows_alike (M : List (List Nat)) : PySem.W.AllAlike (rowsD M) := PySem.W.AllAlike.of fun a b => alike_nats a b
theorem rows_sortable {M : List (List Nat)} (h : ∀ q ∈ M, q ≠ []) : PySem.W.Sortable (rowsD M) := .inl fun d hd => by
  obtain ⟨q, hq, rfl⟩ := List.mem_map.mp hd
  cases q with
  | nil => exact absurd rfl (h [] hq)
  | cons x r => exact ⟨_, _, rfl⟩
theorem rows_depth {M : List (List Nat)} : ∀ d ∈ rowsD M, d.depth ≤ 60 := fun d hd => by
  obtain ⟨q, _, rfl⟩ := List.mem_map.mp hd
  have := nats_deep q
  simp only [PyData.depth]
  omega
/-- the items that a filter lets that may draw -/
theorem lc_listMF {K : PySem.W.Frag} {a : Addr} {xs : List V} {g : TG} {tt : TT} {te : TE} {vs : List Nat} {σ : St} {H1 : Hp} {D : Addr} {Qd : Hp → Prop} {τ : Tp} (R : V → Hp → Prop) (st : ∀ v H H', R v H → TK H H' → R v H') (hx : H1 a = some (.lst xs)) (ne_a : a ≠ τ.t) (t : Tape τ H1) (nD : H1 D = none) (hn : xs.length ≤ 100000)
    (hs : ∀ (i : Nat) (x : V) (H : Hp) (N : V → Hp → Prop) (M : Hp → Prop), xs[i]? = some x → Mv τ H1 H → (∀ v H4, Mv τ H H4 → R v H4 → N v H4) → (∀ H4, Mv τ H H4 → M H4) → g x (wipe σ vs) H fun σ2 H2 => wipe σ2 vs = wipe σ vs ∧ tt σ2 H2 fun b H3 => if b = true then te σ2 H3 N else M H3)
    (hd : ∀ H acc, Mv τ H1 H → H D = some (.lst acc) → acc.length ≤ xs.length → (∀ v ∈ acc, R v H) → Qd H) : ∃ W : Nat → Nat → Hp → Prop, (∃ m, W 0 m (upd H1 D (.lst []))) ∧ ∀ i m H, W i m H →
      ((Itl K a).stop i H ∧ Qd H) ∨ ((Itl K a).go i H ∧ ∃ Nx : Hp → Prop, (∀ H', Nx H' → ∃ m', m' < m ∧ W (i + 1) m' H') ∧ ∀ x H', (Itl K a).yld i H x H' → g x (wipe σ vs) H' fun σ2 H2 => wipe σ2 vs = wipe σ vs ∧ tt σ2 H2 fun b H3 =>
        if b = true then te σ2 H3 fun y H4 => ∃ acc, H4 D = some (.lst acc) ∧ acc.length < sizeLine ∧ Nx (upd H4 D (.lst (acc ++ [y]))) else Nx H3) := by
  refine lc_list (K := K) (a := a) (xs := xs) (fun i H => Mv τ H1 H ∧ ∃ acc, H D = some (.lst acc) ∧ acc.length ≤ i ∧ ∀ v ∈ acc, R v H) ⟨(t.mv).new nD, [], upd_same, Nat.le_refl _, fun v e => by cases e⟩ (fun i H _ p => SqL.of (p.1.keep _ _ ne_a hx)) (fun i x H hi p => ?_) (fun H p => ?_)
  · obtain ⟨m, acc, hD, hlen, hR⟩ := p
    have il : i < xs.length := (List.getElem?_eq_some_iff.mp hi).1
    refine hs i x H _ _ hi m (fun v H4 m4 r => ⟨acc, m4.keep _ _ (t.mv.neF nD) hD, lt_line (by omega), (m.trans m4).mut nD, acc ++ [v], upd_same, by rw [List.length_append]; show acc.length + 1 ≤ i + 1; omega, fun u e => ?_⟩) (fun H4 m4 => ⟨m.trans m4, acc, m4.keep _ _ (t.mv.neF nD) hD, by omega, fun u e => st _ _ _ (hR u e) m4.tk⟩)
    have k1 : TK H4 (upd H4 D (.lst (acc ++ [v]))) := TK.mut (m4.keep _ _ (t.mv.neF nD) hD)
    rcases List.mem_append.mp e with e | e
    · exact st _ _ _ (st _ _ _ (hR u e) m4.tk) k1
    · rw [List.mem_singleton.mp e]
      exact st _ _ _ r k1
  · obtain ⟨m, acc, hD, hlen, hR⟩ := p
    exact hd H acc m hD hlen hR
def sp__law_graph (K : PySem.W.Frag) : Sp := fun vs H Q _ => ∃ (e : Addr) (n : Nat) (us : List V) (E : List (List Nat)), vs = [.int n, .ref e] ∧ H e = some (.lst us) ∧ ParL H us E ∧ 2 ≤ n ∧ n ≤ 60 ∧ E.length ≤ 300 ∧
  ∀ p H', Same H H' → ParAt H' p (List.replicate n [] ++ E) → Q (.ref p) H'
theorem sc__law_graph : FnScope ["_law_many", "_law_edges"] ["_law_many", "_law_edges"] (defScope s__law_graph) := ⟨rfl, rfl, rfl, by decide +kernel, rfl, by decide +kernel, by decide +kernel⟩
theorem ok__law_graph (T : Top P K mg) : FnOk P w K mg base CX0 1 T.f__law_graph T.fd__law_graph ["_law_many", "_law_edges"] (sp__law_graph K) := by
  refine T.F__law_graph.ok sc__law_graph (fun vs H Q E h => ?_) (fun cdv A outer s H vs Q E hr h => ?_)
  · obtain ⟨e, n, us, E', rfl, _⟩ := h
    rfl
  · obtain ⟨e, n, us, E', rfl, he, hE, n2, n60, el, k⟩ := h
    refine ⟨_, (pss_one (ps_ret (pe_op op_catA (pe_op op_repT (pe_tup (pa_cons (pe_tup pa_nil) pa_nil)) (pv 0)) (pe_callTy (r := rTupQ K) (T := "tuple") call_tuple_of (by rfl) T.z_tuple (by decide +kernel) (pa_cons (pv 1) pa_nil))))), ?_⟩
    have ul := hE.1
    tm_at "w"
    intro e0 ne0
    obtain ⟨H1, e1, s1, h0⟩ := new_hide (Same.new (o := .tup []) (Same.refl H) ne0)
    rw [e1]
    tm_at "w"
    intro p1 np1
    obtain ⟨H2, e2, s2, h1⟩ := new_hide (Same.new (o := .tup [.ref e0]) (Same.refl H1) np1)
    rw [e2]
    have h02 := s2 _ _ h0
    tm_at "w"
    refine ⟨_, _, _, rfl, rfl, SqT.of h1, by simp, by omega, by omega, by show 1 ≤ 1000; decide, fun p2 np2 => ?_⟩
    have er : (List.replicate ((n : Int)).toNat [V.ref e0]).flatten = List.replicate n (V.ref e0) := by rw [Int.toNat_natCast, flat_one]
    rw [er]
    obtain ⟨H3, e3, s3, h2⟩ := new_hide (Same.new (o := .tup (List.replicate n (V.ref e0))) (Same.refl H2) np2)
    rw [e3]
    have s13 := Same.trans (Same.trans s1 s2) s3
    have he3 := s13 _ _ he
    tm_at "w"
    intro p4 np4
    obtain ⟨H4, e4, s4, h4⟩ := new_hide (Same.new (o := .tup us) (Same.refl H3) np4)
    rw [e4]
    refine cat_any (s4 _ _ h2) h4 (Nat.le_of_lt (lt_line (by rw [List.length_replicate]; omega))) fun p5 H5 s5 h5 => ?_
    have sF := Same.trans (Same.trans s13 s4) s5
    refine k p5 H5 sF ⟨_, h5, ParL.app ⟨by rw [List.length_replicate, List.length_replicate], fun j q hq => ?_⟩ (hE.tk (Same.tk sF))⟩
    have hj := (List.getElem?_eq_some_iff.mp hq).1
    rw [List.length_replicate] at hj
    rw [List.getElem?_replicate, if_pos hj] at hq
    refine ⟨e0, by rw [List.getElem?_replicate, if_pos hj], ?_⟩
    rw [← Option.some.inj hq]
    exact (Same.trans (Same.trans s3 s4) s5) _ _ h02
/-! _law_order -/
theorem ord_snoc {P : List (List Nat)} {q : List Nat} {x : Nat} (h : ordL P q = true) (hx : ∀ p ∈ P.getD x [], p ∈ q) (nx : x ∉ q) (hq : ∀ y ∈ q, ∀ p ∈ P.getD y [], p ∈ q) : ordL P (q ++ [x]) = true := by
  refine ordL_at.mpr fun k y e p hp => ?_
  by_cases hk : k < q.length
  · rw [List.getElem?_append_left hk] at e
    have := ordL_at.mp h k y e p hp
    rw [List.idxOf_append, if_pos (hq y (List.mem_of_getElem? e) p hp)]
    exact this
  · have hl := (List.getElem?_eq_some_iff.mp e).1
    rw [List.length_append, List.length_singleton] at hl
    obtain rfl : k = q.length := by omega
    rw [List.getElem?_append_right (Nat.le_refl _), Nat.sub_self] at e
    have e : x = y := Option.some.inj e
    rw [← e] at hp
    rw [List.idxOf_append, if_pos (hx p hp)]
    exact List.idxOf_lt_length_iff.mpr (hx p hp)
/-- a kind that may come next -/
def frB (P : List (List Nat)) (q : List Nat) (x : Nat) : Bool := !decide (x ∈ q) && (P.getD x []).all fun p => decide (p ∈ q)
theorem free_least {P : List (List Nat)} (h : OkP P) {q : List Nat} : ∀ (m x : Nat), x < m → x < P.length → x ∉ q → ∃ y, y < P.length ∧ frB P q y = true
  | 0, x, hm, _, _ => absurd hm (Nat.not_lt_zero _)
  | m + 1, x, hm, hx, nx => by
    cases c : (P.getD x []).all fun p => decide (p ∈ q) with
    | true => exact ⟨x, hx, by unfold frB; rw [c, decide_eq_false nx]; rfl⟩
    | false =>
      obtain ⟨p, hp, np⟩ := List.all_eq_false.mp c
      have px := (okP_getD h hx).lt p hp
      exact free_least h m p (by omega) (by omega) fun e => np (decide_eq_true e)
theorem some_left {q : List Nat} {n : Nat} (hl : q.length < n) : ∃ x, x < n ∧ x ∉ q := by
  by_cases h : ∃ x, x < n ∧ x ∉ q
  · exact h
  · have all : ∀ x ∈ List.range n, x ∈ q := fun x hx => by
      by_cases m : x ∈ q
      · exact m
      · exact absurd ⟨x, List.mem_range.mp hx, m⟩ h
    have := nd_len (q.map fun z : Nat => (z : Int)) ((List.range n).map fun z : Nat => (z : Int)) (castZ_nodup.mpr List.nodup_range) fun k hk => by
      obtain ⟨y, hy, rfl⟩ := List.mem_map.mp hk
      exact List.mem_map.mpr ⟨y, all y hy, rfl⟩
    have := this.1
    rw [List.length_map, List.length_map, List.length_range] at this
    omega
theorem filter_listD (g : Nat → Bool) (L : List Nat) : (List.range L.length).filterMap (fun j => if g (L.getD j 0) = true then some (V.int ((L.getD j 0 : Nat) : Int)) else none) = natsV (L.filter g) := by
  have h : ∀ (n : Nat), n ≤ L.length → (List.range n).filterMap (fun j => if g (L.getD j 0) = true then some (V.int ((L.getD j 0 : Nat) : Int)) else none) = natsV ((L.take n).filter g) := by
    intro n
    induction n with
    | zero => intro _; rfl
    | succ n ih =>
      intro hn
      have e := List.getElem?_eq_getElem (show n < L.length by omega)
      rw [filterMap_range_succ, ih (by omega), List.take_add_one, e, getD_at e, List.filter_append]
      cases c : g L[n] with
      | true =>
        show _ ++ [V.int ((L[n] : Nat) : Int)] = natsV ((L.take n).filter g ++ [L[n]].filter g)
        rw [List.filter_cons, c, if_pos rfl, natsV_snoc]
        rfl
      | false =>
        show _ ++ [] = natsV ((L.take n).filter g ++ [L[n]].filter g)
        rw [List.filter_cons, c, if_neg (by decide), List.filter_nil, List.append_nil, List.append_nil]
  have := h L.length (Nat.le_refl _)
  rw [List.take_length] at this
  exact this
def sp__law_order (K : PySem.W.Frag) : Sp := fun vs H Q _ => ∃ (τ : Tp) (a : Addr) (P : List (List Nat)), vs = [.ref τ.t, .ref a] ∧ Tape τ H ∧ ParAt H a P ∧ OkP P ∧
  ((∀ t q H', Mv τ H H' → H' t = some (.tup (natsV q)) → IsPm q P.length → ordL P q = true → Q (.ref t) H') ∨
  (∀ t ob q H', Mv τ H H' → H' t = some (.frz ob (.tup (natsV q))) → ob.dict = none → IsPm q P.length → ordL P q = true → Q (.ref t) H'))
theorem sc__law_order : FnScope ["_law_hand_here", "_law_parents_here", "_law_order_here", "_law_turn", "_law_left", "_law_free", "_law_kind", "_law_one"] ["_law_hand_here", "_law_parents_here"] (defScope s__law_order) := ⟨rfl, rfl, rfl, by decide +kernel, rfl, by decide +kernel, by decide +kernel⟩
theorem ok__law_order (T : Top P K mg) : FnOk P w K mg base CX0 2 T.f__law_order T.fd__law_order ["_law_hand_here", "_law_parents_here"] (sp__law_order K) := by
  have G__law_draw := ok__law_draw (P := P) (w := w) (base := base) T
  refine T.F__law_order.ok sc__law_order (fun vs H Q E h => ?_) (fun cdv A outer s H vs Q E hr h => ?_)
  · obtain ⟨τ, a, P, rfl, _⟩ := h
    rfl
  · obtain ⟨τ, a, P, rfl, m0, hA, okP, k⟩ := h
    refine ⟨_, (pss_cons (ps_set (i := 2) sc__law_order.nd rfl (Or.inr rfl) (pe_lst pa_nil))
      (pss_cons (ps_for PassesOwn.never rfl (pi_range1 rfl T.z_range (pa_cons (pe_callB (r := rLenQ K) (id := "len") call_len_seq (by rfl) T.z_len (by decide +kernel) (pa_cons (pv 1) pa_nil)) pa_nil)) (pg_name (i := 3) sc__law_order.nd rfl (Or.inl rfl))
      (pss_cons (ps_setLc (i := 4) (own := [("_law_kind", 6)]) (g := gName 6) rfl sc__law_order.nd rfl rfl (sw_true rfl rfl rfl (by decide +kernel)) (pi_range1 rfl T.z_range (pa_cons (pe_callB (r := rLenQ K) (id := "len") call_len_seq (by rfl) T.z_len (by decide +kernel) (pa_cons (pv 1) pa_nil)) pa_nil)) (blkOk_by (own := [("_law_kind", 6)]) (N := ["_law_hand_here", "_law_parents_here", "_law_order_here", "_law_turn", "_law_left", "_law_free", "_law_kind", "_law_one"]) (sc := defScope s__law_order) (by decide +kernel)) (fun _ _ _ _ _ => (pg_name (i := 6) sc__law_order.nd rfl (Or.inl rfl))) (fun _ _ _ _ _ => (pts_one (pt_cmpR (r := rIn K true) op_notIn_seq (pv 6) (pv 2) (by rfl)))) (fun _ _ _ _ _ => (pv 6)))
      (pss_cons (ps_setLc (i := 5) (own := [("_law_kind", 6)]) (g := gName 6) rfl sc__law_order.nd rfl rfl (sw_true rfl rfl rfl (by decide +kernel)) (pi_list (pv 4)) (blkOk_by (own := [("_law_kind", 6)]) (N := ["_law_hand_here", "_law_parents_here", "_law_order_here", "_law_turn", "_law_left", "_law_free", "_law_kind", "_law_one"]) (sc := defScope s__law_order) (by decide +kernel)) (fun _ _ _ _ _ => (pg_name (i := 6) sc__law_order.nd rfl (Or.inl rfl))) (fun _ _ _ _ _ => (pts_one (pt_val (pe_callB (r := rAll K) (id := "all") (cr_all rfl) (by rfl) T.z_all (by decide +kernel) (pa_cons (by exact (pe_lc (own := [("_law_one", 7)]) (g := gName 7) (tt := tYes) rfl sc__law_order.nd (pi_tupK (K := K) rfl (pe_ix (r := rIxT K) ix_tup (pv 1) (pv 6) (fun _ _ => rfl))) (blk_in (own := [("_law_one", 7)]) (N := ["_law_hand_here", "_law_parents_here", "_law_order_here", "_law_turn", "_law_left", "_law_free", "_law_kind", "_law_one"]) (sc1 := defScope s__law_order) rfl rfl (by decide +kernel)) (fun _ _ _ _ _ => (pg_name (i := 7) sc__law_order.nd rfl (Or.inl rfl))) (fun _ _ _ _ _ => pts_nil) (fun _ _ _ _ _ => (pe_cmpR (r := rIn K false) op_in_seq (pv 7) (pv 2) (by rfl))))) pa_nil))))) (fun _ _ _ _ _ => (pv 6)))
      (pss_one (ps_expr (pe_bm PySem.F.plainAttrs_list PySem.F.slot_list_append PySem.F.type_list_append mt_append (pv 2) (pa_cons (pe_ix (r := rIxL K) ix_list (pv 5) (pe_call G__law_draw hr (by rfl) T.g__law_draw T.F__law_draw.kp T.b__law_draw .nil pass0 (pa_cons (pv 0) (pa_cons (pe_callB (r := rLenQ K) (id := "len") call_len_seq (by rfl) T.z_len (by decide +kernel) (pa_cons (pv 5) pa_nil)) pa_nil))) (fun _ _ => rfl)) pa_nil)))))))
      (pss_one (ps_ret (pe_callTy (T := "tuple") call_tuple_z (by rfl) T.z_tuple (by decide +kernel) (pa_cons (pv 2) pa_nil)))))), ?_⟩
    have few := okP.few
    obtain ⟨ps, ha, hP⟩ := hA
    have pl := hP.1
    have est : L2.start ["_law_hand_here", "_law_parents_here", "_law_order_here", "_law_turn", "_law_left", "_law_free", "_law_kind", "_law_one"] [V.ref τ.t, V.ref a] = ([some (.ref τ.t), some (.ref a), none, none, none, none, none, none] : L2.St) := rfl
    rw [est]
    tm_at "w"
    intro f nf
    have m1 := m0.mv.new (o := .lst []) nf
    have nft := m0.mv.neN nf
    have hf1 : upd H f (.lst []) f = some (.lst []) := upd_same
    have ha1 : upd H f (.lst []) a = some (.tup ps) := (Same.new (Same.refl H) nf) _ _ ha
    have tk1 : TK H (upd H f (.lst [])) := TK.new nf
    revert m1 hf1 ha1 tk1
    generalize upd H f (.lst []) = H1
    intro m1 hf1 ha1 tk1
    simp only [List.set_cons_zero, List.set_cons_succ]
    tm_at "w"
    refine for_range (lo := 0) (n := (ps.length : Int).toNat) (fun i σ H' => ∃ (v3 v4 v5 v6 v7 : Option V) (q : List Nat), σ = [some (.ref τ.t), some (.ref a), some (.ref f), v3, v4, v5, v6, v7] ∧ Mv τ H H' ∧ TK H H' ∧ H' f = some (.lst (natsV q)) ∧ q.length = i ∧ q.Nodup ∧ (∀ x ∈ q, x < P.length) ∧ ordL P q = true ∧ ∀ y ∈ q, ∀ p ∈ P.getD y [], p ∈ q) ?_ ?_ ?_
    · exact ⟨none, none, none, none, none, [], rfl, m1, tk1, hf1, rfl, List.nodup_nil, (fun x h => by cases h), rfl, (fun y h => by cases h)⟩
    · rintro i σ H2 hi ⟨v3, v4, v5, v6, v7, q, rfl, m2, tk2, hf2, ql, nd, lt, ord, cl⟩
      rw [Int.zero_add]
      have hA2 := hP.tk tk2
      have ha2 := tk2 _ _ ha
      tm_at "w"
      intro D nD
      refine lc_rangeF (fun x => if (!decide (x ∈ q)) = true then some (V.int (x : Int)) else none) nD (by omega) ?_ ?_
      · intro x H3 N M hx s3 kN kM
        rw [Int.zero_add]
        have hf3 := s3 _ _ hf2
        tm_at "w"
        refine ⟨flat_nats _, ?_⟩
        show ∃ k, V.bl (!inV (.int (x : Int)) (natsV q)) = V.bl k ∧ _
        rw [inV_nats]
        refine ⟨_, rfl, ?_⟩
        refine iteB (fun e => ?_) (fun e => ?_)
        · tm_at "w"
          exact kN _ _ (by rw [if_pos e]) (Same.refl H3)
        · exact kM _ (by rw [e, if_neg (by decide)]) (Same.refl H3)
      intro H3 s3 hD0
      rw [filter_nats, show (ps.length : Int).toNat = P.length by omega] at hD0
      have fe0 : ((List.range P.length).filter fun x => !decide (x ∈ q)).filter (frB P q) = (List.range P.length).filter (frB P q) := by
        rw [List.filter_filter]
        refine List.filter_congr fun x _ => ?_
        unfold frB
        cases decide (x ∈ q) <;> simp
      have L0 : ∀ x ∈ (List.range P.length).filter fun x => !decide (x ∈ q), x < P.length ∧ decide (x ∈ q) = false := fun x hx => ⟨List.mem_range.mp (List.mem_filter.mp hx).1, by have := (List.mem_filter.mp hx).2; rwa [Bool.not_eq_true'] at this⟩
      have Ll : ((List.range P.length).filter fun x => !decide (x ∈ q)).length ≤ P.length := by
        have := List.length_filter_le (fun x => !decide (x ∈ q)) (List.range P.length)
        rw [List.length_range] at this
        exact this
      generalize (List.range P.length).filter (fun x => !decide (x ∈ q)) = L at *
      have Lv := natsV_len L
      have m2 := m2.same s3
      have hf2 := s3 _ _ hf2
      have ha2 := s3 _ _ ha2
      have hA2 := hA2.tk (Same.tk s3)
      have tk2 := TK.trans tk2 (Same.tk s3)
      simp only [List.set_cons_zero, List.set_cons_succ]
      tm_at "w"
      refine ⟨⟨_, SqL.of hD0⟩, fun D nD => lc_listF (fun j => if frB P q (L.getD j 0) = true then some (V.int ((L.getD j 0 : Nat) : Int)) else none) hD0 nD (by omega) ?_ ?_⟩
      · intro j v H4 N M hv s4 kN kM
        obtain ⟨x, hxL, rfl, jl⟩ := natsV_here hv
        rw [getD_at hxL] at kN kM
        obtain ⟨hx, xq⟩ := L0 x (List.mem_of_getElem? hxL)
        have hf3 := s4 _ _ hf2
        have ha3 := s4 _ _ ha2
        have ex : P[x]? = some P[x] := List.getElem?_eq_getElem hx
        have gx : P.getD x [] = P[x] := by rw [List.getD_eq_getElem?_getD, ex]; rfl
        obtain ⟨pa, ep, hp⟩ := hA2.2 x _ ex
        have hp3 := s4 _ _ hp
        have okx := okP_getD okP hx
        rw [gx] at okx
        have lx := okx.few
        have fe : frB P q x = P[x].all fun p => decide (p ∈ q) := by unfold frB; rw [gx, xq]; rfl
        tm_at "w"
        refine ⟨⟨_, SqT.of hp3⟩, fun B nB => lc_tupF (fun j => (P[x])[j]?.map fun p => V.bl (decide (p ∈ q))) hp3 nB (by rw [natsV_len]; omega) ?_ ?_⟩
        · intro j y H5 N2 M2 hy s5 kN2 kM2
          obtain ⟨p, hpj, rfl, _⟩ := natsV_here hy
          have hf4 := s5 _ _ hf3
          tm_at "w"
          refine ⟨flat_nats _, ?_⟩
          show N2 (V.bl (inV (.int (p : Int)) (natsV q))) H5
          rw [inV_nats]
          exact kN2 _ _ (by rw [hpj]; rfl) (Same.refl H5)
        · intro H5 s5 hB
          rw [natsV_len, range_items] at hB
          have e2 : P[x].map (fun p => V.bl (decide (p ∈ q))) = (P[x].map fun p => decide (p ∈ q)).map V.bl := by rw [List.map_map]; rfl
          rw [e2] at hB
          tm_at "w"
          refine ⟨_, _, rfl, SqL.of hB, ?_⟩
          have e3 : (P[x].map fun p => decide (p ∈ q)).all id = frB P q x := by rw [List.all_map, fe]; rfl
          rw [e3]
          refine ⟨_, rfl, ?_⟩
          refine iteB (fun e4 => ?_) (fun e4 => ?_)
          · tm_at "w"
            exact kN _ _ (by rw [if_pos e4]) s5
          · exact kM _ (by rw [e4, if_neg (by decide)]) s5
      · intro H3 s3 hD
        rw [Lv, filter_listD, fe0] at hD
        have ilt : i < P.length := by omega
        obtain ⟨x0, hx0, nx0⟩ := some_left (q := q) (n := P.length) (by omega)
        obtain ⟨y0, hy0, fy0⟩ := free_least okP (P.length) x0 hx0 hx0 nx0
        have fpos : 0 < ((List.range P.length).filter (frB P q)).length := List.length_pos_iff.mpr fun e => by
          have : y0 ∈ (List.range P.length).filter (frB P q) := List.mem_filter.mpr ⟨List.mem_range.mpr hy0, fy0⟩
          rw [e] at this
          cases this
        have fle : ((List.range P.length).filter (frB P q)).length ≤ P.length := by
          have := List.length_filter_le (frB P q) (List.range P.length)
          rw [List.length_range] at this
          exact this
        have fmem : ∀ y ∈ (List.range P.length).filter (frB P q), y < P.length ∧ frB P q y = true := fun y hy => ⟨List.mem_range.mp (List.mem_filter.mp hy).1, (List.mem_filter.mp hy).2⟩
        generalize (List.range P.length).filter (frB P q) = fr at *
        have m3 := m2.same s3
        have fl : (natsV fr).length = fr.length := natsV_len fr
        have Dt := m2.now.mv.neN nD
        have nft2 : f ≠ τ.t := nft
        have hf3 := s3 _ _ hf2
        tm_at "w"
        refine ⟨τ, _, rfl, m3.now, by omega, by omega, fun r H4 m4 r0 r1 => ?_⟩
        obtain ⟨r, rfl⟩ : ∃ j : Nat, r = j := ⟨r.toNat, by omega⟩
        have hD4 := m4.keep _ _ Dt hD
        have hf4 := m4.keep _ _ nft hf3
        have rl : r < fr.length := by omega
        have er := List.getElem?_eq_getElem rl
        have atr : atI (natsV fr) (r : Int) = some (.int (fr[r] : Nat)) := atI_nat (natsV_at er)
        obtain ⟨xl, fx⟩ := fmem _ (List.getElem_mem rl)
        generalize fr[r] = x at *
        tm_at "w"
        refine ⟨_, _, _, _, rfl, rfl, SqL.of hD4, atr, ?_⟩
        tm_at "w"
        refine ⟨_, _, _, rfl, rfl, hf4, lt_line (by rw [natsV_len]; omega), ?_⟩
        unfold frB at fx
        rw [Bool.and_eq_true, Bool.not_eq_true', decide_eq_false_iff_not] at fx
        have px : ∀ p ∈ P.getD x [], p ∈ q := fun p hp => of_decide_eq_true (List.all_eq_true.mp fx.2 p hp)
        refine ⟨_, _, _, _, _, q ++ [x], rfl, (m3.trans m4).mut nf, TK.trans tk2 (TK.trans (Same.tk s3) (TK.trans m4.tk (TK.mut hf4))), by rw [upd_same, natsV_snoc], by rw [List.length_append, ql]; rfl, List.nodup_append.mpr ⟨nd, List.nodup_cons.mpr ⟨(fun h => by cases h), List.nodup_nil⟩, fun y hy z hz => by rw [List.mem_singleton.mp hz]; intro e; exact fx.1 (e ▸ hy)⟩, fun y hy => ?_, ord_snoc ord px fx.1 cl, fun y hy p hp => ?_⟩
        · rcases List.mem_append.mp hy with hy | hy
          · exact lt y hy
          · rw [List.mem_singleton.mp hy]
            exact xl
        · rcases List.mem_append.mp hy with hy | hy
          · exact List.mem_append_left _ (cl y hy p hp)
          · rw [List.mem_singleton.mp hy] at hp
            exact List.mem_append_left _ (px p hp)
    · rintro σ H2 ⟨v3, v4, v5, v6, v7, q, rfl, m2, tk2, hf2, ql, nd, lt, ord, cl⟩
      tm_at "w"
      refine ⟨f, natsV q, rfl, SqL.of hf2, ?_⟩
      rcases k with k | k
      · exact .inl fun t nt => k t q _ (m2.new nt) upd_same ⟨by omega, lt, nd⟩ ord
      · exact .inr fun t ob d nt => k t ob q _ (m2.new nt) upd_same d ⟨by omega, lt, nd⟩ ord
/-! law -/
theorem range_getD {α : Type} {R : List (List α)} : (List.range R.length).map (fun i => R.getD i []) = R := by
  refine List.ext_getElem? fun j => ?_
  rw [List.getElem?_map]
  by_cases hj : j < R.length
  · rw [List.getElem?_range hj, List.getElem?_eq_getElem hj]
    show some (R.getD j []) = _
    rw [getD_at (List.getElem?_eq_getElem hj)]
  · rw [List.getElem?_eq_none (by rw [List.length_range]; omega), List.getElem?_eq_none (by omega)]
    rfl
theorem Alk.lrows {H : Hp} {a b : Addr} {us vs : List V} {P : List (List Nat)} (ha : H a = some (.lst us)) (hb : H b = some (.lst vs)) (la : ParL H us P) (lb : ParL H vs P) (hn : P.length ≤ 100000) (hm : ∀ q ∈ P, q.length ≤ 1000) : Alk H 2 (.ref a) (.ref b) := by
  refine .lst 1 a b _ _ ha hb (la.1.trans lb.1.symm) (by rw [la.1]; omega) fun i x y ex ey => ?_
  obtain ⟨u, p, rfl, e1, e2⟩ := la.here ex
  obtain ⟨v, q, rfl, e3, e4⟩ := lb.here ey
  rw [e1] at e3
  rw [← Option.some.inj e3] at e4
  have := hm p (List.mem_of_getElem? e1)
  exact Alk.nats e2 e4 (by omega)
theorem qua_two {P : List (List Nat)} {F : List Nat} : ∀ q ∈ quaB P F, q.length = 2 := fun q hq => by
  obtain ⟨a, _, hq⟩ := List.mem_flatMap.mp hq
  obtain ⟨b, _, rfl⟩ := List.mem_map.mp hq
  rfl
theorem qua_few (P : List (List Nat)) (F : List Nat) : (quaB P F).length ≤ P.length * P.length := by
  have := flat_len (l := List.range P.length) (f := fun a => rowQ P F a P.length) (m := P.length) fun x _ => rowQ_len P F x P.length
  rw [List.length_range] at this
  exact this
theorem listrows_shaped (P : List (List Nat)) : SeqAt.shaped (.list (rowsD P)) = true := by
  have iq := rows_deep P
  have h2 : PyData.depth (.list (rowsD P)) ≤ 64 := by
    simp only [PyData.depth]
    omega
  exact Bool.and_eq_true_iff.mpr ⟨rows_lay P, decide_eq_true h2⟩
theorem listrows_refl (P : List (List Nat)) : PyData.eqv (.list (rowsD P)) (.list (rowsD P)) = true := SeqAt.eqv_refl _ (rows_lay P)
theorem rows_filter {S : List (List Nat)} {g : List Nat → Bool} {acc : List V} {H : Hp} (hl : acc.length = ((List.range S.length).filter fun j => g (S.getD j [])).length)
    (h : ∀ (j : Nat) v, acc[j]? = some v → ∃ p, ((List.range S.length).filter fun j => g (S.getD j []))[j]? = some p ∧ RN (fun j => S.getD j []) p v H) : ParL H acc (S.filter g) := by
  have e : S.filter g = ((List.range S.length).filter fun j => g (S.getD j [])).map fun j => S.getD j [] := by
    have e2 : S.filter g = ((List.range S.length).map fun j => S.getD j []).filter g := by rw [range_getD]
    rw [e2, List.filter_map]
    rfl
  rw [e]
  refine ⟨by rw [List.length_map]; exact hl, fun j q hq => ?_⟩
  rw [List.getElem?_map] at hq
  have jl : j < acc.length := by
    by_cases z : j < acc.length
    · exact z
    · rw [List.getElem?_eq_none (by omega)] at hq
      cases hq
  obtain ⟨p, h1, b, h2, h3⟩ := h j _ (List.getElem?_eq_getElem jl)
  rw [h1] at hq
  have hq : S.getD p [] = q := Option.some.inj hq
  rw [← hq]
  exact ⟨b, by rw [List.getElem?_eq_getElem jl, h2], h3⟩
theorem few_pairs {m : Nat} (h2 : 2 ≤ m) (h7 : m ≤ 7) : ((sortB m).filter fun q => decide (q.length = 2)).length ≤ 21 := by
  have e : ((sortB m).filter fun q => decide (q.length = 2)).length = ((lotsB m).filter fun q => decide (q.length = 2)).length := ((List.mergeSort_perm _ _).filter _).length_eq
  rw [e]
  rcases (show m = 2 ∨ m = 3 ∨ m = 4 ∨ m = 5 ∨ m = 6 ∨ m = 7 by omega) with rfl | rfl | rfl | rfl | rfl | rfl <;> decide +kernel
theorem rows_mem {H : Hp} {L : List (List Nat)} : ∀ {acc : List V}, (∀ v ∈ acc, ∃ b q, v = .ref b ∧ H b = some (.tup (natsV q)) ∧ q ∈ L) → ∃ E, ParL H acc E ∧ E.length = acc.length ∧ ∀ q ∈ E, q ∈ L
  | [], _ => ⟨[], ParL.nil, rfl, fun q h => by cases h⟩
  | v :: r, h => by
    obtain ⟨b, q, rfl, hb, hq⟩ := h v List.mem_cons_self
    obtain ⟨E, h1, h2, h3⟩ := rows_mem fun v hv => h v (List.mem_cons_of_mem _ hv)
    refine ⟨q :: E, ⟨by rw [List.length_cons, List.length_cons, h2], fun j p e => ?_⟩, by rw [List.length_cons, List.length_cons, h2], fun p hp => ?_⟩
    · cases j with
      | zero => exact ⟨b, rfl, by rw [← Option.some.inj e]; exact hb⟩
      | succ j => exact h1.2 j p e
    · rcases List.mem_cons.mp hp with e | e
      · rw [e]; exact hq
      · exact h3 p e
theorem graph_ok {m : Nat} {E : List (List Nat)} (h : ∀ q ∈ E, q ∈ (sortB m).filter fun q => decide (q.length = 2)) (hl : m + E.length ≤ 400) : OkP (List.replicate m [] ++ E) := by
  refine ⟨fun j q e => ?_, by rw [List.length_append, List.length_replicate]; exact hl⟩
  by_cases hj : j < m
  · rw [List.getElem?_append_left (by rw [List.length_replicate]; exact hj), List.getElem?_replicate, if_pos hj] at e
    rw [← Option.some.inj e]
    exact ⟨List.Pairwise.nil, (fun x hx => by cases hx), by decide⟩
  · rw [List.getElem?_append_right (by rw [List.length_replicate]; omega)] at e
    obtain ⟨h1, h2⟩ := List.mem_filter.mp (h q (List.mem_of_getElem? e))
    obtain ⟨asc, lt⟩ := sortB_mem.mp h1
    have h2 := of_decide_eq_true h2
    exact ⟨asc, fun x hx => by have := lt x hx; omega, by omega⟩
theorem OkP.snoc {P : List (List Nat)} {q : List Nat} (h : OkP P) (hq : OkL q P.length) (hn : P.length < 400) : OkP (P ++ [q]) := by
  refine ⟨fun j r e => ?_, by rw [List.length_append]; exact hn⟩
  by_cases hj : j < P.length
  · rw [List.getElem?_append_left hj] at e
    exact h.ok j r e
  · rw [List.getElem?_append_right (by omega)] at e
    have := (List.getElem?_eq_some_iff.mp e).1
    rw [List.length_singleton] at this
    have z : j - P.length = 0 := by omega
    rw [z] at e
    have e : q = r := Option.some.inj e
    rw [← e, show j = P.length by omega]
    exact hq
local macro_rules | `(tactic| tm_at "fld") => `(tactic| refine ⟨_, _, _, _, _, rfl, by tm_at "hp", by assumption, by assumption, by first | exact rtF_steps _ | fail "fld", ?_⟩)
theorem other_nats {F : List Nat} : ∀ {acc : List V}, acc.length = F.length → (∀ (j : Nat) v, acc[j]? = some v → ∃ x : Nat, v = .int (x : Int) ∧ x ≤ 6 ∧ (0 < x ↔ 0 < F.getD j 0)) → ∃ G, acc = natsV G ∧ G.length = F.length ∧ (∀ x ∈ G, x ≤ 6) ∧ ∀ x, x < F.length → posB G x = posB F x := by
  intro acc hl h
  obtain ⟨G, rfl, hG⟩ := nats_le (m := 6) (xs := acc) fun v hv => by
    obtain ⟨j, hj, e⟩ := List.mem_iff_getElem.mp hv
    obtain ⟨x, e1, e2, _⟩ := h j v (by rw [List.getElem?_eq_getElem hj, e])
    exact ⟨x, e1, e2⟩
  rw [natsV_len] at hl
  refine ⟨G, rfl, hl, hG, fun x hx => ?_⟩
  obtain ⟨y, e1, _, e3⟩ := h x _ (natsV_getD (by omega))
  have e1 : ((G.getD x 0 : Nat) : Int) = (y : Int) := by injection e1
  unfold posB
  rw [decide_eq_decide, show G.getD x 0 = y by omega]
  exact e3
theorem srt_pair {it : List Nat} {x y : Nat} (h : it.Perm [x, y]) (w : it.Pairwise (· ≤ ·)) : it = srt2 x y := by
  refine List.Perm.eq_of_pairwise (le := (· ≤ ·)) (fun a b _ _ h1 h2 => Nat.le_antisymm h1 h2) w ?_ (h.trans ?_)
  · unfold srt2
    by_cases z : x ≤ y
    · rw [if_pos z]
      exact List.pairwise_cons.mpr ⟨fun k hk => by rw [List.mem_singleton.mp hk]; exact z, List.pairwise_singleton _ _⟩
    · rw [if_neg z]
      exact List.pairwise_cons.mpr ⟨fun k hk => by rw [List.mem_singleton.mp hk]; omega, List.pairwise_singleton _ _⟩
  · unfold srt2
    by_cases z : x ≤ y
    · rw [if_pos z]
    · rw [if_neg z]
      exact List.Perm.swap y x []
theorem rept_any {K : PySem.W.Frag} {H : Hp} {l e : Addr} {n : Nat} {Q : VK} (hl : H l = some (.tup [.ref e])) (h1 : 1 ≤ n) (hn : n ≤ 1000)
    (k : ∀ p H', Same H H' → H' p = some (.tup (List.replicate n (.ref e))) → Q (.ref p) H') : rRepT1 K (.ref l) (.int (n : Int)) H Q := by
  refine ⟨l, (n : Int), [.ref e], rfl, rfl, ?_⟩
  by_cases z : n = 1
  · refine .inl ⟨by omega, SqT.of hl, k l H (Same.refl H) ?_⟩
    rw [z]
    exact hl
  · refine .inr ⟨SqT.of hl, by simp, by omega, by omega, by show 1 ≤ 1000; decide, fun p np => ?_⟩
    rw [Int.toNat_natCast, flat_one]
    exact k p _ (Same.new (Same.refl H) np) upd_same
theorem two_at (b : Bool) (x y : Int) : ∃ e, (e = x ∨ e = y) ∧ atI [V.int x, V.int y] (if b = true then 1 else 0) = some (.int e) := by
  cases b
  · exact ⟨x, .inl rfl, rfl⟩
  · exact ⟨y, .inr rfl, rfl⟩
def sp_law (K : PySem.W.Frag) : Sp := fun vs H Q _ => ∃ (a : Addr) (ns : List Int), vs = [.ref a] ∧ SqL K H a (ns.map V.int) ∧ ns.length ≤ 63 ∧ ∀ H', Q (.bl true) H'
theorem sc_law : FnScope ["_law_script", "_law_hand_here", "_law_turn", "_law_many", "_law_parents_here", "_law_sheet_here", "_law_brought_here", "_law_book", "_law_due", "_law_told", "_law_other", "_law_edges", "_law_order_here", "_law_names", "_law_moved", "_law_lot", "_law_number", "_law_kind", "_law_a", "_law_b"] ["_law_script"] (defScope s_law) := ⟨rfl, rfl, rfl, by decide +kernel, rfl, by decide +kernel, by decide +kernel⟩
theorem ok_law (T : Top P K mg) : FnOk P w K mg base CX0 9 T.f_law T.fd_law ["_law_script"] (sp_law K) := by
  have G_Book___init__ := ok_Book___init__ (P := P) (w := w) (base := base) T
  have G__law_brought := ok__law_brought (P := P) (w := w) (base := base) T
  have G__law_draw := ok__law_draw (P := P) (w := w) (base := base) T
  have G__law_graph := ok__law_graph (P := P) (w := w) (base := base) T
  have G__law_hand := ok__law_hand (P := P) (w := w) (base := base) T
  have G__law_is := ok__law_is (P := P) (w := w) (base := base) T
  have G__law_lots := ok__law_lots (P := P) (w := w) (base := base) T
  have G__law_order := ok__law_order (P := P) (w := w) (base := base) T
  have G__law_pairs := ok__law_pairs (P := P) (w := w) (base := base) T
  have G__law_parents := ok__law_parents (P := P) (w := w) (base := base) T
  have G__law_sheet := ok__law_sheet (P := P) (w := w) (base := base) T
  have G_quarrels := ok_quarrels (P := P) (w := w) (base := base) T
  have G_reordered := ok_reordered (P := P) (w := w) (base := base) T
  refine T.F_law.ok sc_law (fun vs H Q E h => ?_) (fun cdv A outer s H vs Q E hr h => ?_)
  · obtain ⟨a, ns, rfl, _⟩ := h
    rfl
  · obtain ⟨a, ns, rfl, hS, hlen, k⟩ := h
    refine ⟨_, (pss_cons (ps_set (i := 1) sc_law.nd rfl (Or.inr rfl) (pe_call G__law_hand (hr.mono (by decide)) (by rfl) T.g__law_hand T.F__law_hand.kp T.b__law_hand .nil pass0 (pa_cons (pv 0) pa_nil)))
      (pss_cons (ps_for PassesOwn.never rfl (pi_range1 rfl T.z_range (pa_cons pe_int pa_nil)) (pg_name (i := 2) sc_law.nd rfl (Or.inl rfl))
      (pss_cons (ps_set (i := 3) sc_law.nd rfl (Or.inl rfl) (pe_op op_add pe_int (pe_call G__law_draw (hr.mono (by decide)) (by rfl) T.g__law_draw T.F__law_draw.kp T.b__law_draw .nil pass0 (pa_cons (pv 1) (pa_cons (pe_ix (r := rIxL K) ix_list (pe_lst (pa_cons pe_int (pa_cons pe_int pa_nil))) (pe_callTy (T := "int") call_int1 (by rfl) T.z_int (by decide +kernel) (pa_cons (pe_cmpR op_eq (pe_call G__law_draw (hr.mono (by decide)) (by rfl) T.g__law_draw T.F__law_draw.kp T.b__law_draw .nil pass0 (pa_cons (pv 1) (pa_cons pe_int pa_nil))) pe_int (nomark _)) pa_nil)) (fun _ _ => rfl)) pa_nil)))))
      (pss_cons (ps_set (i := 4) sc_law.nd rfl (Or.inl rfl) (pe_call G__law_parents (hr.mono (by decide)) (by rfl) T.g__law_parents T.F__law_parents.kp T.b__law_parents .nil pass0 (pa_cons (pv 1) (pa_cons (pv 3) (pa_cons pe_int pa_nil)))))
      (C8.pss_cut (ps_if (pt_cmpR op_eq (pe_call G__law_draw (hr.mono (by decide)) (by rfl) T.g__law_draw T.F__law_draw.kp T.b__law_draw .nil pass0 (pa_cons (pv 1) (pa_cons pe_int pa_nil))) pe_int (nomark _)) (pss_cons (ps_set (i := 3) sc_law.nd rfl (Or.inl rfl) (pe_op op_add pe_int (pe_call G__law_draw (hr.mono (by decide)) (by rfl) T.g__law_draw T.F__law_draw.kp T.b__law_draw .nil pass0 (pa_cons (pv 1) (pa_cons pe_int pa_nil)))))
      (pss_cons (ps_setLc (i := 11) (own := [("_law_lot", 15)]) (g := gName 15) rfl sc_law.nd rfl rfl (sw_true rfl rfl rfl (by decide +kernel)) (pi_list (pe_call G__law_lots (hr.mono (by decide)) (by rfl) T.g__law_lots T.F__law_lots.kp T.b__law_lots .nil pass0 (pa_cons (pv 3) pa_nil))) (blkOk_by (own := [("_law_lot", 15)]) (N := ["_law_script", "_law_hand_here", "_law_turn", "_law_many", "_law_parents_here", "_law_sheet_here", "_law_brought_here", "_law_book", "_law_due", "_law_told", "_law_other", "_law_edges", "_law_order_here", "_law_names", "_law_moved", "_law_lot", "_law_number", "_law_kind", "_law_a", "_law_b"]) (sc := defScope s_law) (by decide +kernel)) (fun _ _ _ _ _ => (pg_name (i := 15) sc_law.nd rfl (Or.inl rfl))) (fun _ _ _ _ _ => (pts_one (pt_cmpR op_eq (pe_callB (r := rLenQ K) (id := "len") call_len_seq (by rfl) T.z_len (by decide +kernel) (pa_cons (pv 15) pa_nil)) pe_int (nomark _)))) (fun _ _ _ _ _ => (pv 15)))
      (pss_cons (ps_set (i := 4) sc_law.nd rfl (Or.inl rfl) (pe_call G__law_graph (hr.mono (by decide)) (by rfl) T.g__law_graph T.F__law_graph.kp T.b__law_graph .nil pass0 (pa_cons (pv 3) (pa_cons (pe_lc (own := [("_law_lot", 15)]) (g := gName 15) rfl sc_law.nd (pi_list (pv 11)) (blkOk_by (own := [("_law_lot", 15)]) (N := ["_law_script", "_law_hand_here", "_law_turn", "_law_many", "_law_parents_here", "_law_sheet_here", "_law_brought_here", "_law_book", "_law_due", "_law_told", "_law_other", "_law_edges", "_law_order_here", "_law_names", "_law_moved", "_law_lot", "_law_number", "_law_kind", "_law_a", "_law_b"]) (sc := defScope s_law) (by decide +kernel)) (fun _ _ _ _ _ => (pg_name (i := 15) sc_law.nd rfl (Or.inl rfl))) (fun _ _ _ _ _ => (pts_one (pt_cmpR op_eq (pe_call G__law_draw (hr.mono (by decide)) (by rfl) T.g__law_draw T.F__law_draw.kp T.b__law_draw .nil pass0 (pa_cons (pv 1) (pa_cons pe_int pa_nil))) pe_int (nomark _)))) (fun _ _ _ _ _ => (pv 15))) pa_nil))))
      (pss_one (ps_set (i := 3) sc_law.nd rfl (Or.inl rfl) (pe_callB (r := rLenQ K) (id := "len") call_len_seq (by rfl) T.z_len (by decide +kernel) (pa_cons (pv 4) pa_nil))))))) pss_nil)
      (pss_cons (ps_set (i := 5) sc_law.nd rfl (Or.inl rfl) (pe_call G__law_sheet (hr.mono (by decide)) (by rfl) T.g__law_sheet T.F__law_sheet.kp T.b__law_sheet .nil pass0 (pa_cons (pv 4) pa_nil)))
      (pss_cons (ps_set (i := 6) sc_law.nd rfl (Or.inr rfl) (pe_call G__law_brought (hr.mono (by decide)) (by rfl) T.g__law_brought T.F__law_brought.kp T.b__law_brought .nil pass0 (pa_cons (pv 1) (pa_cons (pv 3) (pa_cons pe_int pa_nil)))))
      (pss_cons (ps_set (i := 7) sc_law.nd rfl (Or.inl rfl) (pe_make T.M_Book G_Book___init__ (hr.mono (by decide)) (by rfl) T.g_Book T.b_Book___init__ .nil pass0 (pa_cons (pv 4) pa_nil)))
      (pss_cons (ps_set (i := 8) sc_law.nd rfl (Or.inl rfl) (pe_call G__law_pairs (hr.mono (by decide)) (by rfl) T.g__law_pairs T.F__law_pairs.kp T.b__law_pairs .nil pass0 (pa_cons (pv 5) (pa_cons (pv 6) pa_nil))))
      (pss_cons (ps_set (i := 9) sc_law.nd rfl (Or.inl rfl) (pe_callS G_quarrels (hr.mono (by decide)) (by rfl) T.g_quarrels T.F_quarrels.kp T.b_quarrels (fun σ => passAt takes0 σ) (by exact (pa_cons (pv 7) (pa_cons (pv 6) pa_nil)))))
      (pss_cons (ps_if (pt_not (pt_val (pe_call G__law_is (hr.mono (by decide)) (by rfl) T.g__law_is T.F__law_is.kp T.b__law_is .nil pass0 (pa_cons (pv 9) (pa_cons (pv 8) pa_nil))))) (pss_one (ps_ret pe_bl)) pss_nil)
      (pss_cons (ps_expr (pe_bm PySem.F.plainAttrs_list PySem.F.slot_list_append PySem.F.type_list_append mt_append (pv 9) (pa_cons pe_non pa_nil)))
      (pss_cons (ps_set (i := 10) sc_law.nd rfl (Or.inl rfl) (pe_callTy (r := rTupQ K) (T := "tuple") call_tuple_of (by rfl) T.z_tuple (by decide +kernel) (pa_cons (pe_lc (own := [("_law_number", 16)]) (g := gName 16) (tt := tYes) rfl sc_law.nd (pi_tup (pv 6)) (blkOk_by (own := [("_law_number", 16)]) (N := ["_law_script", "_law_hand_here", "_law_turn", "_law_many", "_law_parents_here", "_law_sheet_here", "_law_brought_here", "_law_book", "_law_due", "_law_told", "_law_other", "_law_edges", "_law_order_here", "_law_names", "_law_moved", "_law_lot", "_law_number", "_law_kind", "_law_a", "_law_b"]) (sc := defScope s_law) (by decide +kernel)) (fun _ _ _ _ _ => (pg_name (i := 16) sc_law.nd rfl (Or.inl rfl))) (fun _ _ _ _ _ => pts_nil) (fun _ _ _ _ _ => (pe_op op_mul (pe_callTy (T := "int") call_int1 (by rfl) T.z_int (by decide +kernel) (pa_cons (pe_cmpR op_gt (pv 16) pe_int (nomark _)) pa_nil)) (pe_op op_add pe_int (pe_call G__law_draw (hr.mono (by decide)) (by rfl) T.g__law_draw T.F__law_draw.kp T.b__law_draw .nil pass0 (pa_cons (pv 1) (pa_cons pe_int pa_nil))))))) pa_nil)))
      (pss_cons (ps_if (PW.pt (pw_or (pt_cmpR (op_neD hr.units) (pe_callS G_quarrels (hr.mono (by decide)) (by rfl) T.g_quarrels T.F_quarrels.kp T.b_quarrels (fun σ => passAt takes0 σ) (by exact (pa_cons (pv 7) (pa_cons (pv 10) pa_nil)))) (pv 8) (nomark _)) (pw_or1 (pt_cmpR (op_neD hr.units) (pe_callS G_quarrels (hr.mono (by decide)) (by rfl) T.g_quarrels T.F_quarrels.kp T.b_quarrels (fun σ => passAt takes0 σ) (by exact (pa_cons (pe_make T.M_Book G_Book___init__ (hr.mono (by decide)) (by rfl) T.g_Book T.b_Book___init__ .nil pass0 (pa_cons (pe_op op_catA (pv 4) (pe_tup (pa_cons (pe_tup (pa_cons (pe_op op_sub (pv 3) pe_int) pa_nil)) pa_nil))) pa_nil)) (pa_cons (pe_op op_catA (pv 6) (pe_tup (pa_cons pe_int pa_nil))) pa_nil)))) (pv 8) (nomark _))))) (pss_one (ps_ret pe_bl)) pss_nil)
      (C8.pss_cut (ps_if (pt_cmpR op_lt (pv 3) pe_int (nomark _)) (pss_cons (ps_set (i := 12) sc_law.nd rfl (Or.inr rfl) (pe_call G__law_order (hr.mono (by decide)) (by rfl) T.g__law_order T.F__law_order.kp T.b__law_order .nil pass0 (pa_cons (pv 1) (pa_cons (pv 4) pa_nil))))
      (pss_cons (ps_set (i := 13) sc_law.nd rfl (Or.inr rfl) (pe_lc (own := [("_law_kind", 17)]) (g := gName 17) (tt := tYes) rfl sc_law.nd (pi_range1 rfl T.z_range (pa_cons (pv 3) pa_nil)) (blkOk_by (own := [("_law_kind", 17)]) (N := ["_law_script", "_law_hand_here", "_law_turn", "_law_many", "_law_parents_here", "_law_sheet_here", "_law_brought_here", "_law_book", "_law_due", "_law_told", "_law_other", "_law_edges", "_law_order_here", "_law_names", "_law_moved", "_law_lot", "_law_number", "_law_kind", "_law_a", "_law_b"]) (sc := defScope s_law) (by decide +kernel)) (fun _ _ _ _ _ => (pg_name (i := 17) sc_law.nd rfl (Or.inl rfl))) (fun _ _ _ _ _ => pts_nil) (fun _ _ _ _ _ => (pe_bmZ (r := rIndexT K) PySem.F.slot_tuple_index PySem.F.type_tuple_index mt_indexT (pv 12) (pa_cons (pv 17) pa_nil)))))
      (pss_cons (ps_set (i := 14) sc_law.nd rfl (Or.inl rfl) (pe_callB (id := "sorted") (cr_sortedD hr.units) (by rfl) T.z_sorted (by decide +kernel) (pa_cons (pe_lc (own := [("_law_a", 18), ("_law_b", 19)]) (tt := tYes) rfl sc_law.nd (pi_list (pv 8)) (blkOk_by (own := [("_law_a", 18), ("_law_b", 19)]) (N := ["_law_script", "_law_hand_here", "_law_turn", "_law_many", "_law_parents_here", "_law_sheet_here", "_law_brought_here", "_law_book", "_law_due", "_law_told", "_law_other", "_law_edges", "_law_order_here", "_law_names", "_law_moved", "_law_lot", "_law_number", "_law_kind", "_law_a", "_law_b"]) (sc := defScope s_law) (by decide +kernel)) (fun _ _ _ _ _ => (pg_tupK (K := K) 2 rfl rfl (pgs_cons (pg_name (i := 18) sc_law.nd rfl (Or.inl rfl)) (pgs_cons (pg_name (i := 19) sc_law.nd rfl (Or.inl rfl)) pgs_nil)))) (fun _ _ _ _ _ => pts_nil) (fun _ _ _ _ _ => (pe_callTy (r := rTupQ K) (T := "tuple") call_tuple_of (by rfl) T.z_tuple (by decide +kernel) (pa_cons (pe_callB (r := rSortedI K) (id := "sorted") cr_sortedI (by rfl) T.z_sorted (by decide +kernel) (pa_cons (pe_lst (pa_cons (pe_ix (r := rIxL K) ix_list (pv 13) (pv 18) (fun _ _ => rfl)) (pa_cons (pe_ix (r := rIxL K) ix_list (pv 13) (pv 19) (fun _ _ => rfl)) pa_nil))) pa_nil)) pa_nil)))) pa_nil)))
      (pss_one (ps_if (pt_cmpR (op_neD hr.units) (pe_callS G_quarrels (hr.mono (by decide)) (by rfl) T.g_quarrels T.F_quarrels.kp T.b_quarrels (fun σ => passAt takes0 σ) (by exact (pa_cons (pe_callS G_reordered hr (by rfl) T.g_reordered T.F_reordered.kp T.b_reordered (fun σ => passAt takes0 σ) (by exact (pa_cons (pv 7) (pa_cons (pv 12) pa_nil)))) (pa_cons (pe_callTy (r := rTupQ K) (T := "tuple") call_tuple_of (by rfl) T.z_tuple (by decide +kernel) (pa_cons (pe_lc (own := [("_law_kind", 17)]) (g := gName 17) (tt := tYes) rfl sc_law.nd (pi_tup (pv 12)) (blkOk_by (own := [("_law_kind", 17)]) (N := ["_law_script", "_law_hand_here", "_law_turn", "_law_many", "_law_parents_here", "_law_sheet_here", "_law_brought_here", "_law_book", "_law_due", "_law_told", "_law_other", "_law_edges", "_law_order_here", "_law_names", "_law_moved", "_law_lot", "_law_number", "_law_kind", "_law_a", "_law_b"]) (sc := defScope s_law) (by decide +kernel)) (fun _ _ _ _ _ => (pg_name (i := 17) sc_law.nd rfl (Or.inl rfl))) (fun _ _ _ _ _ => pts_nil) (fun _ _ _ _ _ => (pe_ix (r := rIxT K) ix_tup (pv 6) (pv 17) (fun _ _ => rfl)))) pa_nil)) pa_nil)))) (pv 14) (nomark _)) (pss_one (ps_ret pe_bl)) pss_nil))))) pss_nil)
      (pss_one (ps_if (pt_cmpR (op_neD hr.units) (pe_callS G_quarrels (hr.mono (by decide)) (by rfl) T.g_quarrels T.F_quarrels.kp T.b_quarrels (fun σ => passAt takes0 σ) (by exact (pa_cons (pe_make T.M_Book G_Book___init__ (hr.mono (by decide)) (by rfl) T.g_Book T.b_Book___init__ .nil pass0 (pa_cons (pe_op op_repT1 (pe_tup (pa_cons (pe_tup pa_nil) pa_nil)) (pv 3)) pa_nil)) (pa_cons (pv 6) pa_nil)))) (pe_lst pa_nil) (nomark _)) (pss_one (ps_ret pe_bl)) pss_nil))))))))))))))))
      (pss_one (ps_ret pe_bl)))), ?_⟩
    have kc : KitC K T.C_Book := ⟨T.cl_Book, T.ty_Book, T.kt_Book_int, T.kt_Book_bool, T.kt_Book_tuple, T.kt_Book_list⟩
    tm_at "w"
    refine ⟨a, ns, rfl, hS, hlen, fun τ H1 s1 _ m1 => ?_⟩
    have est : L2.start ["_law_script", "_law_hand_here", "_law_turn", "_law_many", "_law_parents_here", "_law_sheet_here", "_law_brought_here", "_law_book", "_law_due", "_law_told", "_law_other", "_law_edges", "_law_order_here", "_law_names", "_law_moved", "_law_lot", "_law_number", "_law_kind", "_law_a", "_law_b"] [V.ref a] = ([some (.ref a), none, none, none, none, none, none, none, none, none, none, none, none, none, none, none, none, none, none, none] : L2.St) := rfl
    rw [est]
    tm_at "w"
    refine for_range (lo := 0) (n := (3 : Int).toNat) (fun i σ H' => ∃ (v2 v3 v4 v5 v6 v7 v8 v9 v10 v11 v12 v13 v14 v15 v16 v17 v18 v19 : Option V), Tape τ H' ∧ σ = [some (.ref a), some (.ref τ.t), v2, v3, v4, v5, v6, v7, v8, v9, v10, v11, v12, v13, v14, v15, v16, v17, v18, v19]) ⟨none, none, none, none, none, none, none, none, none, none, none, none, none, none, none, none, none, none, m1, rfl⟩ ?_ ?_
    · clear hS hlen s1 m1 est
      rintro i σ H2 hi ⟨v2, v3, v4, v5, v6, v7, v8, v9, v10, v11, v12, v13, v14, v15, v16, v17, v18, v19, m2, rfl⟩
      tm_at "w"
      intro D0 nD0
      have nD0t := m2.mv.neN nD0
      tm_at "w"
      refine ⟨τ, _, rfl, m2.new nD0, by decide, by decide, fun r H3 m3 h0 h1 => ?_⟩
      tm_at "w"
      refine .inr ⟨_, rfl, ?_⟩
      obtain ⟨e, he, eat⟩ := two_at (decide (V.int r = V.int 0)) 9 40
      have hD3 : H3 D0 = some (.lst [V.int 9, V.int 40]) := m3.keep _ _ nD0t upd_same
      refine ⟨_, _, _, _, rfl, rfl, SqL.of hD3, eat, ?_⟩
      tm_at "w"
      refine ⟨τ, _, rfl, m3.now, by omega, by omega, fun r4 H4 m4 h4 h4' => ?_⟩
      obtain ⟨n, hn, n1, n40⟩ : ∃ n : Nat, 1 + r4 = (n : Int) ∧ 1 ≤ n ∧ n ≤ 40 := ⟨(1 + r4).toNat, by omega, by omega, by omega⟩
      have t4 := m4.now
      clear hD3 eat he m3 m4 h0 h1 h4 h4' nD0t nD0
      simp only [List.set_cons_zero, List.set_cons_succ]
      tm_at "w"
      refine ⟨τ, n, 4, by show [V.ref τ.t, V.int (1 + r4), V.int 4] = _; rw [hn]; rfl, t4, by omega, by decide, fun ra P H5 m5 hA okP hPn => ?_⟩
      simp only [List.set_cons_zero, List.set_cons_succ]
      tm_at "w"
      refine ⟨fun σ J => ∃ (P : List (List Nat)) (ra : Addr) (v2 v3 v4 v5 v6 v7 v8 v9 v10 v11 v12 v13 v14 v15 v16 v17 v18 v19 : Option V), (Tape τ J ∧ ParAt J ra P ∧ OkP P ∧ 1 ≤ P.length ∧ P.length ≤ 60) ∧ σ = [some (.ref a), some (.ref τ.t), v2, some (.int (P.length : Int)), some (.ref ra), v5, v6, v7, v8, v9, v10, v11, v12, v13, v14, v15, v16, v17, v18, v19], ?_, ?_⟩
      · tm_at "w"
        refine ⟨τ, _, rfl, m5.now, by decide, by decide, fun r6 H6 m6 h6 h6' => ?_⟩
        tm_at "w"
        refine iteI (fun z => ?_) (fun z => ?_)
        · tm_at "w"
          refine ⟨τ, _, rfl, m6.now, by decide, by decide, fun r7 H7 m7 h7 h7' => ?_⟩
          obtain ⟨m, hm, m2', m7'⟩ : ∃ m : Nat, 2 + r7 = (m : Int) ∧ 2 ≤ m ∧ m ≤ 7 := ⟨(2 + r7).toNat, by omega, by omega, by omega⟩
          simp only [List.set_cons_zero, List.set_cons_succ]
          tm_at "w"
          refine ⟨m, by show [V.int (2 + r7)] = _; rw [hm], by omega, fun l us H8 s8 hl hpl => ?_⟩
          have ul := hpl.1
          have few2 := few_pairs m2' m7'
          have sl := sortB_len m
          have p7 : 2 ^ m ≤ 2 ^ 7 := Nat.pow_le_pow_right (by decide) m7'
          have rok : ∀ {E}, (∀ q ∈ E, q ∈ (sortB m).filter fun q => decide (q.length = 2)) → m + E.length ≤ 400 → OkP (List.replicate m [] ++ E) := graph_ok
          have t8 := m7.now.same s8
          generalize sortB m = S at *
          refine ⟨l, rfl, ⟨_, SqL.of hl⟩, fun D nD => lc_listFR (fun j => decide ((S.getD j []).length = 2)) (RN fun j => S.getD j []) (RN.tk _) hl nD (by omega) ?_ ?_⟩
          · intro j x H9 N M hx s9 kN kM
            obtain ⟨b, q, rfl, hq, hb⟩ := hpl.here hx
            have hb9 := s9 _ _ hb
            rw [getD_at hq] at kN kM
            have ql := natsV_len q
            tm_at "w"
            refine iteI (fun z => ?_) (fun z => ?_)
            · tm_at "w"
              exact kN (decide_eq_true (by omega)) _ _ (Same.refl H9) ⟨b, rfl, by show _ = some (HO.tup (natsV (S.getD j []))); rw [getD_at hq]; exact hb9⟩
            · exact kM (decide_eq_false (by omega)) _ (Same.refl H9)
          · intro H9 acc s9 hD hlen hR
            rw [ul] at hlen hR
            have pe := rows_filter (g := fun q => decide (q.length = 2)) hlen hR
            have al := pe.1
            generalize S.filter (fun q => decide (q.length = 2)) = E0 at *
            have t9 := t8.same s9
            have Dt := t8.mv.neF nD
            simp only [List.set_cons_zero, List.set_cons_succ]
            tm_at "w"
            refine ⟨⟨_, SqL.of hD⟩, fun D2 nD2 => lc_listMF (fun v H => ∃ b q, v = .ref b ∧ H b = some (.tup (natsV q)) ∧ q ∈ E0) (fun v H H' h tk => by
              obtain ⟨b, q, h1, h2, h3⟩ := h
              exact ⟨b, q, h1, tk _ _ h2, h3⟩) hD Dt t9 nD2 (by omega) ?_ ?_⟩
            · intro j x HA N M hx mA kN kM
              obtain ⟨b, q, rfl, hq, hb⟩ := pe.here hx
              tm_at "w"
              refine ⟨τ, _, rfl, mA.now, by decide, by decide, fun rB HB mB hB hB' => ?_⟩
              tm_at "w"
              refine iteI (fun z => ?_) (fun z => ?_)
              · tm_at "w"
                exact kN _ _ mB ⟨b, q, rfl, mB.tk _ _ (mA.tk _ _ hb), List.mem_of_getElem? hq⟩
              · exact kM _ mB
            · intro HA acc2 mA hD2 hl2 hR2
              obtain ⟨E2, pE, lE, memE⟩ := rows_mem hR2
              tm_at "w"
              refine ⟨D2, m, acc2, E2, by show [V.int (2 + r7), V.ref D2] = _; rw [hm], hD2, pE, m2', by omega, by omega, fun p HB sB hp => ?_⟩
              have lP : (List.replicate m [] ++ E2).length = m + E2.length := by rw [List.length_append, List.length_replicate]
              have okE := rok memE (by omega)
              obtain ⟨ps, hps, pps⟩ := id hp
              have psl := pps.1
              rw [lP] at psl
              simp only [List.set_cons_zero, List.set_cons_succ]
              tm_at "w"
              have elen : (ps.length : Int) = (((List.replicate m [] ++ E2).length : Nat) : Int) := by rw [lP, psl]
              rw [elen]
              exact ⟨List.replicate m [] ++ E2, p, _, none, none, _, _, _, _, _, _, _, _, _, _, _, _, _, _, _, ⟨mA.now.same sB, hp, okE, by omega, by omega⟩, rfl⟩
        · have elen : 1 + r4 = ((P.length : Nat) : Int) := by rw [hn, hPn]
          rw [elen]
          exact ⟨P, ra, _, none, none, _, _, _, _, _, _, _, _, _, _, _, _, _, _, _, ⟨m6.now, hA.tk m6.tk, okP, by omega, by omega⟩, rfl⟩
      · clear hA okP hPn m5 t4 hn n1 n40
        rintro σ H5 ⟨P, ra, v2, v3, v4, v5, v6, v7, v8, v9, v10, v11, v12, v13, v14, v15, v16, v17, v18, v19, ⟨t5, hA, okP, p1, p60⟩, rfl⟩
        have few6 : ∀ q ∈ P, q.length ≤ 1000 := fun q hq => by
          obtain ⟨j, hj, e⟩ := List.mem_iff_getElem.mp hq
          have := (okP.ok j q (by rw [List.getElem?_eq_getElem hj, e])).few
          omega
        tm_at "w"
        refine ⟨ra, P, rfl, hA, okP, by omega, fun sh H6 s6 nsh hsh => ?_⟩
        have t6 := t5.same s6
        have sht : sh ≠ τ.t := t5.mv.neN nsh.e
        simp only [List.set_cons_zero, List.set_cons_succ]
        tm_at "w"
        refine ⟨τ, P.length, 6, rfl, t6, by omega, by decide, fun fa F H7 m7 hF fl f6 => ?_⟩
        have hsh7 := hsh.mv m7 sht
        have hA7 := (hA.tk (Same.tk s6)).tk m7.tk
        simp only [List.set_cons_zero, List.set_cons_succ]
        tm_at "w"
        refine mk_book hA7 okP fun b H8 mk8 _ => ?_
        have hF8 := mk8.same _ _ hF
        have hb8 := mk8.here
        simp only [List.set_cons_zero, List.set_cons_succ]
        tm_at "w"
        refine ⟨sh, fa, P, F, rfl, hsh7.same mk8.same, okP, by omega, hF8, fl, fun du dvs H9 s9 ndu hdu pdu => ?_⟩
        have hb9 := hb8.same s9
        have hF9 := s9 _ _ hF8
        have fv := natsV_len F
        have thF : ∀ (J : Hp) (G : List Nat) (g : Addr), Tape τ J → J g = some (.tup (natsV G)) → G.length ≤ 1000 → Th T.C_Book τ.t J 1 (.ref g) := fun J G g t h l => .tup 0 g _ (t.mv.neT h) h (by rw [natsV_len]; exact l) fun y hy => (by obtain ⟨n, _, rfl⟩ := List.mem_map.mp hy; exact .int 0 _)
        have bad : ∀ (J : Hp) (G : List Nat) (g : Addr) (k : Nat), J g = some (.tup (natsV G)) → G.length = k → (∀ x ∈ G, x ≤ 6) → fldB J (.ref g) k = false → False := fun J G g k h l h6 e => by
          rw [fldB_nats h l h6] at e
          cases e
        have t9 := ((m7.now).same mk8.same).same s9
        simp only [List.set_cons_zero, List.set_cons_succ]
        tm_at "w"
        refine ⟨b, .ref fa, P, τ.t, rfl, hb9, okP, by omega, kc, thF _ F fa t9 hF9 (by omega), fun a' F' ea hF' fl' f6' tl tvs HA sA ntl htl ptl => ?_, fun e => (bad _ F fa _ hF9 fl f6 e).elim⟩
        cases ea
        obtain rfl : F = F' := natsV_inj (HO.tup.inj (Option.some.inj (hF9.symm.trans hF')))
        clear hF' fl' f6'
        have qf := qua_few P F
        have q60 : P.length * P.length ≤ 60 * 60 := Nat.mul_le_mul p60 p60
        have pdA := pdu.tk (Same.tk sA)
        have hduA := sA _ _ hdu
        simp only [List.set_cons_zero, List.set_cons_succ]
        tm_at "w"
        refine ⟨_, _, rfl, Alk.lrows htl hduA ptl pdA (by omega) (fun q hq => by rw [qua_two q hq]; decide), fun HB sB => ?_⟩
        refine ⟨_, rfl, iteF ?_⟩
        have htlB := sB _ _ htl
        tm_at "w"
        refine ⟨_, _, _, rfl, rfl, htlB, lt_line (by rw [ptl.1]; omega), ?_⟩
        have sC9 : Same H9 (upd HB tl (.lst (tvs ++ [.non]))) := Same.mut (Same.trans sA sB) ntl
        generalize upd HB tl (.lst (tvs ++ [.non])) = HC at *
        have tC9 := t9.same sC9
        have hFC := sC9 _ _ hF9
        have hbC := hb9.same sC9
        have hduC := sC9 _ _ hdu
        have pdC := pdu.tk (Same.tk sC9)
        have hAC := hA7.tk (Same.tk (Same.trans (Same.trans mk8.same s9) sC9))
        have dut : du ≠ τ.t := (m7.now.same mk8.same).mv.neN ndu
        have nbt : b.lb ≠ τ.t := m7.now.mv.neN mk8.nl.e
        have fat : fa ≠ τ.t := t9.mv.neT hF9
        simp only [List.set_cons_zero, List.set_cons_succ]
        tm_at "w"
        refine ⟨⟨_, SqT.of hFC⟩, fun D nD => lc_tupM (fun i v _ => ∃ x : Nat, v = .int (x : Int) ∧ x ≤ 6 ∧ (0 < x ↔ 0 < F.getD i 0)) (fun _ _ _ _ h _ => h) hFC fat tC9 nD (by omega) ?_ ?_⟩
        · intro j x J N M hx mJ kN
          obtain ⟨y, hy, rfl, _⟩ := natsV_here hx
          tm_at "w"
          refine .inr ⟨_, rfl, ?_⟩
          tm_at "w"
          refine ⟨τ, _, rfl, mJ.now, by decide, by decide, fun rD HD mD hD hD' => ?_⟩
          by_cases z : 0 < y
          · rw [decide_eq_true (show (0 : Int) < (y : Int) by omega)]
            tm_at "w"
            exact kN _ _ mD ⟨(1 + rD).toNat, by show V.int ((if true = true then (1 : Int) else 0) * (1 + rD)) = _; rw [if_pos rfl, Int.one_mul, show (((1 + rD).toNat : Nat) : Int) = 1 + rD by omega], by omega, by rw [getD_at hy]; omega⟩
          · rw [decide_eq_false (show ¬ (0 : Int) < (y : Int) by omega)]
            tm_at "w"
            exact kN _ _ mD ⟨0, by show V.int ((if false = true then (1 : Int) else 0) * (1 + rD)) = _; rw [if_neg (by decide), Int.zero_mul]; rfl, by omega, by rw [getD_at hy]; omega⟩
        intro HD acc mD hD hl hR
        obtain ⟨G, rfl, gl, g6, gpos⟩ := other_nats (hl.trans fv) hR
        tm_at "w"
        intro g ng
        obtain ⟨HE, eE, sE, hg⟩ := new_hide (Same.new (o := .tup (natsV G)) (Same.refl HD) ng)
        rw [eE]
        have mE := mD.same sE
        have tE := mE.now
        have hFE := mE.keep _ _ fat hFC
        have hbE := (hbC.mv mD nbt).same sE
        have hduE := mE.keep _ _ dut hduC
        have pdE := pdC.tk mE.tk
        have hAE := hAC.tk mE.tk
        simp only [List.set_cons_zero, List.set_cons_succ]
        tm_at "w"
        refine ⟨b, .ref g, P, τ.t, rfl, hbE, okP, by omega, kc, thF _ G g tE hg (by omega), fun a' G' ea hG' gl' g6' t2 t2vs HF sF nt2 ht2 pt2 => ?_, fun e => (bad _ G g _ hg (gl.trans fl) g6 e).elim⟩
        cases ea
        obtain rfl : G = G' := natsV_inj (HO.tup.inj (Option.some.inj (hg.symm.trans hG')))
        have eqG : quaB P G = quaB P F := quaB_pos fun x hx => gpos x (by omega)
        rw [eqG] at pt2
        have hduF := sF _ _ hduE
        have pdF := pdE.tk (Same.tk sF)
        tm_at "w"
        refine ⟨_, _, .lst (SqL.of ht2) (dp_rows pt2), .lst (SqL.of hduF) (dp_rows pdF), listrows_shaped _, listrows_shaped _, ?_⟩
        rw [listrows_refl]
        have tF := tE.same sF
        have hFF := sF _ _ hFE
        have hbF := hbE.same sF
        obtain ⟨ps, hra, hps⟩ := hAE.tk (Same.tk sF)
        have psl := hps.1
        clear gl' g6' nsh s6 t5 t6 m7 s9 ndu pdu t9 ntl hl hR mD mE hD gl g6 gpos eqG nt2
        clear ht2 pt2 hsh hsh7 hA7 hF hF8 hb8 mk8 hb9 hF9 hdu htl pdA hduA htlB ptl sA sB hFC hbC hduC pdC hAC tC9 sC9 hFE hbE hduE pdE tE hAE hA hg hG' sE eE
        simp only [List.set_cons_zero, List.set_cons_succ]
        tm_at "w"
        intro p1 np1
        obtain ⟨HG, eG, sG, hp1⟩ := new_hide (Same.new (o := .tup [.int ((P.length : Int) - 1)]) (Same.refl HF) np1)
        show tNil _ (upd HF p1 (.tup [.int ((P.length : Int) - 1)])) _
        rw [eG]
        tm_at "w"
        intro p2 np2
        obtain ⟨HH, eH, sH, hp2⟩ := new_hide (Same.new (o := .tup [.ref p1]) (Same.refl HG) np2)
        rw [eH]
        have sFH := Same.trans sG sH
        refine cat_any (sFH _ _ hra) hp2 (by show ps.length + 1 ≤ sizeLine; exact Nat.le_of_lt (lt_line (by omega))) fun p3 HI sI hp3 => ?_
        have sFI := Same.trans sFH sI
        have hp1I : HI p1 = some (.tup (natsV [P.length - 1])) := by
          rw [(Same.trans sH sI) _ _ hp1]
          show some (HO.tup [V.int ((P.length : Int) - 1)]) = some (HO.tup [V.int ((P.length - 1 : Nat) : Int)])
          rw [show ((P.length : Int) - 1) = ((P.length - 1 : Nat) : Int) by omega]
        have okM : OkP (P ++ [[P.length - 1]]) := okP.snoc ⟨List.pairwise_singleton _ _, fun x hx => (by rw [List.mem_singleton.mp hx]; omega), by show 1 ≤ 6; decide⟩ (by omega)
        have lM : (P ++ [[P.length - 1]]).length = P.length + 1 := by rw [List.length_append]; rfl
        have hM : ParAt HI p3 (P ++ [[P.length - 1]]) := ⟨_, hp3, (hps.tk (Same.tk sFI)).snoc hp1I⟩
        tm_at "w"
        refine mk_book hM okM fun b2 HJ mkJ _ => ?_
        have sFJ := Same.trans sFI mkJ.same
        tm_at "w"
        intro q1 nq1
        obtain ⟨HK, eK, sK, hq1⟩ := new_hide (Same.new (o := .tup [.int 1]) (Same.refl HJ) nq1)
        rw [eK]
        have sFK := Same.trans sFJ sK
        refine cat_any (sFK _ _ hFF) hq1 (by show (natsV F).length + 1 ≤ sizeLine; exact Nat.le_of_lt (lt_line (by omega))) fun q2 HL sL hq2 => ?_
        have sFL := Same.trans sFK sL
        have tL := tF.same sFL
        have hq2 : HL q2 = some (.tup (natsV (F ++ [1]))) := by
          rw [hq2, ← natsV_snoc]
          rfl
        have f1l : (F ++ [1]).length = P.length + 1 := by rw [List.length_append, fl]; rfl
        have f16 : ∀ x ∈ F ++ [1], x ≤ 6 := fun x hx => by
          rcases List.mem_append.mp hx with h | h
          · exact f6 x h
          · rw [List.mem_singleton.mp h]
            decide
        have hb2L := (mkJ.here.same sK).same sL
        tm_at "w"
        refine ⟨b2, .ref q2, P ++ [[P.length - 1]], τ.t, rfl, hb2L, okM, by omega, kc, thF _ _ q2 tL hq2 (by omega), fun a' G' ea hG' gl' g6' t3 t3vs HM sM nt3 ht3 pt3 => ?_, fun e => (bad _ _ q2 _ hq2 (by omega) f16 e).elim⟩
        cases ea
        obtain rfl : F ++ [1] = G' := natsV_inj (HO.tup.inj (Option.some.inj (hq2.symm.trans hG')))
        rw [quaB_more okP okM fl (by omega)] at pt3
        have sFM := Same.trans sFL sM
        have hduM := sFM _ _ hduF
        have pdM := pdF.tk (Same.tk sFM)
        tm_at "w"
        refine ⟨_, _, .lst (SqL.of ht3) (dp_rows pt3), .lst (SqL.of hduM) (dp_rows pdM), listrows_shaped _, listrows_shaped _, ?_⟩
        rw [listrows_refl]
        have tM := tL.same sM
        have hFM := sFM _ _ hFF
        have hbM := hbF.same sFM
        have hAM : ParAt HM ra P := ⟨ps, sFM _ _ hra, hps.tk (Same.tk sFM)⟩
        clear gl' g6' hG' psl np1 eG sG np2 eH sH sFH sI sFI lM sFJ nq1 eK sK sFK sL sFL f1l f16 nt3 sM sFM okM sht sF
        clear ht3 pt3 hq2 hq1 hb2L mkJ hM hp1I hp3 hp2 hp1 hduF pdF tF hFF hbF hra hps tL
        simp only [List.set_cons_zero, List.set_cons_succ]
        refine ⟨_, rfl, iteF ?_⟩
        refine ⟨fun σ J => ∃ (v2 v9 v10 v11 v12 v13 v14 v15 v16 v17 v18 v19 : Option V), (Tape τ J ∧ J fa = some (.tup (natsV F))) ∧ σ = [some (.ref a), some (.ref τ.t), v2, some (.int (P.length : Int)), some (.ref ra), some (.ref sh), some (.ref fa), some (.ref b.b), some (.ref du), v9, v10, v11, v12, v13, v14, v15, v16, v17, v18, v19], ?_, ?_⟩
        · tm_at "w"
          refine iteD (fun z => ?_) (fun z => ?_)
          · tm_at "w"
            refine ⟨τ, ra, P, rfl, tM, hAM, okP, .inr fun t ob q HN mN ht dob pm hord => ?_⟩
            have nql := natsV_len q
            have ql := pm.len
            have bl : (natsV (backL q)).length = q.length := by rw [natsV_len, (backL_pm pm).len, ql]
            have atB : ∀ {x : Nat}, x < P.length → atI (natsV (backL q)) (x : Int) = some (.int ((q.idxOf x : Nat) : Int)) := fun {x} hx => by
              refine atI_nat ?_
              unfold natsV
              rw [List.getElem?_map, backL_at (by omega)]
              rfl
            have hbN := hbM.mv mN nbt
            have hduN := mN.keep _ _ dut hduM
            have pdN := pdM.tk mN.tk
            have hFN := mN.keep _ _ fat hFM
            have tN := mN.now
            clear mN tM hFM hbM hAM hduM pdM
            simp only [List.set_cons_zero, List.set_cons_succ]
            tm_at "w"
            intro B nB
            refine lc_rangeF (fun i => some (V.int ((q.idxOf i : Nat) : Int))) nB (by omega) ?_ ?_
            · intro i J N M hi sJ kN kM
              have il : i < P.length := by omega
              rw [Int.zero_add]
              have htJ := sJ _ _ ht
              tm_at "w"
              refine ⟨⟨t, ob, _, rfl, htJ, dob⟩, ?_⟩
              tm_at "w"
              refine ⟨t, q.map (fun z : Nat => (z : Int)), (i : Int), rfl, rfl, by rw [List.map_map]; exact .inl (.inr ⟨ob, htJ⟩), List.mem_map.mpr ⟨i, pm_mem pm il, rfl⟩, ?_⟩
              rw [idxOf_cast]
              exact kN _ _ rfl (Same.refl J)
            intro HO1 sO hB
            have eB : (List.range ((P.length : Int)).toNat).filterMap (fun i => some (V.int ((q.idxOf i : Nat) : Int))) = natsV (backL q) := by
              rw [show ((P.length : Int)).toNat = q.length by omega, List.filterMap_eq_map']
              unfold natsV backL
              rw [List.map_map]
              rfl
            rw [eB] at hB
            have hduO := sO _ _ hduN
            have pdO := pdN.tk (Same.tk sO)
            clear hduN pdN nB eB
            simp only [List.set_cons_zero, List.set_cons_succ]
            tm_at "w"
            refine ⟨⟨_, SqL.of hduO⟩, fun D nD => lc_listR (RN fun j => nameB q ((quaB P F).getD j [])) (RN.tk _) hduO nD (by rw [pdO.1]; omega) ?_ ?_⟩
            · intro j x J N M hx sJ kN
              obtain ⟨c, q0, rfl, hq0, hc⟩ := pdO.here hx
              obtain ⟨x0, y0, rfl, xy, yl, _⟩ := (mem_qua okP).mp (List.mem_of_getElem? hq0)
              have hcJ : J c = some (.tup [.int (x0 : Int), .int (y0 : Int)]) := sJ _ _ hc
              have hBJ := sJ _ _ hB
              tm_at "w"
              refine ⟨_, _, _, _, rfl, rfl, SqL.of hBJ, atB (by omega), ?_⟩
              tm_at "w"
              refine ⟨_, _, _, _, rfl, rfl, SqL.of hBJ, atB yl, ?_⟩
              tm_at "w"
              intro L2 nL2
              obtain ⟨J2, e2, s2, hL2⟩ := new_hide (Same.new (o := .lst [.int ((q.idxOf x0 : Nat) : Int), .int ((q.idxOf y0 : Nat) : Int)]) (Same.refl J) nL2)
              rw [e2]
              tm_at "w"
              refine ⟨L2, [q.idxOf x0, q.idxOf y0].map fun z : Nat => (z : Int), rfl, SqL.of hL2, fun ns q3 perm pw nq3 => ?_⟩
              obtain ⟨it, rfl, ip, iw⟩ := nats_perm perm pw
              have eit := srt_pair ip iw
              tm_at "w"
              intro t7 nt7
              refine kN _ _ (Same.new (Same.new s2 nq3) nt7) ⟨t7, rfl, ?_⟩
              show _ = some (HO.tup (natsV (nameB q ((quaB P F).getD j []))))
              rw [getD_at hq0]
              show _ = some (HO.tup (natsV (srt2 (q.idxOf x0) (q.idxOf y0))))
              rw [upd_same, ← eit, List.map_map]
              rfl
            intro HP acc sP hD hl hR
            have pM := parL_of hl hR
            have eM : (List.range dvs.length).map (fun j => nameB q ((quaB P F).getD j [])) = (quaB P F).map (nameB q) := by
              rw [pdO.1]
              have := congrArg (List.map (nameB q)) (range_getD (R := quaB P F))
              rw [List.map_map] at this
              exact this
            rw [eM] at pM
            have al := pM.1
            clear hl hR hduO hB nD eM bl atB nql
            tm_at "w"
            refine ⟨D, acc, rowsD ((quaB P F).map (nameB q)), rfl, SqL.of hD, dp_rows pM, rows_alike _, rows_sortable (fun y hy => ?_), rows_depth, fun mo nmo => ?_⟩
            · obtain ⟨q0, _, rfl⟩ := List.mem_map.mp hy
              unfold nameB srt2
              by_cases z : q.idxOf (q0.getD 0 0) ≤ q.idxOf (q0.getD 1 0)
              · rw [if_pos z]; exact List.cons_ne_nil _ _
              · rw [if_neg z]; exact List.cons_ne_nil _ _
            obtain ⟨HQ, eQ, sQ, hmo⟩ := new_hide (Same.new (o := .lst (((acc.zip (rowsD ((quaB P F).map (nameB q)))).mergeSort dLe).map (·.1))) (Same.refl HP) nmo)
            rw [eQ]
            have sNQ := Same.trans (Same.trans sO sP) sQ
            have pMQ := pM.tk (Same.tk sQ)
            clear hD sO sP sQ pM eQ nmo al
            simp only [List.set_cons_zero, List.set_cons_succ]
            tm_at "w"
            refine ⟨b, .ref t, P, τ.t, rfl, hbN.same sNQ, okP, kc, .inr ⟨t, q, rfl, .inr ⟨ob, sNQ _ _ ht⟩, pm, hord, fun d R HR mkR re => ?_⟩⟩
            have okR := re.ok okP pm hord
            have lR : R.length = P.length := by rw [re.len, ql]
            have sNR := Same.trans sNQ mkR.same
            have htR := sNR _ _ ht
            have hFR := sNR _ _ hFN
            have sqR : SqT K HR t (natsV q) := .inl (.inr ⟨ob, htR⟩)
            have nql := natsV_len q
            tm_at "w"
            refine ⟨⟨_, sqR⟩, fun D2 nD2 => lc_tupFS (fun j => q[j]?.map fun x => V.int ((F.getD x 0 : Nat) : Int)) (fun J s => .inl (.inr ⟨ob, s _ _ htR⟩)) nD2 (by omega) ?_ ?_⟩
            · intro j x J N M hx sJ kN kM
              obtain ⟨y, hy, rfl, _⟩ := natsV_here hx
              have yl := pm.lt y (List.mem_of_getElem? hy)
              have hFJ := sJ _ _ hFR
              have fy : (natsV F)[y]? = some (.int ((F.getD y 0 : Nat) : Int)) := natsV_getD (by omega)
              rw [hy] at kN
              tm_at "w"
              exact kN _ _ rfl (Same.refl J)
            intro HS sS hD2
            rw [nql, range_items] at hD2
            have eF : q.map (fun x => V.int ((F.getD x 0 : Nat) : Int)) = natsV (q.map fun x => F.getD x 0) := by unfold natsV; rw [List.map_map]; rfl
            rw [eF] at hD2
            tm_at "w"
            intro g2 ng2
            obtain ⟨HT, eT, sT, hg2⟩ := new_hide (Same.new (o := .tup (natsV (q.map fun x => F.getD x 0))) (Same.refl HS) ng2)
            rw [eT]
            have sRT := Same.trans sS sT
            have tT := tN.same (Same.trans sNR sRT)
            clear hD2 eT ng2 nD2 eF hFR
            have g2l : (q.map fun x => F.getD x 0).length = R.length := by rw [List.length_map, ql, lR]
            have g26 : ∀ x ∈ q.map fun x => F.getD x 0, x ≤ 6 := fun x hx => by
              obtain ⟨y, hy, rfl⟩ := List.mem_map.mp hx
              have yl := pm.lt y hy
              have := List.getElem?_eq_getElem (show y < F.length by omega)
              rw [getD_at this]
              exact f6 _ (List.getElem_mem _)
            tm_at "w"
            refine ⟨d, .ref g2, R, τ.t, rfl, mkR.here.same sRT, okR, by omega, kc, thF _ _ g2 tT hg2 (by omega), fun a' G' ea hG' gl' g6' t4 t4vs HU sU nt4 ht4 pt4 => ?_, fun e => (bad _ _ g2 _ hg2 g2l g26 e).elim⟩
            cases ea
            obtain rfl : (q.map fun x => F.getD x 0) = G' := natsV_inj (HO.tup.inj (Option.some.inj (hg2.symm.trans hG')))
            have sQU := Same.trans (Same.trans mkR.same sRT) sU
            have pmo := (rows_sorted pMQ (named_perm re okP okR pm (F := F)) (quaB_sorted _ _)).tk (Same.tk sQU)
            have hmoU := sQU _ _ hmo
            tm_at "w"
            refine ⟨_, _, .lst (SqL.of ht4) (dp_rows pt4), .lst (SqL.of hmoU) (dp_rows pmo), listrows_shaped _, listrows_shaped _, ?_⟩
            rw [listrows_refl]
            refine ⟨_, rfl, iteF ?_⟩
            exact ⟨_, _, _, _, _, _, _, _, _, _, _, _, ⟨tT.same sU, (Same.trans (Same.trans sNR sRT) sU) _ _ hFN⟩, rfl⟩
          · exact ⟨_, _, _, _, _, _, _, _, _, _, _, _, ⟨tM, hFM⟩, rfl⟩
        · rintro σ HV ⟨v2, v9, v10, v11, v12, v13, v14, v15, v16, v17, v18, v19, ⟨tV, hFV⟩, rfl⟩
          tm_at "w"
          intro e0 ne0
          obtain ⟨H1', e1', s1', he0⟩ := new_hide (Same.new (o := .tup []) (Same.refl HV) ne0)
          rw [e1']
          tm_at "w"
          intro e1 ne1
          obtain ⟨H2', e2', s2', he1⟩ := new_hide (Same.new (o := .tup [.ref e0]) (Same.refl H1') ne1)
          rw [e2']
          tm_at "w"
          have wl : (wideP P.length).length = P.length := by unfold wideP; rw [List.length_replicate]
          have okW : OkP (wideP P.length) := by
            refine ⟨fun j q e => ?_, by omega⟩
            rw [List.eq_of_mem_replicate (List.mem_of_getElem? e)]
            exact ⟨List.Pairwise.nil, (fun x hx => by cases hx), by decide⟩
          refine rept_any he1 (by omega) (by omega) fun pw H3' s3' hpw => ?_
          have hpW : ParAt H3' pw (wideP P.length) := by
            refine ⟨_, hpw, by rw [List.length_replicate, wl], fun j q e => ?_⟩
            have hj := (List.getElem?_eq_some_iff.mp e).1
            rw [wl] at hj
            refine ⟨e0, by rw [List.getElem?_replicate, if_pos hj], ?_⟩
            rw [List.eq_of_mem_replicate (List.mem_of_getElem? e)]
            exact s3' _ _ (s2' _ _ he0)
          have s03' := Same.trans (Same.trans s1' s2') s3'
          clear he0 he1 hpw s1' s2' s3' e1' e2' ne0 ne1
          tm_at "w"
          refine mk_book hpW okW fun b3 H4' mk4 _ => ?_
          have s04' := Same.trans s03' mk4.same
          have tX := tV.same s04'
          have hFX := s04' _ _ hFV
          tm_at "w"
          refine ⟨b3, .ref fa, wideP P.length, τ.t, rfl, mk4.here, okW, by omega, kc, thF _ F fa tX hFX (by omega), fun a' F' ea hF' fl' f6' t5 t5vs H5' s5' nt5 ht5 pt5 => ?_, fun e => (bad _ F fa _ hFX (by omega) f6 e).elim⟩
          rw [quaB_wide okW] at pt5
          have e5 : t5vs = [] := List.eq_nil_of_length_eq_zero pt5.1
          rw [e5] at ht5
          have tY := tX.same s5'
          clear hF' fl' f6' s03' s04' mk4 hpW
          tm_at "w"
          intro n0 nn0
          obtain ⟨H6', e6', s6', hn0⟩ := new_hide (Same.new (o := .lst []) (Same.refl H5') nn0)
          rw [e6']
          refine ⟨_, _, .lst (SqL.of (s6' _ _ ht5)) .nil, .lst (SqL.of hn0) .nil, rfl, rfl, ?_⟩
          refine ⟨_, rfl, iteF ?_⟩
          exact ⟨_, _, _, _, _, _, _, _, _, _, _, _, _, _, _, _, _, _, tY.same s6', rfl⟩
    · rintro σ H2 ⟨v2, v3, v4, v5, v6, v7, v8, v9, v10, v11, v12, v13, v14, v15, v16, v17, v18, v19, m2, rfl⟩
      tm_at "w"
      exact k _
end
theorem all_mk {l : PySem.W.OpenLaw} {w : World} {K : PySem.W.Frag} {h : Heap} {mg : Str → Option Value} {fa : Addr} (X : K.In h) (G : h.Ns mainGlobals mg) (hfa : mg "law" = some (.ref fa))
    {t_MOST_BROUGHT : Tok}
    {t_MOST_PARENTS : Tok}
    {t_MOST_KINDS : Tok}
    {C_Book : Addr}
    {C_NoFields fe_NoFields cc_NoFields cda_NoFields N_NoFields : Addr} {n0_NoFields q0_NoFields : Str} {bs_NoFields bm_NoFields sub_NoFields : List Value} {sn_NoFields : List Str} {ab_NoFields : Bool} {col_NoFields : Option Bool} {dd_NoFields cld_NoFields cdd_NoFields od_NoFields an_NoFields : Option Addr} {k0_NoFields k1_NoFields k2_NoFields k3_NoFields k5_NoFields : Option Value} {cl_NoFields ccl_NoFields oc_NoFields kV_NoFields doc_NoFields pm_NoFields ctv_NoFields : Value} {csl_NoFields ccs_NoFields osl_NoFields : Array (Option Value)} {vs_NoFields : Array Value} {file_NoFields : Str} {tf_NoFields : Tok}
    {C_NoOrder fe_NoOrder cc_NoOrder cda_NoOrder N_NoOrder : Addr} {n0_NoOrder q0_NoOrder : Str} {bs_NoOrder bm_NoOrder sub_NoOrder : List Value} {sn_NoOrder : List Str} {ab_NoOrder : Bool} {col_NoOrder : Option Bool} {dd_NoOrder cld_NoOrder cdd_NoOrder od_NoOrder an_NoOrder : Option Addr} {k0_NoOrder k1_NoOrder k2_NoOrder k3_NoOrder k5_NoOrder : Option Value} {cl_NoOrder ccl_NoOrder oc_NoOrder kV_NoOrder doc_NoOrder pm_NoOrder ctv_NoOrder : Value} {csl_NoOrder ccs_NoOrder osl_NoOrder : Array (Option Value)} {vs_NoOrder : Array Value} {file_NoOrder : Str} {tf_NoOrder : Tok}
    {C_KindError : Addr}
    {od0 an0 : Option Addr} {sl0 : Array (Option Value)} {oc0 kV0 dc0 pm0 cd0 ct0 : Value} {f0 : Addr}
    {od1 an1 : Option Addr} {sl1 : Array (Option Value)} {oc1 kV1 dc1 pm1 cd1 ct1 : Value} {f1 : Addr}
    {od2 an2 : Option Addr} {sl2 : Array (Option Value)} {oc2 kV2 dc2 pm2 cd2 ct2 : Value} {f2 : Addr}
    {od3 an3 : Option Addr} {sl3 : Array (Option Value)} {oc3 kV3 dc3 pm3 cd3 ct3 : Value} {f3 : Addr}
    {od4 an4 : Option Addr} {sl4 : Array (Option Value)} {oc4 kV4 dc4 pm4 cd4 ct4 : Value} {f4 : Addr}
    {od5 an5 : Option Addr} {sl5 : Array (Option Value)} {oc5 kV5 dc5 pm5 cd5 ct5 : Value} {f5 : Addr}
    {od6 an6 : Option Addr} {sl6 : Array (Option Value)} {oc6 kV6 dc6 pm6 cd6 ct6 : Value} {f6 : Addr}
    {od7 an7 : Option Addr} {sl7 : Array (Option Value)} {oc7 kV7 dc7 pm7 cd7 ct7 : Value} {f7 : Addr}
    {od8 an8 : Option Addr} {sl8 : Array (Option Value)} {oc8 kV8 dc8 pm8 cd8 ct8 : Value} {f8 : Addr}
    {od9 an9 : Option Addr} {sl9 : Array (Option Value)} {oc9 kV9 dc9 pm9 cd9 ct9 : Value} {f9 : Addr}
    {od10 an10 : Option Addr} {sl10 : Array (Option Value)} {oc10 kV10 dc10 pm10 cd10 ct10 : Value} {f10 : Addr}
    {od11 an11 : Option Addr} {sl11 : Array (Option Value)} {oc11 kV11 dc11 pm11 cd11 ct11 : Value} {f11 : Addr}
    {od12 an12 : Option Addr} {sl12 : Array (Option Value)} {oc12 kV12 dc12 pm12 cd12 ct12 : Value} {f12 : Addr}
    {od13 an13 : Option Addr} {sl13 : Array (Option Value)} {oc13 kV13 dc13 pm13 cd13 ct13 : Value} {f13 : Addr}
    {od14 an14 : Option Addr} {sl14 : Array (Option Value)} {oc14 kV14 dc14 pm14 cd14 ct14 : Value} {f14 : Addr}
    {od15 an15 : Option Addr} {sl15 : Array (Option Value)} {oc15 kV15 dc15 pm15 cd15 ct15 : Value} {f15 : Addr}
    {od16 an16 : Option Addr} {sl16 : Array (Option Value)} {oc16 kV16 dc16 pm16 cd16 ct16 : Value} {f16 : Addr}
    {od17 an17 : Option Addr} {sl17 : Array (Option Value)} {oc17 kV17 dc17 pm17 cd17 ct17 : Value} {f17 : Addr}
    {od18 an18 : Option Addr} {sl18 : Array (Option Value)} {oc18 kV18 dc18 pm18 cd18 ct18 : Value} {f18 : Addr}
    {od19 an19 : Option Addr} {sl19 : Array (Option Value)} {oc19 kV19 dc19 pm19 cd19 ct19 : Value} {f19 : Addr}
    {od20 an20 : Option Addr} {sl20 : Array (Option Value)} {oc20 kV20 dc20 pm20 cd20 ct20 : Value} {f20 : Addr}
    {od21 an21 : Option Addr} {sl21 : Array (Option Value)} {oc21 kV21 dc21 pm21 cd21 ct21 : Value} {f21 : Addr}
    {od22 an22 : Option Addr} {sl22 : Array (Option Value)} {oc22 kV22 dc22 pm22 cd22 ct22 : Value} {f22 : Addr}
    {od23 an23 : Option Addr} {sl23 : Array (Option Value)} {oc23 kV23 dc23 pm23 cd23 ct23 : Value} {f23 : Addr}
    {od24 an24 : Option Addr} {sl24 : Array (Option Value)} {oc24 kV24 dc24 pm24 cd24 ct24 : Value} {f24 : Addr}
    {od25 an25 : Option Addr} {sl25 : Array (Option Value)} {oc25 kV25 dc25 pm25 cd25 ct25 : Value} {f25 : Addr}
    {od26 an26 : Option Addr} {sl26 : Array (Option Value)} {oc26 kV26 dc26 pm26 cd26 ct26 : Value} {f26 : Addr}
    {od27 an27 : Option Addr} {sl27 : Array (Option Value)} {oc27 kV27 dc27 pm27 cd27 ct27 : Value} {f27 : Addr}
    (gk_KindError : PySem.W.nsIn K mainGlobals "KindError" = some (some (.ref C_KindError)))
    (op_X : PySem.W.nsIn K cStatics "thirdparty.any" = some none) (tp_X : (l.prog.main.scope.names.lookup ("super" : Str)).isSome = false) (hn_X : PySem.W.specialIn K (.builtin "object.__class__") "__get__" = some (some (.builtin "getset_descriptor.__get__"))) (ht_X : PySem.W.takesIn K (.builtin "object.__class__") = some true) (ns_X : PySem.W.nsIn K mainGlobals "super" = some none)
    (gc_NoOrder : PySem.W.nsIn K mainGlobals "NoOrder" = some (some (.ref C_NoOrder)))
    (lc_NoOrder : K.lookup C_NoOrder = some (excClassObj n0_NoOrder q0_NoOrder C_NoOrder N_NoOrder bs_NoOrder bm_NoOrder true sn_NoOrder sub_NoOrder ab_NoOrder col_NoOrder dd_NoOrder k0_NoOrder k1_NoOrder k2_NoOrder k3_NoOrder k5_NoOrder "ValueError.__new__"))
    (rv_NoOrder : PySem.HandSPX.refsVE bm_NoOrder = true)
    (sa_NoOrder : PySem.W.findIn K (.ref C_NoOrder) "__setattr__" = some (some (.builtin "object.__setattr__")))
    (ex_NoOrder : PySem.W.subIn K (.ref C_NoOrder) (.type "BaseException") = some true)
    (ty_NoOrder : PySem.W.typeIn K (.ref C_NoOrder) = some (.type "type"))
    (kp_NoOrder : PySem.W.keepIn K (.ref C_NoOrder) = true)
    (su_NoOrder : PySem.W.ks_superIn K C_NoOrder C_NoOrder "__init__" = some (some (.builtin "ValueError.__init__")))
    (sv_NoOrder : PySem.W.subIn K (.ref C_NoOrder) (.type "ValueError") = some true)
    (mr_NoOrder : PySem.W.mroIn K C_NoOrder (.ref C_NoOrder) = some true)
    (a_NoOrder : PySem.W.findIn K (.ref C_NoOrder) "__init__" = some (some (.ref fe_NoOrder)))
    (t_NoOrder : PySem.W.typeIn K (.ref fe_NoOrder) = some (.type "function"))
    (lf_NoOrder : K.lookup fe_NoOrder = some ⟨oc_NoOrder, od_NoOrder, .func (PySem.W.fnX "__init__" "NoOrder.__init__" (defArgs s_NoOrder___init__) (defBody s_NoOrder___init__) (defScope s_NoOrder___init__) [(("__class__" : Str), cc_NoOrder)] .none kV_NoOrder doc_NoOrder pm_NoOrder an_NoOrder (.ref cda_NoOrder) ctv_NoOrder), osl_NoOrder⟩)
    (cd_NoOrder : PySem.W.codeIn K (.ref cda_NoOrder) "NoOrder.__init__" = true)
    (ce_NoOrder : K.lookup cc_NoOrder = some ⟨cl_NoOrder, cld_NoOrder, .cell (some (.ref C_NoOrder)), csl_NoOrder⟩)
    (co_NoOrder : K.lookup cda_NoOrder = some ⟨ccl_NoOrder, cdd_NoOrder, .fields vs_NoOrder, ccs_NoOrder⟩)
    (vf_NoOrder : vs_NoOrder[2]? = some (.str file_NoOrder tf_NoOrder))
    (ff_NoOrder : ((l.prog.main.file : Str) == file_NoOrder) = true)
    (ga_NoOrder : PySem.W.findIn K (.ref C_NoOrder) "__getattribute__" = some (some (.builtin "BaseException.__getattribute__")))
    (gk_NoOrder : PySem.W.findIn K (.ref C_NoOrder) "__getattr__" = some none)
    (hd_NoOrder : PySem.W.hasDictIn K C_NoOrder = true)
    (ha_NoOrder : PySem.W.findIn K (.ref C_NoOrder) "__class__" = some (some (.builtin "object.__class__")))
    (hm_NoOrder : PySem.W.mroIn K C_NoOrder (.type "object") = some true)
    (gc_NoFields : PySem.W.nsIn K mainGlobals "NoFields" = some (some (.ref C_NoFields)))
    (lc_NoFields : K.lookup C_NoFields = some (excClassObj n0_NoFields q0_NoFields C_NoFields N_NoFields bs_NoFields bm_NoFields true sn_NoFields sub_NoFields ab_NoFields col_NoFields dd_NoFields k0_NoFields k1_NoFields k2_NoFields k3_NoFields k5_NoFields "ValueError.__new__"))
    (rv_NoFields : PySem.HandSPX.refsVE bm_NoFields = true)
    (sa_NoFields : PySem.W.findIn K (.ref C_NoFields) "__setattr__" = some (some (.builtin "object.__setattr__")))
    (ex_NoFields : PySem.W.subIn K (.ref C_NoFields) (.type "BaseException") = some true)
    (ty_NoFields : PySem.W.typeIn K (.ref C_NoFields) = some (.type "type"))
    (kp_NoFields : PySem.W.keepIn K (.ref C_NoFields) = true)
    (su_NoFields : PySem.W.ks_superIn K C_NoFields C_NoFields "__init__" = some (some (.builtin "ValueError.__init__")))
    (sv_NoFields : PySem.W.subIn K (.ref C_NoFields) (.type "ValueError") = some true)
    (mr_NoFields : PySem.W.mroIn K C_NoFields (.ref C_NoFields) = some true)
    (a_NoFields : PySem.W.findIn K (.ref C_NoFields) "__init__" = some (some (.ref fe_NoFields)))
    (t_NoFields : PySem.W.typeIn K (.ref fe_NoFields) = some (.type "function"))
    (lf_NoFields : K.lookup fe_NoFields = some ⟨oc_NoFields, od_NoFields, .func (PySem.W.fnX "__init__" "NoFields.__init__" (defArgs s_NoFields___init__) (defBody s_NoFields___init__) (defScope s_NoFields___init__) [(("__class__" : Str), cc_NoFields)] .none kV_NoFields doc_NoFields pm_NoFields an_NoFields (.ref cda_NoFields) ctv_NoFields), osl_NoFields⟩)
    (cd_NoFields : PySem.W.codeIn K (.ref cda_NoFields) "NoFields.__init__" = true)
    (ce_NoFields : K.lookup cc_NoFields = some ⟨cl_NoFields, cld_NoFields, .cell (some (.ref C_NoFields)), csl_NoFields⟩)
    (co_NoFields : K.lookup cda_NoFields = some ⟨ccl_NoFields, cdd_NoFields, .fields vs_NoFields, ccs_NoFields⟩)
    (vf_NoFields : vs_NoFields[2]? = some (.str file_NoFields tf_NoFields))
    (ff_NoFields : ((l.prog.main.file : Str) == file_NoFields) = true)
    (ga_NoFields : PySem.W.findIn K (.ref C_NoFields) "__getattribute__" = some (some (.builtin "BaseException.__getattribute__")))
    (gk_NoFields : PySem.W.findIn K (.ref C_NoFields) "__getattr__" = some none)
    (hd_NoFields : PySem.W.hasDictIn K C_NoFields = true)
    (ha_NoFields : PySem.W.findIn K (.ref C_NoFields) "__class__" = some (some (.builtin "object.__class__")))
    (hm_NoFields : PySem.W.mroIn K C_NoFields (.type "object") = some true)
    (gc_Book : PySem.W.nsIn K mainGlobals "Book" = some (some (.ref C_Book))) (pg_Book : PySem.W.plainGet K C_Book Str.empty = true) (hd_Book : PySem.W.hasDictIn K C_Book = true) (po_Book : PySem.W.plainOver K C_Book = true) (sa_Book : PySem.W.findIn K (.ref C_Book) "__setattr__" = some (some (.builtin "object.__setattr__"))) (mk_Book : PySem.W.makesIn K C_Book = true) (kc_Book : PySem.W.keepIn K (.ref C_Book) = true) (ta_Book : PySem.W.findIn K (.ref C_Book) "__class__" = some (some (.builtin "object.__class__"))) (tn_Book : PySem.W.specialIn K (.builtin "object.__class__") "__get__" = some (some (.builtin "getset_descriptor.__get__"))) (tt_Book : PySem.W.takesIn K (.builtin "object.__class__") = some true) (tm_Book : PySem.W.mroIn K C_Book (.type "object") = some true)
    (n_Book_parents : PySem.W.findIn K (.ref C_Book) "parents" = some none)
    (n_Book_bits : PySem.W.findIn K (.ref C_Book) "bits" = some none)
    (kt_Book_int : PySem.W.kitOne K (.ref C_Book) (.type "int") = some false)
    (kt_Book_bool : PySem.W.kitOne K (.ref C_Book) (.type "bool") = some false)
    (kt_Book_tuple : PySem.W.kitOne K (.ref C_Book) (.type "tuple") = some false)
    (kt_Book_list : PySem.W.kitOne K (.ref C_Book) (.type "list") = some false)
    (k_MOST_KINDS : PySem.W.nsIn K mainGlobals "MOST_KINDS" = some (some (.int 400 t_MOST_KINDS)))
    (k_MOST_PARENTS : PySem.W.nsIn K mainGlobals "MOST_PARENTS" = some (some (.int 6 t_MOST_PARENTS)))
    (k_MOST_BROUGHT : PySem.W.nsIn K mainGlobals "MOST_BROUGHT" = some (some (.int 6 t_MOST_BROUGHT)))
    (a0 : PySem.W.nsIn K mainGlobals "is_integer" = some (some (.ref f0)))
    (l0 : K.lookup f0 = some ⟨oc0, od0, .func (PySem.W.fnOf "is_integer" "is_integer" (defArgs s_is_integer) (defBody s_is_integer) (defScope s_is_integer) .none kV0 dc0 pm0 an0 cd0 ct0), sl0⟩) (c0 : PySem.W.codeIn K cd0 "is_integer" = true) (k0 : PySem.W.keepIn K (.ref f0) = true)
    (a1 : PySem.W.nsIn K mainGlobals "is_within" = some (some (.ref f1)))
    (l1 : K.lookup f1 = some ⟨oc1, od1, .func (PySem.W.fnOf "is_within" "is_within" (defArgs s_is_within) (defBody s_is_within) (defScope s_is_within) .none kV1 dc1 pm1 an1 cd1 ct1), sl1⟩) (c1 : PySem.W.codeIn K cd1 "is_within" = true) (k1 : PySem.W.keepIn K (.ref f1) = true)
    (a2 : PySem.W.nsIn K mainGlobals "is_lot" = some (some (.ref f2)))
    (l2 : K.lookup f2 = some ⟨oc2, od2, .func (PySem.W.fnOf "is_lot" "is_lot" (defArgs s_is_lot) (defBody s_is_lot) (defScope s_is_lot) .none kV2 dc2 pm2 an2 cd2 ct2), sl2⟩) (c2 : PySem.W.codeIn K cd2 "is_lot" = true) (k2 : PySem.W.keepIn K (.ref f2) = true)
    (a3 : PySem.W.nsIn K mainGlobals "are_all" = some (some (.ref f3)))
    (l3 : K.lookup f3 = some ⟨oc3, od3, .func (PySem.W.fnOf "are_all" "are_all" (defArgs s_are_all) (defBody s_are_all) (defScope s_are_all) .none kV3 dc3 pm3 an3 cd3 ct3), sl3⟩) (c3 : PySem.W.codeIn K cd3 "are_all" = true) (k3 : PySem.W.keepIn K (.ref f3) = true)
    (a4 : PySem.W.nsIn K mainGlobals "are_parents" = some (some (.ref f4)))
    (l4 : K.lookup f4 = some ⟨oc4, od4, .func (PySem.W.fnOf "are_parents" "are_parents" (defArgs s_are_parents) (defBody s_are_parents) (defScope s_are_parents) .none kV4 dc4 pm4 an4 cd4 ct4), sl4⟩) (c4 : PySem.W.codeIn K cd4 "are_parents" = true) (k4 : PySem.W.keepIn K (.ref f4) = true)
    (a5 : PySem.W.findIn K (.ref C_Book) "fill" = some (some (.ref f5))) (i5 : PySem.W.isFn K (.ref f5) = true)
    (l5 : K.lookup f5 = some ⟨oc5, od5, .func (PySem.W.fnOf "fill" "Book.fill" (defArgs s_Book_fill) (defBody s_Book_fill) (defScope s_Book_fill) .none kV5 dc5 pm5 an5 cd5 ct5), sl5⟩) (c5 : PySem.W.codeIn K cd5 "Book.fill" = true) (k5 : PySem.W.keepIn K (.ref f5) = true)
    (a6 : PySem.W.findIn K (.ref C_Book) "__init__" = some (some (.ref f6))) (i6 : PySem.W.isFn K (.ref f6) = true)
    (l6 : K.lookup f6 = some ⟨oc6, od6, .func (PySem.W.fnOf "__init__" "Book.__init__" (defArgs s_Book___init__) (defBody s_Book___init__) (defScope s_Book___init__) .none kV6 dc6 pm6 an6 cd6 ct6), sl6⟩) (c6 : PySem.W.codeIn K cd6 "Book.__init__" = true) (k6 : PySem.W.keepIn K (.ref f6) = true)
    (a7 : PySem.W.nsIn K mainGlobals "book_of" = some (some (.ref f7)))
    (l7 : K.lookup f7 = some ⟨oc7, od7, .func (PySem.W.fnOf "book_of" "book_of" (defArgs s_book_of) (defBody s_book_of) (defScope s_book_of) .none kV7 dc7 pm7 an7 cd7 ct7), sl7⟩) (c7 : PySem.W.codeIn K cd7 "book_of" = true) (k7 : PySem.W.keepIn K (.ref f7) = true)
    (a8 : PySem.W.nsIn K mainGlobals "many_of" = some (some (.ref f8)))
    (l8 : K.lookup f8 = some ⟨oc8, od8, .func (PySem.W.fnOf "many_of" "many_of" (defArgs s_many_of) (defBody s_many_of) (defScope s_many_of) .none kV8 dc8 pm8 an8 cd8 ct8), sl8⟩) (c8 : PySem.W.codeIn K cd8 "many_of" = true) (k8 : PySem.W.keepIn K (.ref f8) = true)
    (a9 : PySem.W.nsIn K mainGlobals "is_one" = some (some (.ref f9)))
    (l9 : K.lookup f9 = some ⟨oc9, od9, .func (PySem.W.fnOf "is_one" "is_one" (defArgs s_is_one) (defBody s_is_one) (defScope s_is_one) .none kV9 dc9 pm9 an9 cd9 ct9), sl9⟩) (c9 : PySem.W.codeIn K cd9 "is_one" = true) (k9 : PySem.W.keepIn K (.ref f9) = true)
    (a10 : PySem.W.nsIn K mainGlobals "are_apart" = some (some (.ref f10)))
    (l10 : K.lookup f10 = some ⟨oc10, od10, .func (PySem.W.fnOf "are_apart" "are_apart" (defArgs s_are_apart) (defBody s_are_apart) (defScope s_are_apart) .none kV10 dc10 pm10 an10 cd10 ct10), sl10⟩) (c10 : PySem.W.codeIn K cd10 "are_apart" = true) (k10 : PySem.W.keepIn K (.ref f10) = true)
    (a11 : PySem.W.nsIn K mainGlobals "forebears_of" = some (some (.ref f11)))
    (l11 : K.lookup f11 = some ⟨oc11, od11, .func (PySem.W.fnOf "forebears_of" "forebears_of" (defArgs s_forebears_of) (defBody s_forebears_of) (defScope s_forebears_of) .none kV11 dc11 pm11 an11 cd11 ct11), sl11⟩) (c11 : PySem.W.codeIn K cd11 "forebears_of" = true) (k11 : PySem.W.keepIn K (.ref f11) = true)
    (a12 : PySem.W.nsIn K mainGlobals "reordered" = some (some (.ref f12)))
    (l12 : K.lookup f12 = some ⟨oc12, od12, .func (PySem.W.fnOf "reordered" "reordered" (defArgs s_reordered) (defBody s_reordered) (defScope s_reordered) .none kV12 dc12 pm12 an12 cd12 ct12), sl12⟩) (c12 : PySem.W.codeIn K cd12 "reordered" = true) (k12 : PySem.W.keepIn K (.ref f12) = true)
    (a13 : PySem.W.nsIn K mainGlobals "check_fields" = some (some (.ref f13)))
    (l13 : K.lookup f13 = some ⟨oc13, od13, .func (PySem.W.fnOf "check_fields" "check_fields" (defArgs s_check_fields) (defBody s_check_fields) (defScope s_check_fields) .none kV13 dc13 pm13 an13 cd13 ct13), sl13⟩) (c13 : PySem.W.codeIn K cd13 "check_fields" = true) (k13 : PySem.W.keepIn K (.ref f13) = true)
    (a14 : PySem.W.nsIn K mainGlobals "heirs_bits" = some (some (.ref f14)))
    (l14 : K.lookup f14 = some ⟨oc14, od14, .func (PySem.W.fnOf "heirs_bits" "heirs_bits" (defArgs s_heirs_bits) (defBody s_heirs_bits) (defScope s_heirs_bits) .none kV14 dc14 pm14 an14 cd14 ct14), sl14⟩) (c14 : PySem.W.codeIn K cd14 "heirs_bits" = true) (k14 : PySem.W.keepIn K (.ref f14) = true)
    (a15 : PySem.W.nsIn K mainGlobals "all_quarrels" = some (some (.ref f15)))
    (l15 : K.lookup f15 = some ⟨oc15, od15, .func (PySem.W.fnOf "all_quarrels" "all_quarrels" (defArgs s_all_quarrels) (defBody s_all_quarrels) (defScope s_all_quarrels) .none kV15 dc15 pm15 an15 cd15 ct15), sl15⟩) (c15 : PySem.W.codeIn K cd15 "all_quarrels" = true) (k15 : PySem.W.keepIn K (.ref f15) = true)
    (a16 : PySem.W.nsIn K mainGlobals "quarrels" = some (some (.ref f16)))
    (l16 : K.lookup f16 = some ⟨oc16, od16, .func (PySem.W.fnOf "quarrels" "quarrels" (defArgs s_quarrels) (defBody s_quarrels) (defScope s_quarrels) .none kV16 dc16 pm16 an16 cd16 ct16), sl16⟩) (c16 : PySem.W.codeIn K cd16 "quarrels" = true) (k16 : PySem.W.keepIn K (.ref f16) = true)
    (a17 : PySem.W.nsIn K mainGlobals "_law_hand" = some (some (.ref f17)))
    (l17 : K.lookup f17 = some ⟨oc17, od17, .func (PySem.W.fnOf "_law_hand" "_law_hand" (defArgs s__law_hand) (defBody s__law_hand) (defScope s__law_hand) .none kV17 dc17 pm17 an17 cd17 ct17), sl17⟩) (c17 : PySem.W.codeIn K cd17 "_law_hand" = true) (k17 : PySem.W.keepIn K (.ref f17) = true)
    (a18 : PySem.W.nsIn K mainGlobals "_law_draw" = some (some (.ref f18)))
    (l18 : K.lookup f18 = some ⟨oc18, od18, .func (PySem.W.fnOf "_law_draw" "_law_draw" (defArgs s__law_draw) (defBody s__law_draw) (defScope s__law_draw) .none kV18 dc18 pm18 an18 cd18 ct18), sl18⟩) (c18 : PySem.W.codeIn K cd18 "_law_draw" = true) (k18 : PySem.W.keepIn K (.ref f18) = true)
    (a19 : PySem.W.nsIn K mainGlobals "_law_is" = some (some (.ref f19)))
    (l19 : K.lookup f19 = some ⟨oc19, od19, .func (PySem.W.fnOf "_law_is" "_law_is" (defArgs s__law_is) (defBody s__law_is) (defScope s__law_is) .none kV19 dc19 pm19 an19 cd19 ct19), sl19⟩) (c19 : PySem.W.codeIn K cd19 "_law_is" = true) (k19 : PySem.W.keepIn K (.ref f19) = true)
    (a20 : PySem.W.nsIn K mainGlobals "_law_parents" = some (some (.ref f20)))
    (l20 : K.lookup f20 = some ⟨oc20, od20, .func (PySem.W.fnOf "_law_parents" "_law_parents" (defArgs s__law_parents) (defBody s__law_parents) (defScope s__law_parents) .none kV20 dc20 pm20 an20 cd20 ct20), sl20⟩) (c20 : PySem.W.codeIn K cd20 "_law_parents" = true) (k20 : PySem.W.keepIn K (.ref f20) = true)
    (a21 : PySem.W.nsIn K mainGlobals "_law_sheet" = some (some (.ref f21)))
    (l21 : K.lookup f21 = some ⟨oc21, od21, .func (PySem.W.fnOf "_law_sheet" "_law_sheet" (defArgs s__law_sheet) (defBody s__law_sheet) (defScope s__law_sheet) .none kV21 dc21 pm21 an21 cd21 ct21), sl21⟩) (c21 : PySem.W.codeIn K cd21 "_law_sheet" = true) (k21 : PySem.W.keepIn K (.ref f21) = true)
    (a22 : PySem.W.nsIn K mainGlobals "_law_lots" = some (some (.ref f22)))
    (l22 : K.lookup f22 = some ⟨oc22, od22, .func (PySem.W.fnOf "_law_lots" "_law_lots" (defArgs s__law_lots) (defBody s__law_lots) (defScope s__law_lots) .none kV22 dc22 pm22 an22 cd22 ct22), sl22⟩) (c22 : PySem.W.codeIn K cd22 "_law_lots" = true) (k22 : PySem.W.keepIn K (.ref f22) = true)
    (a23 : PySem.W.nsIn K mainGlobals "_law_brought" = some (some (.ref f23)))
    (l23 : K.lookup f23 = some ⟨oc23, od23, .func (PySem.W.fnOf "_law_brought" "_law_brought" (defArgs s__law_brought) (defBody s__law_brought) (defScope s__law_brought) .none kV23 dc23 pm23 an23 cd23 ct23), sl23⟩) (c23 : PySem.W.codeIn K cd23 "_law_brought" = true) (k23 : PySem.W.keepIn K (.ref f23) = true)
    (a24 : PySem.W.nsIn K mainGlobals "_law_pairs" = some (some (.ref f24)))
    (l24 : K.lookup f24 = some ⟨oc24, od24, .func (PySem.W.fnOf "_law_pairs" "_law_pairs" (defArgs s__law_pairs) (defBody s__law_pairs) (defScope s__law_pairs) .none kV24 dc24 pm24 an24 cd24 ct24), sl24⟩) (c24 : PySem.W.codeIn K cd24 "_law_pairs" = true) (k24 : PySem.W.keepIn K (.ref f24) = true)
    (a25 : PySem.W.nsIn K mainGlobals "_law_graph" = some (some (.ref f25)))
    (l25 : K.lookup f25 = some ⟨oc25, od25, .func (PySem.W.fnOf "_law_graph" "_law_graph" (defArgs s__law_graph) (defBody s__law_graph) (defScope s__law_graph) .none kV25 dc25 pm25 an25 cd25 ct25), sl25⟩) (c25 : PySem.W.codeIn K cd25 "_law_graph" = true) (k25 : PySem.W.keepIn K (.ref f25) = true)
    (a26 : PySem.W.nsIn K mainGlobals "_law_order" = some (some (.ref f26)))
    (l26 : K.lookup f26 = some ⟨oc26, od26, .func (PySem.W.fnOf "_law_order" "_law_order" (defArgs s__law_order) (defBody s__law_order) (defScope s__law_order) .none kV26 dc26 pm26 an26 cd26 ct26), sl26⟩) (c26 : PySem.W.codeIn K cd26 "_law_order" = true) (k26 : PySem.W.keepIn K (.ref f26) = true)
    (a27 : PySem.W.nsIn K mainGlobals "law" = some (some (.ref f27)))
    (l27 : K.lookup f27 = some ⟨oc27, od27, .func (PySem.W.fnOf "law" "law" (defArgs s_law) (defBody s_law) (defScope s_law) .none kV27 dc27 pm27 an27 cd27 ct27), sl27⟩) (c27 : PySem.W.codeIn K cd27 "law" = true) (k27 : PySem.W.keepIn K (.ref f27) = true)
    (z_abs : PySem.W.nsIn K mainGlobals "abs" = some none)
    (z_all : PySem.W.nsIn K mainGlobals "all" = some none)
    (z_any : PySem.W.nsIn K mainGlobals "any" = some none)
    (z_bool : PySem.W.nsIn K mainGlobals "bool" = some none)
    (z_enumerate : PySem.W.nsIn K mainGlobals "enumerate" = some none)
    (z_int : PySem.W.nsIn K mainGlobals "int" = some none)
    (z_isinstance : PySem.W.nsIn K mainGlobals "isinstance" = some none)
    (z_len : PySem.W.nsIn K mainGlobals "len" = some none)
    (z_list : PySem.W.nsIn K mainGlobals "list" = some none)
    (z_range : PySem.W.nsIn K mainGlobals "range" = some none)
    (z_set : PySem.W.nsIn K mainGlobals "set" = some none)
    (z_sorted : PySem.W.nsIn K mainGlobals "sorted" = some none)
    (z_tuple : PySem.W.nsIn K mainGlobals "tuple" = some none)
    (z_zip : PySem.W.nsIn K mainGlobals "zip" = some none) :
    ∃ fd : FuncData, (∀ (s : Shared) (v : Value), BindsTo s fd ⟨[v], []⟩ [("_law_script", v)]) ∧ ∀ base : Heap, K.In base → base.Ns mainGlobals mg → FnOk l.prog w K mg base CX0 9 fa fd ["_law_script"] (sp_law K) := by
  have e := hfa.symm.trans (PySem.W.mg_of X G a27)
  cases e
  exact ⟨_, fun s v => .of_eq rfl, fun base _ _ => ok_law {
    C_KindError := C_KindError, g_KindError := PySem.W.mg_of X G gk_KindError,
    C_NoOrder := C_NoOrder, f_NoOrder___init__ := fe_NoOrder, fd_NoOrder___init__ := _, er_NoOrder := err_mk (PySem.W.mg_of X G gc_NoOrder) lc_NoOrder rv_NoOrder sa_NoOrder ex_NoOrder ty_NoOrder kp_NoOrder op_X su_NoOrder sv_NoOrder mr_NoOrder ce_NoOrder co_NoOrder vf_NoOrder ff_NoOrder lf_NoOrder cd_NoOrder a_NoOrder t_NoOrder tp_X (PySem.W.mg_none_of X G ns_X) rfl rfl rfl rfl ⟨_, rfl, rfl⟩ (fun us hl => match us, hl with | [_], _ => rfl) ga_NoOrder gk_NoOrder hd_NoOrder ha_NoOrder hn_X ht_X hm_NoOrder,
    C_NoFields := C_NoFields, f_NoFields___init__ := fe_NoFields, fd_NoFields___init__ := _, er_NoFields := err_mk (PySem.W.mg_of X G gc_NoFields) lc_NoFields rv_NoFields sa_NoFields ex_NoFields ty_NoFields kp_NoFields op_X su_NoFields sv_NoFields mr_NoFields ce_NoFields co_NoFields vf_NoFields ff_NoFields lf_NoFields cd_NoFields a_NoFields t_NoFields tp_X (PySem.W.mg_none_of X G ns_X) rfl rfl rfl rfl ⟨_, rfl, rfl⟩ (fun us hl => match us, hl with | [_], _ => rfl) ga_NoFields gk_NoFields hd_NoFields ha_NoFields hn_X ht_X hm_NoFields,
    C_Book := C_Book, g_Book := PySem.W.mg_of X G gc_Book, cl_Book := ⟨pg_Book, hd_Book, po_Book, sa_Book⟩, ty_Book := ⟨ta_Book, tn_Book, tt_Book, tm_Book⟩,
    n_Book_parents := n_Book_parents,
    n_Book_bits := n_Book_bits,
    kt_Book_int := kt_Book_int,
    kt_Book_bool := kt_Book_bool,
    kt_Book_tuple := kt_Book_tuple,
    kt_Book_list := kt_Book_list,
    c_MOST_KINDS := ⟨_, PySem.W.mg_of X G k_MOST_KINDS⟩,
    c_MOST_PARENTS := ⟨_, PySem.W.mg_of X G k_MOST_PARENTS⟩,
    c_MOST_BROUGHT := ⟨_, PySem.W.mg_of X G k_MOST_BROUGHT⟩,
    f_is_integer := f0, fd_is_integer := _, F_is_integer := (fun_mk (st := s_is_integer) l0 c0 k0), b_is_integer := (fun_mk (st := s_is_integer) l0 c0 k0).binds (ps := ["thing"]) (fun _ _ _ _ _ _ us hl => match us, hl with | [_], _ => rfl), g_is_integer := PySem.W.mg_of X G a0,
    f_is_within := f1, fd_is_within := _, F_is_within := (fun_mk (st := s_is_within) l1 c1 k1), b_is_within := (fun_mk (st := s_is_within) l1 c1 k1).binds (ps := ["thing", "least", "most"]) (fun _ _ _ _ _ _ us hl => match us, hl with | [_, _, _], _ => rfl), g_is_within := PySem.W.mg_of X G a1,
    f_is_lot := f2, fd_is_lot := _, F_is_lot := (fun_mk (st := s_is_lot) l2 c2 k2), b_is_lot := (fun_mk (st := s_is_lot) l2 c2 k2).binds (ps := ["thing", "many"]) (fun _ _ _ _ _ _ us hl => match us, hl with | [_, _], _ => rfl), g_is_lot := PySem.W.mg_of X G a2,
    f_are_all := f3, fd_are_all := _, F_are_all := (fun_mk (st := s_are_all) l3 c3 k3), b_are_all := (fun_mk (st := s_are_all) l3 c3 k3).binds (ps := ["thing", "many"]) (fun _ _ _ _ _ _ us hl => match us, hl with | [_, _], _ => rfl), g_are_all := PySem.W.mg_of X G a3,
    f_are_parents := f4, fd_are_parents := _, F_are_parents := (fun_mk (st := s_are_parents) l4 c4 k4), b_are_parents := (fun_mk (st := s_are_parents) l4 c4 k4).binds (ps := ["thing", "number"]) (fun _ _ _ _ _ _ us hl => match us, hl with | [_, _], _ => rfl), g_are_parents := PySem.W.mg_of X G a4,
    f_Book_fill := f5, fd_Book_fill := _, F_Book_fill := (fun_mk (st := s_Book_fill) l5 c5 k5), b_Book_fill := (fun_mk (st := s_Book_fill) l5 c5 k5).binds (ps := ["self", "parents"]) (fun _ _ _ _ _ _ us hl => match us, hl with | [_, _], _ => rfl), m_Book_fill := ⟨a5, i5, k5⟩,
    f_Book___init__ := f6, fd_Book___init__ := _, F_Book___init__ := (fun_mk (st := s_Book___init__) l6 c6 k6), b_Book___init__ := (fun_mk (st := s_Book___init__) l6 c6 k6).binds (ps := ["self", "parents"]) (fun _ _ _ _ _ _ us hl => match us, hl with | [_, _], _ => rfl), m_Book___init__ := ⟨a6, i6, k6⟩, M_Book := ⟨mk_Book, a6, i6, kc_Book⟩,
    f_book_of := f7, fd_book_of := _, F_book_of := (fun_mk (st := s_book_of) l7 c7 k7), b_book_of := (fun_mk (st := s_book_of) l7 c7 k7).binds (ps := ["parents"]) (fun _ _ _ _ _ _ us hl => match us, hl with | [_], _ => rfl), g_book_of := PySem.W.mg_of X G a7,
    f_many_of := f8, fd_many_of := _, F_many_of := (fun_mk (st := s_many_of) l8 c8 k8), b_many_of := (fun_mk (st := s_many_of) l8 c8 k8).binds (ps := ["book"]) (fun _ _ _ _ _ _ us hl => match us, hl with | [_], _ => rfl), g_many_of := PySem.W.mg_of X G a8,
    f_is_one := f9, fd_is_one := _, F_is_one := (fun_mk (st := s_is_one) l9 c9 k9), b_is_one := (fun_mk (st := s_is_one) l9 c9 k9).binds (ps := ["book", "x", "p"]) (fun _ _ _ _ _ _ us hl => match us, hl with | [_, _, _], _ => rfl), g_is_one := PySem.W.mg_of X G a9,
    f_are_apart := f10, fd_are_apart := _, F_are_apart := (fun_mk (st := s_are_apart) l10 c10 k10), b_are_apart := (fun_mk (st := s_are_apart) l10 c10 k10).binds (ps := ["book", "x", "p"]) (fun _ _ _ _ _ _ us hl => match us, hl with | [_, _, _], _ => rfl), g_are_apart := PySem.W.mg_of X G a10,
    f_forebears_of := f11, fd_forebears_of := _, F_forebears_of := (fun_mk (st := s_forebears_of) l11 c11 k11), b_forebears_of := (fun_mk (st := s_forebears_of) l11 c11 k11).binds (ps := ["book", "x"]) (fun _ _ _ _ _ _ us hl => match us, hl with | [_, _], _ => rfl), g_forebears_of := PySem.W.mg_of X G a11,
    f_reordered := f12, fd_reordered := _, F_reordered := (fun_mk (st := s_reordered) l12 c12 k12), b_reordered := (fun_mk (st := s_reordered) l12 c12 k12).binds (ps := ["book", "order"]) (fun _ _ _ _ _ _ us hl => match us, hl with | [_, _], _ => rfl), g_reordered := PySem.W.mg_of X G a12,
    f_check_fields := f13, fd_check_fields := _, F_check_fields := (fun_mk (st := s_check_fields) l13 c13 k13), b_check_fields := (fun_mk (st := s_check_fields) l13 c13 k13).binds (ps := ["book", "thing"]) (fun _ _ _ _ _ _ us hl => match us, hl with | [_, _], _ => rfl), g_check_fields := PySem.W.mg_of X G a13,
    f_heirs_bits := f14, fd_heirs_bits := _, F_heirs_bits := (fun_mk (st := s_heirs_bits) l14 c14 k14), b_heirs_bits := (fun_mk (st := s_heirs_bits) l14 c14 k14).binds (ps := ["book"]) (fun _ _ _ _ _ _ us hl => match us, hl with | [_], _ => rfl), g_heirs_bits := PySem.W.mg_of X G a14,
    f_all_quarrels := f15, fd_all_quarrels := _, F_all_quarrels := (fun_mk (st := s_all_quarrels) l15 c15 k15), b_all_quarrels := (fun_mk (st := s_all_quarrels) l15 c15 k15).binds (ps := ["book", "fields"]) (fun _ _ _ _ _ _ us hl => match us, hl with | [_, _], _ => rfl), g_all_quarrels := PySem.W.mg_of X G a15,
    f_quarrels := f16, fd_quarrels := _, F_quarrels := (fun_mk (st := s_quarrels) l16 c16 k16), b_quarrels := (fun_mk (st := s_quarrels) l16 c16 k16).binds (ps := ["book", "fields"]) (fun _ _ _ _ _ _ us hl => match us, hl with | [_, _], _ => rfl), g_quarrels := PySem.W.mg_of X G a16,
    f__law_hand := f17, fd__law_hand := _, F__law_hand := (fun_mk (st := s__law_hand) l17 c17 k17), b__law_hand := (fun_mk (st := s__law_hand) l17 c17 k17).binds (ps := ["_law_script"]) (fun _ _ _ _ _ _ us hl => match us, hl with | [_], _ => rfl), g__law_hand := PySem.W.mg_of X G a17,
    f__law_draw := f18, fd__law_draw := _, F__law_draw := (fun_mk (st := s__law_draw) l18 c18 k18), b__law_draw := (fun_mk (st := s__law_draw) l18 c18 k18).binds (ps := ["_law_hand_here", "_law_many"]) (fun _ _ _ _ _ _ us hl => match us, hl with | [_, _], _ => rfl), g__law_draw := PySem.W.mg_of X G a18,
    f__law_is := f19, fd__law_is := _, F__law_is := (fun_mk (st := s__law_is) l19 c19 k19), b__law_is := (fun_mk (st := s__law_is) l19 c19 k19).binds (ps := ["_law_told", "_law_due"]) (fun _ _ _ _ _ _ us hl => match us, hl with | [_, _], _ => rfl), g__law_is := PySem.W.mg_of X G a19,
    f__law_parents := f20, fd__law_parents := _, F__law_parents := (fun_mk (st := s__law_parents) l20 c20 k20), b__law_parents := (fun_mk (st := s__law_parents) l20 c20 k20).binds (ps := ["_law_hand_here", "_law_many", "_law_most"]) (fun _ _ _ _ _ _ us hl => match us, hl with | [_, _, _], _ => rfl), g__law_parents := PySem.W.mg_of X G a20,
    f__law_sheet := f21, fd__law_sheet := _, F__law_sheet := (fun_mk (st := s__law_sheet) l21 c21 k21), b__law_sheet := (fun_mk (st := s__law_sheet) l21 c21 k21).binds (ps := ["_law_parents_here"]) (fun _ _ _ _ _ _ us hl => match us, hl with | [_], _ => rfl), g__law_sheet := PySem.W.mg_of X G a21,
    f__law_lots := f22, fd__law_lots := _, F__law_lots := (fun_mk (st := s__law_lots) l22 c22 k22), b__law_lots := (fun_mk (st := s__law_lots) l22 c22 k22).binds (ps := ["_law_many"]) (fun _ _ _ _ _ _ us hl => match us, hl with | [_], _ => rfl), g__law_lots := PySem.W.mg_of X G a22,
    f__law_brought := f23, fd__law_brought := _, F__law_brought := (fun_mk (st := s__law_brought) l23 c23 k23), b__law_brought := (fun_mk (st := s__law_brought) l23 c23 k23).binds (ps := ["_law_hand_here", "_law_many", "_law_most"]) (fun _ _ _ _ _ _ us hl => match us, hl with | [_, _, _], _ => rfl), g__law_brought := PySem.W.mg_of X G a23,
    f__law_pairs := f24, fd__law_pairs := _, F__law_pairs := (fun_mk (st := s__law_pairs) l24 c24 k24), b__law_pairs := (fun_mk (st := s__law_pairs) l24 c24 k24).binds (ps := ["_law_sheet_here", "_law_brought_here"]) (fun _ _ _ _ _ _ us hl => match us, hl with | [_, _], _ => rfl), g__law_pairs := PySem.W.mg_of X G a24,
    f__law_graph := f25, fd__law_graph := _, F__law_graph := (fun_mk (st := s__law_graph) l25 c25 k25), b__law_graph := (fun_mk (st := s__law_graph) l25 c25 k25).binds (ps := ["_law_many", "_law_edges"]) (fun _ _ _ _ _ _ us hl => match us, hl with | [_, _], _ => rfl), g__law_graph := PySem.W.mg_of X G a25,
    f__law_order := f26, fd__law_order := _, F__law_order := (fun_mk (st := s__law_order) l26 c26 k26), b__law_order := (fun_mk (st := s__law_order) l26 c26 k26).binds (ps := ["_law_hand_here", "_law_parents_here"]) (fun _ _ _ _ _ _ us hl => match us, hl with | [_, _], _ => rfl), g__law_order := PySem.W.mg_of X G a26,
    f_law := _, fd_law := _, F_law := (fun_mk (st := s_law) l27 c27 k27), b_law := (fun_mk (st := s_law) l27 c27 k27).binds (ps := ["_law_script"]) (fun _ _ _ _ _ _ us hl => match us, hl with | [_], _ => rfl), g_law := PySem.W.mg_of X G a27,
    z_abs := PySem.W.mg_none_of X G z_abs,
    z_all := PySem.W.mg_none_of X G z_all,
    z_any := PySem.W.mg_none_of X G z_any,
    z_bool := PySem.W.mg_none_of X G z_bool,
    z_enumerate := PySem.W.mg_none_of X G z_enumerate,
    z_int := PySem.W.mg_none_of X G z_int,
    z_isinstance := PySem.W.mg_none_of X G z_isinstance,
    z_len := PySem.W.mg_none_of X G z_len,
    z_list := PySem.W.mg_none_of X G z_list,
    z_range := PySem.W.mg_none_of X G z_range,
    z_set := PySem.W.mg_none_of X G z_set,
    z_sorted := PySem.W.mg_none_of X G z_sorted,
    z_tuple := PySem.W.mg_none_of X G z_tuple,
    z_zip := PySem.W.mg_none_of X G z_zip }⟩
end Lk
open PySem PySem.W PyProof.Rows
set_option maxHeartbeats 0 in
theorem PySem.Challenge.cw_latekinds_k59_whole_kinds_that_quarrel_holds : PySem.Challenge.rw_latekinds_k59_whole_kinds_that_quarrel.Holds := by
  w_on; o_law; k_head; (case hw => w_witness2)
  k_fill
  refine L2.walk_of (l := PySem.Challenge.rw_latekinds_k59_whole_kinds_that_quarrel) (n := 63) (k := 9) (x := "_law_script") (CX := fun _ => L2.CX0) (sp := fun w => Lk.sp_law _) rfl (by decide) rfl ⟨rfl, by decide, by decide⟩ (fun w h Y => PySem.W.kIn_of Y) ?F (fun _ _ a ns hl _ hS => ⟨a, ns, rfl, hS, hl, fun _ => rfl⟩) (fun _ _ _ _ _ h => h)
  case F =>
    intro w mg fa h KX G hmg
    refine' Lk.all_mk KX G hmg ?gk_KindError ?op_X ?tp_X ?hn_X ?ht_X ?ns_X ?gc_NoOrder ?lc_NoOrder ?rv_NoOrder ?sa_NoOrder ?ex_NoOrder ?ty_NoOrder ?kp_NoOrder ?su_NoOrder ?sv_NoOrder ?mr_NoOrder ?a_NoOrder ?t_NoOrder ?lf_NoOrder ?cd_NoOrder ?ce_NoOrder ?co_NoOrder ?vf_NoOrder ?ff_NoOrder ?ga_NoOrder ?gk_NoOrder ?hd_NoOrder ?ha_NoOrder ?hm_NoOrder ?gc_NoFields ?lc_NoFields ?rv_NoFields ?sa_NoFields ?ex_NoFields ?ty_NoFields ?kp_NoFields ?su_NoFields ?sv_NoFields ?mr_NoFields ?a_NoFields ?t_NoFields ?lf_NoFields ?cd_NoFields ?ce_NoFields ?co_NoFields ?vf_NoFields ?ff_NoFields ?ga_NoFields ?gk_NoFields ?hd_NoFields ?ha_NoFields ?hm_NoFields ?gc_Book ?pg_Book ?hd_Book ?po_Book ?sa_Book ?mk_Book ?kc_Book ?ta_Book ?tn_Book ?tt_Book ?tm_Book ?n_Book_parents ?n_Book_bits ?kt_Book_int ?kt_Book_bool ?kt_Book_tuple ?kt_Book_list ?k_MOST_KINDS ?k_MOST_PARENTS ?k_MOST_BROUGHT ?a0 ?l0 ?c0 ?k0 ?a1 ?l1 ?c1 ?k1 ?a2 ?l2 ?c2 ?k2 ?a3 ?l3 ?c3 ?k3 ?a4 ?l4 ?c4 ?k4 ?a5 ?i5 ?l5 ?c5 ?k5 ?a6 ?i6 ?l6 ?c6 ?k6 ?a7 ?l7 ?c7 ?k7 ?a8 ?l8 ?c8 ?k8 ?a9 ?l9 ?c9 ?k9 ?a10 ?l10 ?c10 ?k10 ?a11 ?l11 ?c11 ?k11 ?a12 ?l12 ?c12 ?k12 ?a13 ?l13 ?c13 ?k13 ?a14 ?l14 ?c14 ?k14 ?a15 ?l15 ?c15 ?k15 ?a16 ?l16 ?c16 ?k16 ?a17 ?l17 ?c17 ?k17 ?a18 ?l18 ?c18 ?k18 ?a19 ?l19 ?c19 ?k19 ?a20 ?l20 ?c20 ?k20 ?a21 ?l21 ?c21 ?k21 ?a22 ?l22 ?c22 ?k22 ?a23 ?l23 ?c23 ?k23 ?a24 ?l24 ?c24 ?k24 ?a25 ?l25 ?c25 ?k25 ?a26 ?l26 ?c26 ?k26 ?a27 ?l27 ?c27 ?k27 ?z_abs ?z_all ?z_any ?z_bool ?z_enumerate ?z_int ?z_isinstance ?z_len ?z_list ?z_range ?z_set ?z_sorted ?z_tuple ?z_zip
    (case gk_KindError => k_is)
    (case op_X => k_is)
    (case tp_X => first | rfl | decide +kernel)
    (case hn_X => k_is)
    (case ht_X => k_is)
    (case ns_X => k_is)
    (case gc_NoOrder => k_is)
    (case lc_NoOrder => k_is)
    (case rv_NoOrder => first | rfl | decide +kernel)
    (case sa_NoOrder => k_is)
    (case ex_NoOrder => k_is)
    (case ty_NoOrder => k_is)
    (case kp_NoOrder => k_is)
    (case su_NoOrder => ks_is)
    (case sv_NoOrder => k_is)
    (case mr_NoOrder => k_is)
    (case a_NoOrder => k_is)
    (case t_NoOrder => k_is)
    (case lf_NoOrder => k_is)
    (case cd_NoOrder => k_is)
    (case ce_NoOrder => k_is)
    (case co_NoOrder => k_is)
    (case vf_NoOrder => rfl)
    (case ff_NoOrder => first | rfl | decide +kernel)
    (case ga_NoOrder => k_is)
    (case gk_NoOrder => k_is)
    (case hd_NoOrder => k_is)
    (case ha_NoOrder => k_is)
    (case hm_NoOrder => k_is)
    (case gc_NoFields => k_is)
    (case lc_NoFields => k_is)
    (case rv_NoFields => first | rfl | decide +kernel)
    (case sa_NoFields => k_is)
    (case ex_NoFields => k_is)
    (case ty_NoFields => k_is)
    (case kp_NoFields => k_is)
    (case su_NoFields => ks_is)
    (case sv_NoFields => k_is)
    (case mr_NoFields => k_is)
    (case a_NoFields => k_is)
    (case t_NoFields => k_is)
    (case lf_NoFields => k_is)
    (case cd_NoFields => k_is)
    (case ce_NoFields => k_is)
    (case co_NoFields => k_is)
    (case vf_NoFields => rfl)
    (case ff_NoFields => first | rfl | decide +kernel)
    (case ga_NoFields => k_is)
    (case gk_NoFields => k_is)
    (case hd_NoFields => k_is)
    (case ha_NoFields => k_is)
    (case hm_NoFields => k_is)
    (case gc_Book => k_is)
    (case pg_Book => k_is)
    (case hd_Book => k_is)
    (case po_Book => k_is)
    (case sa_Book => k_is)
    (case mk_Book => k_is)
    (case kc_Book => k_is)
    (case ta_Book => k_is)
    (case tn_Book => k_is)
    (case tt_Book => k_is)
    (case tm_Book => k_is)
    (case n_Book_parents => k_is)
    (case n_Book_bits => k_is)
    (case a0 => k_is)
    (case l0 => k_is)
    (case c0 => k_is)
    (case k0 => k_is)
    (case a1 => k_is)
    (case l1 => k_is)
    (case c1 => k_is)
    (case k1 => k_is)
    (case a2 => k_is)
    (case l2 => k_is)
    (case c2 => k_is)
    (case k2 => k_is)
    (case a3 => k_is)
    (case l3 => k_is)
    (case c3 => k_is)
    (case k3 => k_is)
    (case a4 => k_is)
    (case l4 => k_is)
    (case c4 => k_is)
    (case k4 => k_is)
    (case a5 => k_is)
    (case i5 => k_is)
    (case l5 => k_is)
    (case c5 => k_is)
    (case k5 => k_is)
    (case a6 => k_is)
    (case i6 => k_is)
    (case l6 => k_is)
    (case c6 => k_is)
    (case k6 => k_is)
    (case a7 => k_is)
    (case l7 => k_is)
    (case c7 => k_is)
    (case k7 => k_is)
    (case a8 => k_is)
    (case l8 => k_is)
    (case c8 => k_is)
    (case k8 => k_is)
    (case a9 => k_is)
    (case l9 => k_is)
    (case c9 => k_is)
    (case k9 => k_is)
    (case a10 => k_is)
    (case l10 => k_is)
    (case c10 => k_is)
    (case k10 => k_is)
    (case a11 => k_is)
    (case l11 => k_is)
    (case c11 => k_is)
    (case k11 => k_is)
    (case a12 => k_is)
    (case l12 => k_is)
    (case c12 => k_is)
    (case k12 => k_is)
    (case a13 => k_is)
    (case l13 => k_is)
    (case c13 => k_is)
    (case k13 => k_is)
    (case a14 => k_is)
    (case l14 => k_is)
    (case c14 => k_is)
    (case k14 => k_is)
    (case a15 => k_is)
    (case l15 => k_is)
    (case c15 => k_is)
    (case k15 => k_is)
    (case a16 => k_is)
    (case l16 => k_is)
    (case c16 => k_is)
    (case k16 => k_is)
    (case a17 => k_is)
    (case l17 => k_is)
    (case c17 => k_is)
    (case k17 => k_is)
    (case a18 => k_is)
    (case l18 => k_is)
    (case c18 => k_is)
    (case k18 => k_is)
    (case a19 => k_is)
    (case l19 => k_is)
    (case c19 => k_is)
    (case k19 => k_is)
    (case a20 => k_is)
    (case l20 => k_is)
    (case c20 => k_is)
    (case k20 => k_is)
    (case a21 => k_is)
    (case l21 => k_is)
    (case c21 => k_is)
    (case k21 => k_is)
    (case a22 => k_is)
    (case l22 => k_is)
    (case c22 => k_is)
    (case k22 => k_is)
    (case a23 => k_is)
    (case l23 => k_is)
    (case c23 => k_is)
    (case k23 => k_is)
    (case a24 => k_is)
    (case l24 => k_is)
    (case c24 => k_is)
    (case k24 => k_is)
    (case a25 => k_is)
    (case l25 => k_is)
    (case c25 => k_is)
    (case k25 => k_is)
    (case a26 => k_is)
    (case l26 => k_is)
    (case c26 => k_is)
    (case k26 => k_is)
    (case a27 => k_is)
    (case l27 => k_is)
    (case c27 => k_is)
    (case k27 => k_is)
    (case kt_Book_int => kit_is)
    (case kt_Book_bool => kit_is)
    (case kt_Book_tuple => kit_is)
    (case kt_Book_list => kit_is)
    (case k_MOST_KINDS => k_is)
    (case k_MOST_PARENTS => k_is)
    (case k_MOST_BROUGHT => k_is)
    (case z_abs => k_is)
    (case z_all => k_is)
    (case z_any => k_is)
    (case z_bool => k_is)
    (case z_enumerate => k_is)
    (case z_int => k_is)
    (case z_isinstance => k_is)
    (case z_len => k_is)
    (case z_list => k_is)
    (case z_range => k_is)
    (case z_set => k_is)
    (case z_sorted => k_is)
    (case z_tuple => k_is)
    (case z_zip => k_is)
#print axioms PySem.Challenge.cw_latekinds_k59_whole_kinds_that_quarrel_holds
