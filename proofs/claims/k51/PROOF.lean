import PyProof.Rows.All
import Wide.All
import OpenK.AllK
import Wide.FinOn
import HandS.ForMost
import HandS.IsInst
import HandS.Rev
import HandS.Wide
import HandS.SortInts
import HandS.TupAny
import HandS.Codes
import HandS.Style
import HandS.SetFor
import HandS.Strs
import HandS.Zip
import HandS.Conv
import HandS.OwnEq
import HandS.TupMul
import HandS.Text
import HandS.WideBits
import KE.BitLaws
import KE.KDictList
import KE.GoesEnum
import HandS.ForExc
import HandS.ExcInit
import HandS.Nested
import HandS.ExcIs
import KE.KExcSuper
import KE.RegKSuper
import KE.RegKTryMore
import KE.RegKIsAll
import KE.Datum
import PySem.Challenge.RW_latekinds_k51_telling_refused
set_option Elab.async false
set_option linter.all false
set_option maxRecDepth 100000
set_option maxHeartbeats 4000000
namespace Lk
open PySem L2
def top (i : Nat) : Stmt := PySem.Challenge.pw_latekinds_k51_telling_refused.main.body.getD i (.Pass ⟨0, 0, 0, 0⟩)
abbrev s_NoScheme___init__ : Stmt := inClass (top 4) 0
abbrev s_NoKind___init__ : Stmt := inClass (top 3) 0
abbrev s_is_integer : Stmt := top 6
abbrev s_is_within : Stmt := top 7
abbrev s_is_lot : Stmt := top 9
abbrev s_are_parents : Stmt := top 14
abbrev s_Book_fill : Stmt := inClass (top 15) 1
abbrev s_Book___init__ : Stmt := inClass (top 15) 0
abbrev s_is_triple : Stmt := top 8
abbrev s_check_kind_of : Stmt := top 10
abbrev s_is_given : Stmt := top 17
abbrev s_has_form : Stmt := top 18
abbrev s_check_scheme : Stmt := top 19
abbrev s_told : Stmt := top 20
abbrev s_check_kinds : Stmt := top 22
abbrev s_told_lot : Stmt := top 23
abbrev s_lot_of : Stmt := top 24
abbrev s_common : Stmt := top 25
abbrev s_meet : Stmt := top 26
abbrev s__law_hand : Stmt := top 28
abbrev s__law_draw : Stmt := top 29
abbrev s__law_deep : Stmt := top 30
abbrev s__law_word : Stmt := top 36
abbrev s__law_is_whole : Stmt := top 37
abbrev s__law_has_form : Stmt := top 38
abbrev s__law_odd : Stmt := top 39
abbrev s__law_parents : Stmt := top 31
abbrev s__law_any_scheme : Stmt := top 35
abbrev s__law_sheet : Stmt := top 32
abbrev s__law_dealt : Stmt := top 33
abbrev s__law_right_scheme : Stmt := top 34
abbrev s__law_bent : Stmt := top 40
abbrev s_law : Stmt := top 41
/-! ### what is kept -/
theorem Same.at {H H' : Hp} {a : Addr} {o : HO} (e : Same H H') (h : H a = some o) : H' a = some o := e a o h
theorem Same.new {H H' : Hp} {p : Addr} {o : HO} (e : Same H H') (h : H' p = none) : Same H (upd H' p o) := fun b u z => by
  have z2 := e b u z
  rw [upd_ne (ne_of_none z2 h)]
  exact z2
theorem Same.mut {H H' : Hp} {p : Addr} {o : HO} (e : Same H H') (h : H p = none) : Same H (upd H' p o) := fun b u z => by
  rw [upd_ne (ne_of_none z h)]
  exact e b u z
theorem upd_at {H : Hp} {p a : Addr} {o u : HO} (n : a ≠ p) (h : H a = some u) : upd H p o a = some u := by
  rw [upd_ne n]
  exact h
theorem upd_at' {H : Hp} {p a : Addr} {o u : HO} (h : H a = some u) (n : a ≠ p) : upd H p o a = some u := upd_at n h
/-- the readings of len, list(..), tuple(..) by name -/
def rLenQ (K : PySem.W.Frag) : List V → Hp → VK → Prop := fun xs H Q => ∃ p ys, xs = [.ref p] ∧ (SqL K H p ys ∨ SqT K H p ys) ∧ Q (.int ys.length) H
def rListQ (K : PySem.W.Frag) : List V → Hp → VK → Prop := fun xs H Q => ∃ p ys, xs = [.ref p] ∧ (SqL K H p ys ∨ SqT K H p ys) ∧ ∀ l, H l = none → Q (.ref l) (upd H l (.lst ys))
def rTupQ (K : PySem.W.Frag) : List V → Hp → VK → Prop := fun xs H Q => ∃ p ys, xs = [.ref p] ∧ ((SqL K H p ys ∧ ∀ l, H l = none → Q (.ref l) (upd H l (.tup ys))) ∨ (SqT K H p ys ∧ Q (.ref p) H))
/-- new in H -/
structure Nw (H : Hp) (p : Addr) : Prop where
  e : H p = none
theorem Nw.ne {H : Hp} {a p : Addr} {o : HO} (w : Nw H p) (h : H a = some o) : a ≠ p := ne_of_none h w.e
/-- a tape: its address, its list's, the list -/
structure Tp where
  t : Addr
  l : Addr
  ns : List Int
structure Tape (τ : Tp) (H : Hp) : Prop where
  list : H τ.l = some (.lst (τ.ns.map V.int))
  ne : τ.l ≠ τ.t
  here : ∃ i c s n : Int, H τ.t = some (.lst [.ref τ.l, .int i, .int c, .int s, .int n]) ∧ 0 ≤ i
/-- all but the tape is kept, the tape is a tape -/
structure Mv (τ : Tp) (H0 H : Hp) : Prop where
  was : Tape τ H0
  keep : ∀ a o, a ≠ τ.t → H0 a = some o → H a = some o
  now : Tape τ H
structure Mz (τ : Tp) (H0 H : Hp) : Prop where
  mv : Mv τ H0 H
section
variable {τ : Tp} {H0 H H1 H2 : Hp} {p a : Addr} {o : HO}
theorem Tape.mv (h : Tape τ H) : Mv τ H H := ⟨h, fun _ _ _ e => e, h⟩
theorem Tape.mz (h : Tape τ H) : Mz τ H H := ⟨h.mv⟩
theorem Mv.self (m : Mv τ H0 H) : Mv τ H H := m.now.mv
theorem Mv.trans (m : Mv τ H0 H1) (k : Mv τ H1 H2) : Mv τ H0 H2 := ⟨m.was, fun a o n e => k.keep a o n (m.keep a o n e), k.now⟩
theorem Mz.trans (m : Mz τ H0 H1) (k : Mv τ H1 H2) : Mz τ H0 H2 := ⟨m.mv.trans k⟩
theorem Tape.new (h : Tape τ H) (n : H p = none) : Tape τ (upd H p o) := by
  obtain ⟨h1, h2, i, c, s, k, h3, h4⟩ := h
  exact ⟨upd_at (ne_of_none h1 n) h1, h2, i, c, s, k, upd_at (ne_of_none h3 n) h3, h4⟩
theorem Mv.new (m : Mv τ H0 H) (n : H p = none) : Mv τ H0 (upd H p o) := ⟨m.was, fun a u e z => upd_at (ne_of_none (m.keep a u e z) n) (m.keep a u e z), m.now.new n⟩
theorem Mz.new (m : Mz τ H0 H) (n : H p = none) : Mz τ H0 (upd H p o) := ⟨m.mv.new n⟩
theorem Mv.neF (m : Mv τ H0 H) (n : H0 p = none) : p ≠ τ.t := fun e => by
  obtain ⟨_, _, _, _, h, _⟩ := m.was.here
  rw [e, h] at n
  cases n
theorem Mv.neN (m : Mv τ H0 H) (n : H p = none) : p ≠ τ.t := fun e => by
  obtain ⟨_, _, _, _, h, _⟩ := m.now.here
  rw [e, h] at n
  cases n
theorem Mv.mut (m : Mv τ H0 H) (n : H0 p = none) : Mv τ H0 (upd H p o) := by
  obtain ⟨i, c, s, k, h3, h4⟩ := m.now.here
  have n1 : τ.l ≠ p := ne_of_none m.was.list n
  exact ⟨m.was, fun a u e z => upd_at (ne_of_none z n) (m.keep a u e z), upd_at n1 m.now.list, m.now.ne, i, c, s, k, upd_at (m.neF n).symm h3, h4⟩
theorem Mz.mut (m : Mz τ H0 H) (n : H0 p = none) : Mz τ H0 (upd H p o) := ⟨m.mv.mut n⟩
theorem Mv.free (m : Mv τ H0 H) (n : H p = none) : H0 p = none := by
  cases e : H0 p with
  | none => rfl
  | some o =>
    by_cases z : p = τ.t
    · obtain ⟨_, _, _, _, h, _⟩ := m.now.here
      rw [z, h] at n
      cases n
    · rw [m.keep p o z e] at n
      cases n
theorem Mz.free (m : Mz τ H0 H) (n : H p = none) : H0 p = none := m.mv.free n
theorem Mv.at (m : Mv τ H0 H) (n : a ≠ τ.t) (h : H0 a = some o) : H a = some o := m.keep a o n h
theorem Mv.at' (m : Mv τ H0 H) (h : H0 a = some o) (n : a ≠ τ.t) : H a = some o := m.keep a o n h
theorem Mz.at (m : Mz τ H0 H) (n : a ≠ τ.t) (h : H0 a = some o) : H a = some o := m.mv.keep a o n h
theorem Mv.neT {xs : List V} (m : Mv τ H0 H) (h : H a = some (.tup xs)) : a ≠ τ.t := fun e => by
  obtain ⟨_, _, _, _, z, _⟩ := m.now.here
  rw [e, z] at h
  cases h
theorem Mv.neT0 {xs : List V} (m : Mv τ H0 H) (h : H0 a = some (.tup xs)) : a ≠ τ.t := m.was.mv.neT h
theorem Mv.atT {xs : List V} (m : Mv τ H0 H) (h : H0 a = some (.tup xs)) : H a = some (.tup xs) := m.keep a _ (m.neT0 h) h
theorem Tape.same (h : Tape τ H) (s : Same H H1) : Tape τ H1 := by
  obtain ⟨h1, h2, i, c, s', k, h3, h4⟩ := h
  exact ⟨s _ _ h1, h2, i, c, s', k, s _ _ h3, h4⟩
theorem Mv.same (m : Mv τ H0 H) (s : Same H H1) : Mv τ H0 H1 := by
  obtain ⟨h1, h2, i, c, s', k, h3, h4⟩ := m.now
  exact ⟨m.was, fun a o e z => s a o (m.keep a o e z), s _ _ h1, h2, i, c, s', k, s _ _ h3, h4⟩
theorem Mz.same (m : Mz τ H0 H) (s : Same H H1) : Mz τ H0 H1 := ⟨m.mv.same s⟩
end
theorem iteD {c A B : Prop} [Decidable c] (h1 : c → A) (h2 : ¬ c → B) : if decide c = true then A else B := by
  by_cases h : c
  · rw [decide_eq_true h]
    exact iteT (h1 h)
  · rw [decide_eq_false h]
    exact iteF (h2 h)
theorem iteDY {c A B : Prop} [Decidable c] (h : c) (h1 : A) : if decide c = true then A else B := by
  rw [decide_eq_true h]
  exact iteT h1
theorem iteDN {c A B : Prop} [Decidable c] (h : ¬ c) (h1 : B) : if decide c = true then A else B := by
  rw [decide_eq_false h]
  exact iteF h1
theorem iteET {b : Bool} {A B : Prop} (h : b = true) (k : A) : if b = true then A else B := by
  rw [h]
  exact iteT k
theorem iteEF {b : Bool} {A B : Prop} (h : b = false) (k : B) : if b = true then A else B := by
  rw [h]
  exact iteF k
theorem iteB {b : Bool} {A B : Prop} (h1 : b = true → A) (h2 : b = false → B) : if b = true then A else B := by
  cases b with
  | true => exact iteT (h1 rfl)
  | false => exact iteF (h2 rfl)
theorem fmod_in {x m : Int} (h : 0 < m) : 0 ≤ x.fmod m ∧ x.fmod m < m := by
  rw [Int.fmod_eq_emod_of_nonneg x (Int.le_of_lt h)]
  exact ⟨Int.emod_nonneg x (by omega), Int.emod_lt_of_pos x h⟩
theorem Mv.put {τ : Tp} {H0 H : Hp} (m : Mv τ H0 H) {xs : List V} {i c s n : Int} (e : xs = [.ref τ.l, .int i, .int c, .int s, .int n]) (h : 0 ≤ i) : Mv τ H0 (upd H τ.t (.lst xs)) := by
  subst e
  exact ⟨m.was, fun a o k z => upd_at k (m.keep a o k z), upd_at m.now.ne m.now.list, m.now.ne, i, c, s, n, upd_same, h⟩
theorem le_lineB {n : Nat} (h : Nat.ble n 100000 = true) : n ≤ sizeLine := Nat.le_trans (Nat.le_of_ble_eq_true h) (by decide)
theorem fmod64 {x m : Int} (h : 0 < m) (h2 : m ≤ 2 ^ 64) : -(2 ^ 64) < x.fmod m ∧ x.fmod m < 2 ^ 64 := by
  have q := fmod_in (x := x) h
  omega
theorem at_ints {ns : List Int} {i : Int} (h0 : 0 ≤ i) (h : i < ((ns.map V.int).length : Int)) : ∃ v : Int, atI (ns.map V.int) i = some (.int v) := by
  rw [List.length_map] at h
  have hj : i.toNat < ns.length := by omega
  refine ⟨ns[i.toNat], at_of (j := i.toNat) (by omega) ?_⟩
  rw [List.getElem?_map, List.getElem?_eq_getElem hj]
  rfl
theorem dec_int {a b : Int} : decide (V.int a = V.int b) = decide (a = b) := by
  by_cases h : a = b
  · rw [decide_eq_true h, h, decide_eq_true rfl]
  · rw [decide_eq_false h, decide_eq_false fun e => h (V.int.inj e)]
theorem dec_nat {a b : Nat} : decide (V.int (a : Int) = V.int (b : Int)) = decide (a = b) := by
  rw [dec_int]
  exact decide_eq_decide.mpr Int.ofNat_inj
theorem iteI {a b : Int} {A B : Prop} (h1 : a = b → A) (h2 : ¬ a = b → B) : if decide (V.int a = V.int b) = true then A else B := by
  rw [dec_int]
  exact iteD h1 h2
/-! ### kinds of things -/
def isIntB : V → Bool
  | .int _ => true
  | _ => false
def withinB (v : V) (lo hi : Int) : Bool := match v with
  | .int i => decide (lo ≤ i) && decide (i ≤ hi)
  | _ => false
structure IntK (K : PySem.W.Frag) (H : Hp) (v : V) : Prop where
  ex : ∃ (t : Value) (bi bb : Bool), TyX K H v t ∧ PySem.W.kitOne K t (.type "int") = some bi ∧ PySem.W.kitOne K t (.type "bool") = some bb ∧ (bi && !bb) = isIntB v
section
variable {K : PySem.W.Frag} {H : Hp}
theorem IntK.int (i : Int) : IntK K H (.int i) := ⟨_, true, false, .base (.int i), kit_ty (by decide +kernel), kit_ty (by decide +kernel), rfl⟩
theorem IntK.bl (b : Bool) : IntK K H (.bl b) := ⟨_, true, true, .base (.bl b), kit_ty (by decide +kernel), kit_ty (by decide +kernel), rfl⟩
theorem IntK.non : IntK K H .non := ⟨_, false, false, .base .non, kit_ty (by decide +kernel), kit_ty (by decide +kernel), rfl⟩
theorem IntK.str (s : Str) : IntK K H (.str s) := ⟨_, false, false, .base (.str s), kit_ty (by decide +kernel), kit_ty (by decide +kernel), rfl⟩
theorem IntK.tup {a : Addr} {xs : List V} (h : H a = some (.tup xs)) : IntK K H (.ref a) := ⟨_, false, false, .base (.tup h), kit_ty (by decide +kernel), kit_ty (by decide +kernel), rfl⟩
theorem IntK.lst {a : Addr} {xs : List V} (h : H a = some (.lst xs)) : IntK K H (.ref a) := ⟨_, false, false, .base (.lst h), kit_ty (by decide +kernel), kit_ty (by decide +kernel), rfl⟩
theorem IntK.dK {a : Addr} {xs : List (Key × V)} (h : H a = some (.dK xs)) : IntK K H (.ref a) := ⟨_, false, false, .base (.dK h), kit_ty (by decide +kernel), kit_ty (by decide +kernel), rfl⟩
theorem ty_tup {a : Addr} {xs : List V} (h : H a = some (.tup xs)) : TyX K H (.ref a) (.type "tuple") := .base (.tup h)
theorem ty_int (i : Int) : TyX K H (.int i) (.type "int") := .base (.int i)
theorem ty_bl (b : Bool) : TyX K H (.bl b) (.type "bool") := .base (.bl b)
theorem tup_tup : PySem.W.kitOne K (.type "tuple") (.type "tuple") = some true := kit_ty (by decide +kernel)
theorem int_tup : PySem.W.kitOne K (.type "int") (.type "tuple") = some false := kit_ty (by decide +kernel)
theorem int_int : PySem.W.kitOne K (.type "int") (.type "int") = some true := kit_ty (by decide +kernel)
theorem int_bool : PySem.W.kitOne K (.type "int") (.type "bool") = some false := kit_ty (by decide +kernel)
theorem bool_bool : PySem.W.kitOne K (.type "bool") (.type "bool") = some true := kit_ty (by decide +kernel)
end
/-- tuples stay -/
def TK (H H' : Hp) : Prop := ∀ a xs, H a = some (.tup xs) → H' a = some (.tup xs)
theorem Same.tk {H H' : Hp} (s : Same H H') : TK H H' := fun a _ h => s a _ h
theorem Mv.tk {τ : Tp} {H H' : Hp} (m : Mv τ H H') : TK H H' := fun a _ h => m.keep a _ (m.neT0 h) h
theorem TK.trans {H H1 H2 : Hp} (a : TK H H1) (b : TK H1 H2) : TK H H2 := fun x xs h => b x xs (a x xs h)
theorem TK.mut {H : Hp} {p : Addr} {o : HO} {ys : List V} (h : H p = some (.lst ys)) : TK H (upd H p o) := fun a xs e => upd_at (ne_of e h (by intro z; cases z)) e
theorem TK.new {H : Hp} {p : Addr} {o : HO} (h : H p = none) : TK H (upd H p o) := fun a xs e => upd_at (ne_of_none e h) e
/-! ### len(set(a tuple of whole numbers)); list(reversed(a list)) -/
section
open PySem.Spec PyProof.Rows
variable {X : Cx}
def tLenSetU (K : PySem.W.Frag) (ta : TE) : TE := fun σ H Q => ta σ H fun x H1 => ∃ (l : Addr) (ns : List Int), x = .ref l ∧ SqT K H1 l (ns.map V.int) ∧ ns.length ≤ 4000 ∧ ∀ ks : List Int, ks.Nodup → (∀ k, k ∈ ks ↔ k ∈ ns) → Q (.int (ks.length : Nat)) H1
theorem pe_lenSetU {a : Expr} {ta : TE} {p p2 q pos : Pos} (hg : Gl X "len") (hm : X.mg "len" = none) (hg2 : Gl X "set") (hm2 : X.mg "set" = none) (ha : PE X a ta) (calm : X.calm = true := by rfl)
    (na : starEach [a] X.env = (false, eval a X.env) :: starEach [] X.env := by rfl) : PE X (.Call (.Name "len" p) [.Call (.Name "set" p2) [a] [] q] [] pos) (tLenSetU X.K ta) := by
  constructor
  intro pins s σ H Q I h
  refine Call_ (ld_blt I hg hm boot_len (PyProof.Rows.callWith_builtin1 (PyProof.Rows.args_cons ?_ rfl) rfl rfl))
  refine Call_ (ld_blt I hg2 hm2 PyProof.Rows.boot_set (PyProof.Rows.callWith_type1 (PyProof.Rows.args_cons (thn (ha.run pins s σ H _ I h) fun v s1 ⟨x, H1, I1, r1, q1⟩ => PyProof.Rows.args_nil ?_) na) na rfl))
  obtain ⟨l, ns, ex, hq, hl, done⟩ := q1
  subst ex
  obtain rfl : v = Value.ref l := r1
  obtain ⟨its, rv, pt, hz⟩ := I1.tuple hq
  have hi : PyProof.Rows.IntsAre its.toArray.toList ns := by simpa using ints_of_vals rv
  refine call_set_tupI ns (I1.ok.hd calm) (show s1.heap.IsTuple l its.toArray from pt) hi (by unfold scanBound; omega) fun h' tk c R1 hcn kp => PyProof.Rows.args_nil ?_
  obtain ⟨o, es, ep, t, ho, hex, hdt, g, nd, mem, hb, hf, hn, hr, hl2⟩ := R1
  have I2 : Inv X pins σ H1 { s1 with heap := h', toks := tk } := I1.kept kp
  have le : (es.toList.map keyOf).length = es.size := by rw [List.length_map, Array.length_toList]
  refine call_len_set ho hex hdt hf (by omega) ⟨.int es.size, H1, I2.tok _, ⟨_, rfl⟩, ?_⟩
  rw [← le]
  exact done _ nd fun k => by rw [← mem k, decide_eq_true_eq]
end
/-! ### set(a list of whole numbers) -/
section
open PySem.Spec PyProof.Rows PySem.Calls
variable {P : Program} {w : World} {A : Around} {E : Value → Shared → Prop} {s : Shared}
set_option maxHeartbeats 4000000 in
theorem call_set_listR {l : Addr} {items : Array Value} (ns : List Int) {Q : Value → Shared → Prop} (hh : A.handled = none) (hl : s.heap.IsList l items) (hit : IntsAre items.toList ns) (hb : ns.length + 1 < scanBound)
    (h : ∀ (h' : Heap) (tk c : Nat), SetR w h' s.heap.objs.size (fun j => decide (j ∈ ns)) c → c ≤ ns.length → (∀ b o, s.heap.get? b = some o → h'.get? b = some o) → Q (.ref s.heap.objs.size) { s with heap := h', toks := tk }) :
    wpAny (model P w) A (call (.type "set") [.ref l]) Q E s := by
  have hisz : items.size = ns.length := by
    have q := IntsAre.length hit
    rw [Array.length_toList] at q
    exact q
  obtain ⟨c, tl, hmro⟩ := F.called_set.mro
  have hmade := F.called_set.made
  have hsub := F.called_set.sub
  refine wpAny_call (codeAny_of_tree ?_)
  show wpAny _ _ (callAny (.type "set") _) _ _ _
  refine wpAny_pure ⟨Code.quiet_builtin _ (by decide +kernel), codeAny_builtin F.entry_type_call ?_⟩
  rw [Around.under_plain (weight_type_call_type "set" [.ref l] []) rfl]
  have h1 := F.called_set.notType
  have h2 := F.called_set.canCreate
  have hct := F.typeCall_set_1 (.ref l)
  repeat (any_goals (first | assumption | wp_step))
  refine codeAny_mono (code_set_led1 (.ref l) (E := E) (Q₁ := fun obj s₁ => obj = .ref s.heap.objs.size ∧ s₁ = { s with heap := s.heap.push { cls := .type "set", dict := none, data := .set #[] 0 (.fresh 0 0 (!w.params.followText "set-order")) } }) ⟨rfl, rfl⟩) fun r s₁ hr => ?_
  cases r with
  | error e => exact hr
  | ok fl =>
    cases fl with
    | ret obj =>
      obtain ⟨rfl, rfl⟩ := hr
      have hS : (s.heap.push { cls := .type "set", dict := none, data := .set #[] 0 (.fresh 0 0 (!w.params.followText "set-order")) }).get? s.heap.objs.size = some { cls := .type "set", dict := none, data := .set #[] 0 (.fresh 0 0 (!w.params.followText "set-order")) } := Heap.get?_push_size _ rfl
      have hT : Shared.TypeIs { s with heap := s.heap.push { cls := .type "set", dict := none, data := .set #[] 0 (.fresh 0 0 (!w.params.followText "set-order")) } } (.ref s.heap.objs.size) "set" := ⟨_, hS, rfl⟩
      have hli := F.called_set.init.lookup
      have hbi := F.called_set.init.bind (.ref s.heap.objs.size)
      repeat (any_goals (first | assumption | wp_step))
      refine codeAny_mono (codeAny_call_builtin (R := wants (fun r s₂ => r = .none ∧ ∃ h' tk c, s₂ = { s with heap := h', toks := tk } ∧ SetR w h' s.heap.objs.size (fun j => decide (j ∈ ns)) c ∧ c ≤ ns.length ∧
          (∀ b o, s.heap.get? b = some o → h'.get? b = some o)) E) F.called_set.init.plain F.entry_set_init (check_set_init_1 hT ?_)) fun r₂ s₂ hr₂ => ?_
      · obtain ⟨ol, hol, hcl, nl, hdl⟩ := hl
        obtain ⟨ocls, odict, odata, oslots⟩ := ol
        simp only at hcl hdl
        subst hcl; subst hdl
        have hol' : (s.heap.push { cls := .type "set", dict := none, data := .set #[] 0 (.fresh 0 0 (!w.params.followText "set-order")) }).get? l = some { cls := .type "list", dict := odict, data := .seq items nl, slots := oslots } := Heap.get?_push_of_some _ hol
        have hsls := F.sub_list_set
        have hslf := F.sub_list_frozenset
        have hne : (Value.type "list" == Value.type "dict") = false := by decide
        have hl1 : (s.heap.push { cls := .type "set", dict := none, data := .set #[] 0 (.fresh 0 0 (!w.params.followText "set-order")) }).IsList l items := ⟨_, hol', rfl, nl, rfl⟩
        unfold Builtin.«set.__init__» noKeywords Builtin.Frozenset.updateFrom
        generalize hPI : pyIter = PI
        wp_walk
        subst hPI
        refine wpAny_pyIter_list hl1 ?_
        refine wpAny_bind (wpAny_runValue ?_)
        have hlS : l < s.heap.objs.size := Heap.lt_size hol
        have hh3 : A.in1.in1.in1.handled = none := by simp [hh]
        have hz1 : (s.heap.push { cls := .type "set", dict := none, data := .set #[] 0 (.fresh 0 0 (!w.params.followText "set-order")) }).objs.size = s.heap.objs.size + 1 := Heap.size_push ..
        have hneI : l ≠ (s.heap.push { cls := .type "set", dict := none, data := .set #[] 0 (.fresh 0 0 (!w.params.followText "set-order")) }).objs.size := by
          rw [Heap.size_push]; exact Nat.ne_of_lt (Nat.lt_succ_of_lt hlS)
        have hSf : s.heap.objs.size ∉ [(s.heap.push { cls := .type "set", dict := none, data := .set #[] 0 (.fresh 0 0 (!w.params.followText "set-order")) }).objs.size, l] := by
          rw [Heap.size_push]; simp only [List.mem_cons, List.mem_singleton, List.not_mem_nil, or_false, not_or]
          exact ⟨Nat.ne_of_lt (Nat.lt_succ_self _), Nat.ne_of_gt hlS⟩
        have hval : ∀ (i : Nat) (v : Value), items[i]? = some v → ∃ k t, ns[i]? = some k ∧ v = .int k t := fun i v hv => by
          have hi : i < ns.length := by rw [← hisz]; exact (Array.getElem?_eq_some_iff.mp hv).1
          obtain ⟨t, e⟩ := PyProof.Rows.IntsAre.int_at hit i v (by rw [Array.getElem?_toList]; exact hv)
          refine ⟨ns[i], t, List.getElem?_eq_getElem hi, ?_⟩
          rw [e, List.getD_eq_getElem?_getD, List.getElem?_eq_getElem hi] <;> rfl
        refine set_update_ints ((Walks.list hh3 _ l hneI items).toS) s.heap.objs.size
          hSf ns hisz hb hval (items.size - 0) 0 _ (by omega) (Nat.zero_le _)
          ⟨⟨_, Heap.get?_push_size _ rfl, rfl, rfl⟩, (hl1.push _)⟩ ?hS0 ?hR
        case hS0 =>
          have hget : ((s.heap.push { cls := .type "set", dict := none, data := .set #[] 0 (.fresh 0 0 (!w.params.followText "set-order")) }).push { cls := .type "list_iterator", data := .fields #[.ref l, .int 0 0] }).get? s.heap.objs.size
              = some { cls := .type "set", dict := none, data := .set #[] 0 (.fresh 0 0 (!w.params.followText "set-order")) } := Heap.get?_push_of_some _ hS
          exact ⟨0, Nat.le_refl 0, setR_new_at hget⟩
        case hR =>
          intro s' c' hm hc' hS'
          obtain ⟨h', g2, d', tk', os'⟩ := s'
          have eg : g2 = s.gens := hm.gens
          have ed : d' = s.drawn := hm.drawn
          have eo : os' = s.os := hm.os
          subst eg; subst ed; subst eo
          show wpAny _ _ _ _ _ _
          refine wpAny_pure ?_
          show wpAny _ _ (ret Value.none) _ _ _
          rw [hisz] at hc'
          refine wpAny_pure ⟨rfl, h', tk', c', rfl, hS', hc', fun b o e => ?_⟩
          have hb0 : b < s.heap.objs.size := Heap.lt_size e
          have hb1 : b ≠ s.heap.objs.size := Nat.ne_of_lt hb0
          have hb2 : b ≠ (s.heap.push { cls := .type "set", dict := none, data := .set #[] 0 (.fresh 0 0 (!w.params.followText "set-order")) }).objs.size := by
            rw [Heap.size_push]; exact Nat.ne_of_lt (Nat.lt_succ_of_lt hb0)
          exact hm.heap b o (by simp only [List.mem_cons, List.mem_singleton, List.not_mem_nil, or_false, not_or]; exact ⟨hb1, hb2⟩) (Heap.get?_push_of_some _ (Heap.get?_push_of_some _ e))
      · cases r₂ with
        | error e => exact hr₂
        | ok fl₂ =>
          cases fl₂ with
          | ret r =>
            obtain ⟨rfl, h', tk, c', rfl, hS', hc', hk'⟩ := hr₂
            repeat (any_goals (first | assumption | wp_step))
            exact h _ _ _ hS' hc' hk'
          | _ => exact hr₂.elim
    | _ => exact hr.elim
variable {X : Cx}
def rSetL (w : World) (K : PySem.W.Frag) : List V → Hp → VK → Prop := fun xs H Q => ∃ (a : Addr) (ns : List Int), xs = [.ref a] ∧ SqL K H a (ns.map V.int) ∧ ns.length ≤ 4000 ∧ ∀ (p : Addr) (c : Nat), c ≤ ns.length → (∃ ks : List Int, ks.Nodup ∧ ks.length = c ∧ ∀ k, k ∈ ks ↔ k ∈ ns) → H p = none → Q (.ref p) (upd H p (SetO w p (fun j => decide (j ∈ ns)) c))
theorem cr_setL (hc : X.calm = true) : CallR X (.type "set") (rSetL X.w X.K) := by
  intro pins s σ H xs us Q I r h
  obtain ⟨a, ns, rfl, hq, hl, q⟩ := h
  rw [Vals.ref1 r]
  obtain ⟨its, rv, pl, hz⟩ := I.list hq
  refine call_set_listR ns (I.ok.hd hc) pl.isList (by simpa using ints_of_vals rv) (by unfold scanBound; omega) fun h' tk c R hc' k => ?_
  have nw : H s.heap.objs.size = none := I.hok.fresh (Nat.le_refl _)
  have kk : ∃ ks : List Int, ks.Nodup ∧ ks.length = c ∧ ∀ k, k ∈ ks ↔ k ∈ ns := by
    obtain ⟨o, es, ep, t, ho, hex, hd, g, nd, mem, hb, hf, hn, hr, hl2⟩ := R
    exact ⟨es.toList.map keyOf, nd, by rw [List.length_map, Array.length_toList]; exact hn, fun k => by rw [← mem k, decide_eq_true_eq]⟩
  exact ⟨.ref _, _, I.laid (t' := tk) k (Nat.le_refl _) (setO_new R), rfl, q _ c hc' kk nw⟩
end
/-! ### enumerate(a tuple) -/
section
open PySem.Spec PyProof.Rows PySem.Calls
set_option maxHeartbeats 4000000 in
theorem meets_enum1 {v : Value} {o : Obj} {HH : Heap → Prop} (B : Begins v o HH) :
    Meets (Builtin.«enumerate.__new__» ⟨[.type "enumerate", v], []⟩) (fun _ R s => HH s.heap ∧
      R (.ok (.ret (.ref (s.heap.push o).objs.size))) { s with heap := (s.heap.push o).push { cls := .type "enumerate", data := .fields #[.none, .bool false, .ref s.heap.objs.size, rawInt 0, .none, .none] } }) :=
  .of_wp fun prog w A R s both => by
    obtain ⟨hp, g, d, tk, os⟩ := s
    obtain ⟨h1, h⟩ := both
    have hsub := sub_enumerate
    have it1 : ∀ {A' : Around} {E : Value → Shared → Prop} {Q : Value → Shared → Prop}, Q (.ref hp.objs.size) ⟨hp.push o, g, d, tk, os⟩ → wpAny (model prog w) A' (pyIter v) Q E ⟨hp, g, d, tk, os⟩ := fun q => B.iter prog w _ _ ⟨hp, g, d, tk, os⟩ _ h1 q
    wp_walk using it1
    refine wpAny_stack_any fun st => wpAny_pure ?_
    split
    · rename_i c _ _ _ _ _
      cases (c == Value.type "enumerate") <;> (wp_walk using it1; exact ⟨_, rfl, h⟩)
    · wp_walk using it1
      exact ⟨_, rfl, h⟩
section
variable {prog : Program} {w : World} {A : Around} {E : Value → Shared → Prop} {s : Shared}
theorem call_enum1 {v : Value} {o : Obj} {HH : Heap → Prop} {Q : Value → Shared → Prop} (B : Begins v o HH) (h1 : HH s.heap)
    (fin : ∀ h', IsEnum h' (s.heap.objs.size + 1) s.heap.objs.size 0 .none → h'.get? s.heap.objs.size = some o → h'.objs.size = s.heap.objs.size + 2 → (∀ b u, s.heap.get? b = some u → h'.get? b = some u) → Q (.ref (s.heap.objs.size + 1)) { s with heap := h' }) :
    wpAny (model prog w) A (call (.type "enumerate") [v]) Q E s := by
  refine callType_new F.called_enumerate (by decide) (F.typeCall_enumerate_1 _) (F.newCall_enumerate_1 _) (fun obj => F.args_object_init_2 obj _) F.entry_enumerate_new (meets_enum1 B) ⟨h1, ?_⟩
  have hz : (s.heap.push o).objs.size = s.heap.objs.size + 1 := Heap.size_push ..
  show _ ∧ _
  rw [hz]
  have he : ((s.heap.push o).push { cls := .type "enumerate", data := .fields #[.none, .bool false, .ref s.heap.objs.size, rawInt 0, .none, .none] }).get? (s.heap.objs.size + 1) = some { cls := .type "enumerate", data := .fields #[.none, .bool false, .ref s.heap.objs.size, rawInt 0, .none, .none] } := by
    rw [← hz]
    exact Heap.get?_push_size (s.heap.push o) rfl
  exact ⟨⟨_, he, rfl⟩, fin _ he (Heap.get?_push_of_some _ (Heap.get?_push_size _ B.free)) (by rw [Heap.size_push, hz]) fun b u x => Heap.get?_push_of_some _ (Heap.get?_push_of_some _ x)⟩
end
/-- a tuple's iterator behind its end -/
theorem draws_end {prog : Program} {w : World} {A : Around} (calm : A.handled = none) (it t : Addr) (items : Array Value) (i : Nat) (hi : items[i]? = none) :
    Draws prog w A it [it, t] i (fun _ _ => True) (fun j h => j = i ∧ h.IsTupleIter it t j ∧ h.IsTuple t items) where
  live := fun _ _ st => let ⟨o, ho, _⟩ := st.2.1; ⟨o, ho⟩
  frame := fun _ _ _ st hk => ⟨st.1, st.2.1.at fun o e => hk it (by simp) o e, st.2.2.at fun o e => hk t (by simp) o e⟩
  item := fun j s Q E hj st _ => absurd st.1 (Nat.ne_of_lt hj)
  done := fun s Q E st hE => wpAny_nextOf_tuple_end calm st.2.1 st.2.2 hi hE
/-- the tuple at a, each item in a new pair -/
def IteT (K : PySem.W.Frag) (a : Addr) : It :=
  ⟨fun i H => ∃ (xs : List V) (x : V), SqT K H a xs ∧ xs[i]? = some x, fun i H v H' => ∃ T x, v = .ref T ∧ H T = none ∧ H' = upd H T (.tup [.int (i : Nat), x]) ∧ ∀ xs, SqT K H a xs → xs[i]? = some x, fun i H => ∃ xs : List V, SqT K H a xs ∧ xs.length ≤ i⟩
theorem turn_enumT {P : Program} {w : World} {K : PySem.W.Frag} {elts : List Expr} {kk : Nat} {tpos : Pos} (a e it : Addr) :
    Turn P w K (.Tuple elts kk tpos) (IteT K a) [e, it] e (fun i h => (∃ old, IsEnum h e it ((i : Nat) : Int) old) ∧ h.IsTupleIter it a i ∧ e ≠ it ∧ e ≠ a ∧ it ≠ a) where
  mem := by simp
  obj := fun i h st b hb => by
    obtain ⟨⟨old, he⟩, ⟨o, ho, hc, hd⟩, _⟩ := st
    rcases List.mem_cons.mp hb with z | z
    · subst z
      exact ⟨_, he, fun v q => nomatch q⟩
    · have z2 := List.mem_singleton.mp z
      subst z2
      exact ⟨o, ho, fun v q => by rw [hd] at q; cases q⟩
  keep := fun i h h' st k => let ⟨⟨old, he⟩, hi, hne⟩ := st; ⟨⟨old, k e (by simp) _ he⟩, hi.at fun o q => k it (by simp) o q, hne⟩
  item := by
    intro X hP hw hK calm i pins s σ H E I hf st hg
    subst hP hw hK
    obtain ⟨⟨old, he⟩, hit, n1, n2, n3⟩ := st
    obtain ⟨xs, x, hq, hx⟩ := hg
    obtain ⟨its, rv, p, hz⟩ := I.tuple hq
    obtain ⟨u, hu, ru⟩ := rv.get hx
    have hel : e < s.heap.objs.size := Heap.lt_size he
    have hil : it < s.heap.objs.size := by obtain ⟨_, q, _⟩ := hit; exact Heap.lt_size q
    have ilt : i < its.toArray.size := by rw [List.size_toArray]; exact (List.getElem?_eq_some_iff.mp hu).1
    have D := Draws.tuple (prog := X.prog) (w := X.w) (A := X.A.in1) (by simpa using I.ok.hd calm) it a (Ne.symm n3) its.toArray
    refine wpAny_pyNext_enum_itemD D he ⟨hit, p⟩ ilt n1 (by simp [n1, n2]) fun y h' tk hy ho hst hT hsz hk => ?_
    have ey : y = u := by
      have q : its[i]? = some y := by simpa using hy
      rw [hu] at q
      exact (Option.some.inj q).symm
    subst ey
    refine ⟨_, rfl, wpAny_letOwnedTupleGo_enum (s := { s with heap := h', toks := tk + 1 }) ho fun h2 he2 sb => ?_⟩
    have nT : h2.get? s.heap.objs.size = some { cls := .type "tuple", data := .seq #[.int i tk, y] } := (sb.2 _ (Nat.ne_of_gt hel)).trans hT
    have mk : ObjOk X.prog X.w (upd H s.heap.objs.size (.tup [.int (i : Nat), x])) h2 s.heap.objs.size (.tup [.int (i : Nat), x]) :=
      ⟨by show 2 ≤ sizeLine; decide, [.int i tk, y], .cons ⟨_, rfl⟩ (.cons ru .nil), ⟨_, nT, rfl, _, rfl⟩⟩
    have I1 : Inv X pins σ (upd H s.heap.objs.size (.tup [.int (i : Nat), x])) { s with heap := h2, toks := tk + 1 } :=
      I.turnedNew (ch := [e, it]) (fun b ob hb q => (sb.2 b (fun z => hb (by simp [z]))).trans (hk b ob (fun z => hb (by simp [z])) (fun z => hb (by simp [z])) q)) hf (Nat.le_refl _) mk
    refine ⟨.ref s.heap.objs.size, _, I1, rfl, ⟨_, x, rfl, I.hok.fresh (Nat.le_refl _), rfl, fun ys hy2 => by rw [I.tuple_inj hy2 hq]; exact hx⟩, ⟨⟨y, ?_⟩, hst.1.at fun o q => (sb.2 it (Ne.symm n1)).trans q, n1, n2, n3⟩, fun b hb => ?_⟩
    · rw [show ((i + 1 : Nat) : Int) = (i : Int) + 1 by omega]
      exact he2
    · have lt : b < s.heap.objs.size := by
        rcases List.mem_cons.mp hb with z | z
        · rw [z]; exact hel
        · rw [List.mem_singleton.mp z]; exact hil
      rw [upd_ne (Nat.ne_of_lt lt)]
      exact (hf b hb).1
  done := by
    intro X hP hw hK calm i pins s σ H E I hf st hg
    subst hP hw hK
    obtain ⟨⟨old, he⟩, hit, n1, n2, n3⟩ := st
    obtain ⟨xs, hq, hx⟩ := hg
    obtain ⟨its, rv, p, hz⟩ := I.tuple hq
    obtain ⟨f0, f1, f2, f3, f4, f5⟩ := hf it (by simp)
    have hl := rv.length
    have over : its.toArray[i]? = none := by simp; omega
    exact wpAny_pyNext_enum_endD (draws_end (by simpa using I.ok.hd calm) it a its.toArray i over) he ⟨rfl, hit, p⟩ fun h' eb => ⟨rfl, I.turned (t' := s.toks) (fun b o hb q => eb b o hb q) f0 f1 f3 f4 f5⟩
  self := fun A i s Q E st h => let ⟨⟨_, he⟩, _⟩ := st; wpAny_pyIter_enum he h
def iEnumT (K : PySem.W.Frag) (ta : TA) : TI := fun σ H R => ta σ H fun vs H1 => ∃ a xs, vs = [.ref a] ∧ SqT K H1 a xs ∧ R (IteT K a) H1
theorem pi_enumT {X : Cx} {e : Expr} {ta : TA} {p pos tpos : Pos} {elts : List Expr} {kk : Nat} (hg : Gl X "enumerate") (hm : X.mg "enumerate" = none) (ha : PA X [e] ta) (hs : starEach [e] X.env = [(false, eval e X.env)] := by rfl) :
    PI X (.Tuple elts kk tpos) (.Call (.Name "enumerate" p) [e] [] pos) (iEnumT X.K ta) := by
  constructor
  intro pins s σ H R I h
  refine Call_ (ld_blt I hg hm boot_enumerate (PyProof.Rows.callWith_type1 (thn (ha.run pos pins s σ H _ I h) fun us s1 ⟨vs, H1, I1, r1, q1⟩ => ?_) hs rfl))
  obtain ⟨a, xs, ex, hq, q⟩ := q1
  subst ex
  cases r1 with
  | cons r rr =>
    cases rr
    cases r
    obtain ⟨its, rv, tp, hz⟩ := I1.tuple hq
    have al : a < s1.heap.objs.size := by obtain ⟨_, q, _⟩ := tp; exact Heap.lt_size q
    refine call_enum1 (begins_tuple a its.toArray) (show s1.heap.IsTuple a its.toArray from tp) fun h' he hit hsz hk => wpAny_pyIter_enum he ?_
    have I2 : Inv X pins σ H1 { s1 with heap := h' } := I1.kept (t' := s1.toks) hk
    refine ⟨s1.heap.objs.size + 1, [s1.heap.objs.size + 1, s1.heap.objs.size], _, _, H1, rfl, I2, turn_enumT a (s1.heap.objs.size + 1) s1.heap.objs.size, ⟨⟨.none, he⟩, ⟨_, hit, rfl, rfl⟩, Nat.succ_ne_self _, Nat.ne_of_gt (Nat.lt_succ_of_lt al), Nat.ne_of_gt al⟩, fun b hb => ?_, q⟩
    have le : s1.heap.objs.size ≤ b := by
      rcases List.mem_cons.mp hb with z | z
      · rw [z]; exact Nat.le_add_right _ _
      · rw [List.mem_singleton.mp z]; exact Nat.le_refl _
    exact I1.fpOk le (I1.hok.fresh le)
theorem for_enumT {K : PySem.W.Frag} {a : Addr} {xs : List V} {g : TG} {tb : TS} {D : Ends} {σ : L2.St} {H : Hp} (Pv : Nat → L2.St → Hp → Prop) (h0 : Pv 0 σ H) (hq : ∀ i σ H, Pv i σ H → SqT K H a xs)
    (hs : ∀ (i : Nat) (x : V) (t : Addr) (σ : L2.St) (H : Hp), xs[i]? = some x → Pv i σ H → H t = none → g (.ref t) σ (upd H t (.tup [.int (i : Nat), x])) fun σ2 H2 => tb { D with nx := Pv (i + 1), ct := Pv (i + 1), bk := D.nx } σ2 H2)
    (hd : ∀ σ H, Pv xs.length σ H → D.nx σ H) : ∃ W : Nat → Nat → L2.St → Hp → Prop, (∃ m, W 0 m σ H) ∧ ∀ i m σ H, W i m σ H →
      ((IteT K a).stop i H ∧ D.nx σ H) ∨ ((IteT K a).go i H ∧ ∃ N : L2.St → Hp → Prop, (∀ σ' H', N σ' H' → ∃ m', m' < m ∧ W (i + 1) m' σ' H') ∧ ∀ v H', (IteT K a).yld i H v H' → g v σ H' fun σ2 H2 => tb { D with nx := N, ct := N, bk := D.nx } σ2 H2) := by
  refine ⟨fun i m σ H => m = xs.length - i ∧ i ≤ xs.length ∧ Pv i σ H, ⟨_, rfl, Nat.zero_le _, h0⟩, ?_⟩
  rintro i m σ H ⟨rfl, hi, p⟩
  have q := hq i σ H p
  by_cases lt : i < xs.length
  · refine .inr ⟨⟨xs, _, q, List.getElem?_eq_getElem lt⟩, Pv (i + 1), fun σ' H' p2 => ⟨_, by omega, rfl, lt, p2⟩, fun v H' y => ?_⟩
    obtain ⟨t, x, rfl, nt, rfl, f⟩ := y
    exact hs i x t σ H (f xs q) p nt
  · have e : i = xs.length := by omega
    subst e
    exact .inl ⟨⟨xs, q, Nat.le_refl _⟩, hd σ H p⟩
end
/-! ### x |= e -/
theorem ip_or {X : Cx} : PIp X .BitOr (ipI fun i j => Builtin.bitOr i j) := by
  intro pins s σ H x y v u Q I r1 r2 h
  exact iop_or pins s σ H x y v u Q I r1 r2 h
/-! ### comprehensions -/
theorem filterMap_range_succ {α : Type} (f : Nat → Option α) (n : Nat) : (List.range (n + 1)).filterMap f = (List.range n).filterMap f ++ (f n).toList := by
  rw [List.range_succ, List.filterMap_append]
  cases e : f n with
  | none => simp [e]
  | some v => simp [e]
theorem filterMap_range_len {α : Type} (f : Nat → Option α) (n : Nat) : ((List.range n).filterMap f).length ≤ n := by
  have h := List.length_filterMap_le f (List.range n)
  rw [List.length_range] at h
  exact h
theorem lt_line {n : Nat} (h : n ≤ 100000) : n < sizeLine := Nat.lt_of_le_of_lt h (by decide)
theorem lc_rangeF {lo : Int} {n : Nat} {g : TG} {tt : TT} {te : TE} {vs : List Nat} {σ : St} {H1 : Hp} {D : Addr} {Qd : Hp → Prop} (f : Nat → Option V) (nD : H1 D = none) (hn : n ≤ 100000)
    (hs : ∀ (i : Nat) (H : Hp) (N : V → Hp → Prop) (M : Hp → Prop), i < n → Same H1 H → (∀ v H4, f i = some v → Same H H4 → N v H4) → (∀ H4, f i = none → Same H H4 → M H4) → g (.int (lo + (i : Int))) (wipe σ vs) H fun σ2 H2 => wipe σ2 vs = wipe σ vs ∧ tt σ2 H2 fun b H3 => if b = true then te σ2 H3 N else M H3)
    (hd : ∀ H, Same H1 H → H D = some (.lst ((List.range n).filterMap f)) → Qd H) : ∃ W : Nat → Nat → Hp → Prop, (∃ m, W 0 m (upd H1 D (.lst []))) ∧ ∀ i m H, W i m H →
      ((Itr lo n).stop i H ∧ Qd H) ∨ ((Itr lo n).go i H ∧ ∃ Nx : Hp → Prop, (∀ H', Nx H' → ∃ m', m' < m ∧ W (i + 1) m' H') ∧ ∀ x H', (Itr lo n).yld i H x H' → g x (wipe σ vs) H' fun σ2 H2 => wipe σ2 vs = wipe σ vs ∧ tt σ2 H2 fun b H3 =>
        if b = true then te σ2 H3 fun y H4 => ∃ acc, H4 D = some (.lst acc) ∧ acc.length < sizeLine ∧ Nx (upd H4 D (.lst (acc ++ [y]))) else Nx H3) := by
  refine lc_range (lo := lo) (n := n) (fun i H => Same H1 H ∧ H D = some (.lst ((List.range i).filterMap f))) ⟨Same.new (Same.refl H1) nD, upd_same⟩ (fun i H hi p => ?_) (fun H p => hd H p.1 p.2)
  have il : i < n := hi
  have hz := filterMap_range_len f i
  refine hs i H _ _ hi p.1 (fun v H4 e s => ⟨_, s _ _ p.2, lt_line (by omega), ?_, ?_⟩) (fun H4 e s => ⟨?_, ?_⟩)
  · exact Same.mut (Same.trans p.1 s) nD
  · rw [filterMap_range_succ, e]
    exact upd_same
  · exact Same.trans p.1 s
  · rw [filterMap_range_succ, e, s _ _ p.2]
    simp
theorem lc_rangeM {lo : Int} {n : Nat} {g : TG} {tt : TT} {te : TE} {vs : List Nat} {σ : St} {H1 : Hp} {D : Addr} {Qd : Hp → Prop} {τ : Tp} (R : Nat → V → Hp → Prop) (st : ∀ i v H H', R i v H → TK H H' → R i v H') (t : Tape τ H1) (nD : H1 D = none) (hn : n ≤ 100000)
    (hs : ∀ (i : Nat) (H : Hp) (N : V → Hp → Prop) (M : Hp → Prop), i < n → Mv τ H1 H → (∀ v H4, Mv τ H H4 → R i v H4 → N v H4) → g (.int (lo + (i : Int))) (wipe σ vs) H fun σ2 H2 => wipe σ2 vs = wipe σ vs ∧ tt σ2 H2 fun b H3 => if b = true then te σ2 H3 N else M H3)
    (hd : ∀ H acc, Mv τ H1 H → H D = some (.lst acc) → acc.length = n → (∀ (j : Nat) v, acc[j]? = some v → R j v H) → Qd H) : ∃ W : Nat → Nat → Hp → Prop, (∃ m, W 0 m (upd H1 D (.lst []))) ∧ ∀ i m H, W i m H →
      ((Itr lo n).stop i H ∧ Qd H) ∨ ((Itr lo n).go i H ∧ ∃ Nx : Hp → Prop, (∀ H', Nx H' → ∃ m', m' < m ∧ W (i + 1) m' H') ∧ ∀ x H', (Itr lo n).yld i H x H' → g x (wipe σ vs) H' fun σ2 H2 => wipe σ2 vs = wipe σ vs ∧ tt σ2 H2 fun b H3 =>
        if b = true then te σ2 H3 fun y H4 => ∃ acc, H4 D = some (.lst acc) ∧ acc.length < sizeLine ∧ Nx (upd H4 D (.lst (acc ++ [y]))) else Nx H3) := by
  refine lc_range (lo := lo) (n := n) (fun i H => Mv τ H1 H ∧ ∃ acc, H D = some (.lst acc) ∧ acc.length = i ∧ ∀ (j : Nat) v, acc[j]? = some v → R j v H) ⟨(t.mv).new nD, [], upd_same, rfl, fun j v e => by simp at e⟩ (fun i H hi p => ?_) (fun H p => ?_)
  · obtain ⟨m, acc, hD, hlen, hR⟩ := p
    have il : i < n := hi
    refine hs i H _ _ hi m (fun v H4 m4 r => ⟨acc, m4.keep _ _ (t.mv.neF nD) hD, lt_line (by omega), (m.trans m4).mut nD, acc ++ [v], upd_same, by rw [List.length_append, hlen]; rfl, fun j u e => ?_⟩)
    have k1 : TK H4 (upd H4 D (.lst (acc ++ [v]))) := TK.mut (m4.keep _ _ (t.mv.neF nD) hD)
    by_cases hj : j < acc.length
    · rw [List.getElem?_append_left hj] at e
      exact st _ _ _ _ (st _ _ _ _ (hR j u e) m4.tk) k1
    · rw [List.getElem?_append_right (by omega)] at e
      have hj2 : j = i := by
        have q := (List.getElem?_eq_some_iff.mp e).1
        rw [List.length_singleton] at q
        omega
      rw [hj2, hlen, Nat.sub_self] at e
      have e2 : v = u := Option.some.inj e
      rw [← e2, hj2]
      exact st _ _ _ _ r k1
  · obtain ⟨m, acc, hD, hlen, hR⟩ := p
    exact hd H acc m hD hlen hR
theorem lc_listF {K : PySem.W.Frag} {a : Addr} {xs : List V} {g : TG} {tt : TT} {te : TE} {vs : List Nat} {σ : St} {H1 : Hp} {D : Addr} {Qd : Hp → Prop} (f : Nat → Option V) (hx : H1 a = some (.lst xs)) (nD : H1 D = none) (hn : xs.length ≤ 100000)
    (hs : ∀ (i : Nat) (x : V) (H : Hp) (N : V → Hp → Prop) (M : Hp → Prop), xs[i]? = some x → Same H1 H → (∀ v H4, f i = some v → Same H H4 → N v H4) → (∀ H4, f i = none → Same H H4 → M H4) → g x (wipe σ vs) H fun σ2 H2 => wipe σ2 vs = wipe σ vs ∧ tt σ2 H2 fun b H3 => if b = true then te σ2 H3 N else M H3)
    (hd : ∀ H, Same H1 H → H D = some (.lst ((List.range xs.length).filterMap f)) → Qd H) : ∃ W : Nat → Nat → Hp → Prop, (∃ m, W 0 m (upd H1 D (.lst []))) ∧ ∀ i m H, W i m H →
      ((Itl K a).stop i H ∧ Qd H) ∨ ((Itl K a).go i H ∧ ∃ Nx : Hp → Prop, (∀ H', Nx H' → ∃ m', m' < m ∧ W (i + 1) m' H') ∧ ∀ x H', (Itl K a).yld i H x H' → g x (wipe σ vs) H' fun σ2 H2 => wipe σ2 vs = wipe σ vs ∧ tt σ2 H2 fun b H3 =>
        if b = true then te σ2 H3 fun y H4 => ∃ acc, H4 D = some (.lst acc) ∧ acc.length < sizeLine ∧ Nx (upd H4 D (.lst (acc ++ [y]))) else Nx H3) := by
  refine lc_list (K := K) (a := a) (xs := xs) (fun i H => Same H1 H ∧ H D = some (.lst ((List.range i).filterMap f))) ⟨Same.new (Same.refl H1) nD, upd_same⟩ (fun i H _ p => SqL.of (p.1 _ _ hx)) (fun i x H hi p => ?_) (fun H p => hd H p.1 p.2)
  have il : i < xs.length := (List.getElem?_eq_some_iff.mp hi).1
  have hz := filterMap_range_len f i
  refine hs i x H _ _ hi p.1 (fun v H4 e s => ⟨_, s _ _ p.2, lt_line (by omega), ?_, ?_⟩) (fun H4 e s => ⟨?_, ?_⟩)
  · exact Same.mut (Same.trans p.1 s) nD
  · rw [filterMap_range_succ, e]
    exact upd_same
  · exact Same.trans p.1 s
  · rw [filterMap_range_succ, e, s _ _ p.2]
    simp
theorem lc_listM {K : PySem.W.Frag} {a : Addr} {xs : List V} {g : TG} {tt : TT} {te : TE} {vs : List Nat} {σ : St} {H1 : Hp} {D : Addr} {Qd : Hp → Prop} {τ : Tp} (R : Nat → V → Hp → Prop) (st : ∀ i v H H', R i v H → TK H H' → R i v H') (hx : H1 a = some (.lst xs)) (ne_a : a ≠ τ.t) (t : Tape τ H1) (nD : H1 D = none) (hn : xs.length ≤ 100000)
    (hs : ∀ (i : Nat) (x : V) (H : Hp) (N : V → Hp → Prop) (M : Hp → Prop), xs[i]? = some x → Mv τ H1 H → (∀ v H4, Mv τ H H4 → R i v H4 → N v H4) → g x (wipe σ vs) H fun σ2 H2 => wipe σ2 vs = wipe σ vs ∧ tt σ2 H2 fun b H3 => if b = true then te σ2 H3 N else M H3)
    (hd : ∀ H acc, Mv τ H1 H → H D = some (.lst acc) → acc.length = xs.length → (∀ (j : Nat) v, acc[j]? = some v → R j v H) → Qd H) : ∃ W : Nat → Nat → Hp → Prop, (∃ m, W 0 m (upd H1 D (.lst []))) ∧ ∀ i m H, W i m H →
      ((Itl K a).stop i H ∧ Qd H) ∨ ((Itl K a).go i H ∧ ∃ Nx : Hp → Prop, (∀ H', Nx H' → ∃ m', m' < m ∧ W (i + 1) m' H') ∧ ∀ x H', (Itl K a).yld i H x H' → g x (wipe σ vs) H' fun σ2 H2 => wipe σ2 vs = wipe σ vs ∧ tt σ2 H2 fun b H3 =>
        if b = true then te σ2 H3 fun y H4 => ∃ acc, H4 D = some (.lst acc) ∧ acc.length < sizeLine ∧ Nx (upd H4 D (.lst (acc ++ [y]))) else Nx H3) := by
  refine lc_list (K := K) (a := a) (xs := xs) (fun i H => Mv τ H1 H ∧ ∃ acc, H D = some (.lst acc) ∧ acc.length = i ∧ ∀ (j : Nat) v, acc[j]? = some v → R j v H) ⟨(t.mv).new nD, [], upd_same, rfl, fun j v e => by simp at e⟩ (fun i H _ p => SqL.of (p.1.keep _ _ ne_a hx)) (fun i x H hi p => ?_) (fun H p => ?_)
  · obtain ⟨m, acc, hD, hlen, hR⟩ := p
    have il : i < xs.length := (List.getElem?_eq_some_iff.mp hi).1
    refine hs i x H _ _ hi m (fun v H4 m4 r => ⟨acc, m4.keep _ _ (t.mv.neF nD) hD, lt_line (by omega), (m.trans m4).mut nD, acc ++ [v], upd_same, by rw [List.length_append, hlen]; rfl, fun j u e => ?_⟩)
    have k1 : TK H4 (upd H4 D (.lst (acc ++ [v]))) := TK.mut (m4.keep _ _ (t.mv.neF nD) hD)
    by_cases hj : j < acc.length
    · rw [List.getElem?_append_left hj] at e
      exact st _ _ _ _ (st _ _ _ _ (hR j u e) m4.tk) k1
    · rw [List.getElem?_append_right (by omega)] at e
      have hj2 : j = i := by
        have q := (List.getElem?_eq_some_iff.mp e).1
        rw [List.length_singleton] at q
        omega
      rw [hj2, hlen, Nat.sub_self] at e
      have e2 : v = u := Option.some.inj e
      rw [← e2, hj2]
      exact st _ _ _ _ r k1
  · obtain ⟨m, acc, hD, hlen, hR⟩ := p
    exact hd H acc m hD hlen hR
theorem lc_tupF {K : PySem.W.Frag} {a : Addr} {xs : List V} {g : TG} {tt : TT} {te : TE} {vs : List Nat} {σ : St} {H1 : Hp} {D : Addr} {Qd : Hp → Prop} (f : Nat → Option V) (hx : H1 a = some (.tup xs)) (nD : H1 D = none) (hn : xs.length ≤ 100000)
    (hs : ∀ (i : Nat) (x : V) (H : Hp) (N : V → Hp → Prop) (M : Hp → Prop), xs[i]? = some x → Same H1 H → (∀ v H4, f i = some v → Same H H4 → N v H4) → (∀ H4, f i = none → Same H H4 → M H4) → g x (wipe σ vs) H fun σ2 H2 => wipe σ2 vs = wipe σ vs ∧ tt σ2 H2 fun b H3 => if b = true then te σ2 H3 N else M H3)
    (hd : ∀ H, Same H1 H → H D = some (.lst ((List.range xs.length).filterMap f)) → Qd H) : ∃ W : Nat → Nat → Hp → Prop, (∃ m, W 0 m (upd H1 D (.lst []))) ∧ ∀ i m H, W i m H →
      ((Itt K a).stop i H ∧ Qd H) ∨ ((Itt K a).go i H ∧ ∃ Nx : Hp → Prop, (∀ H', Nx H' → ∃ m', m' < m ∧ W (i + 1) m' H') ∧ ∀ x H', (Itt K a).yld i H x H' → g x (wipe σ vs) H' fun σ2 H2 => wipe σ2 vs = wipe σ vs ∧ tt σ2 H2 fun b H3 =>
        if b = true then te σ2 H3 fun y H4 => ∃ acc, H4 D = some (.lst acc) ∧ acc.length < sizeLine ∧ Nx (upd H4 D (.lst (acc ++ [y]))) else Nx H3) := by
  refine lc_tup (K := K) (a := a) (xs := xs) (fun i H => Same H1 H ∧ H D = some (.lst ((List.range i).filterMap f))) ⟨Same.new (Same.refl H1) nD, upd_same⟩ (fun i H _ p => SqT.of (p.1 _ _ hx)) (fun i x H hi p => ?_) (fun H p => hd H p.1 p.2)
  have il : i < xs.length := (List.getElem?_eq_some_iff.mp hi).1
  have hz := filterMap_range_len f i
  refine hs i x H _ _ hi p.1 (fun v H4 e s => ⟨_, s _ _ p.2, lt_line (by omega), ?_, ?_⟩) (fun H4 e s => ⟨?_, ?_⟩)
  · exact Same.mut (Same.trans p.1 s) nD
  · rw [filterMap_range_succ, e]
    exact upd_same
  · exact Same.trans p.1 s
  · rw [filterMap_range_succ, e, s _ _ p.2]
    simp
theorem lc_tupM {K : PySem.W.Frag} {a : Addr} {xs : List V} {g : TG} {tt : TT} {te : TE} {vs : List Nat} {σ : St} {H1 : Hp} {D : Addr} {Qd : Hp → Prop} {τ : Tp} (R : Nat → V → Hp → Prop) (st : ∀ i v H H', R i v H → TK H H' → R i v H') (hx : H1 a = some (.tup xs)) (ne_a : a ≠ τ.t) (t : Tape τ H1) (nD : H1 D = none) (hn : xs.length ≤ 100000)
    (hs : ∀ (i : Nat) (x : V) (H : Hp) (N : V → Hp → Prop) (M : Hp → Prop), xs[i]? = some x → Mv τ H1 H → (∀ v H4, Mv τ H H4 → R i v H4 → N v H4) → g x (wipe σ vs) H fun σ2 H2 => wipe σ2 vs = wipe σ vs ∧ tt σ2 H2 fun b H3 => if b = true then te σ2 H3 N else M H3)
    (hd : ∀ H acc, Mv τ H1 H → H D = some (.lst acc) → acc.length = xs.length → (∀ (j : Nat) v, acc[j]? = some v → R j v H) → Qd H) : ∃ W : Nat → Nat → Hp → Prop, (∃ m, W 0 m (upd H1 D (.lst []))) ∧ ∀ i m H, W i m H →
      ((Itt K a).stop i H ∧ Qd H) ∨ ((Itt K a).go i H ∧ ∃ Nx : Hp → Prop, (∀ H', Nx H' → ∃ m', m' < m ∧ W (i + 1) m' H') ∧ ∀ x H', (Itt K a).yld i H x H' → g x (wipe σ vs) H' fun σ2 H2 => wipe σ2 vs = wipe σ vs ∧ tt σ2 H2 fun b H3 =>
        if b = true then te σ2 H3 fun y H4 => ∃ acc, H4 D = some (.lst acc) ∧ acc.length < sizeLine ∧ Nx (upd H4 D (.lst (acc ++ [y]))) else Nx H3) := by
  refine lc_tup (K := K) (a := a) (xs := xs) (fun i H => Mv τ H1 H ∧ ∃ acc, H D = some (.lst acc) ∧ acc.length = i ∧ ∀ (j : Nat) v, acc[j]? = some v → R j v H) ⟨(t.mv).new nD, [], upd_same, rfl, fun j v e => by simp at e⟩ (fun i H _ p => SqT.of (p.1.keep _ _ ne_a hx)) (fun i x H hi p => ?_) (fun H p => ?_)
  · obtain ⟨m, acc, hD, hlen, hR⟩ := p
    have il : i < xs.length := (List.getElem?_eq_some_iff.mp hi).1
    refine hs i x H _ _ hi m (fun v H4 m4 r => ⟨acc, m4.keep _ _ (t.mv.neF nD) hD, lt_line (by omega), (m.trans m4).mut nD, acc ++ [v], upd_same, by rw [List.length_append, hlen]; rfl, fun j u e => ?_⟩)
    have k1 : TK H4 (upd H4 D (.lst (acc ++ [v]))) := TK.mut (m4.keep _ _ (t.mv.neF nD) hD)
    by_cases hj : j < acc.length
    · rw [List.getElem?_append_left hj] at e
      exact st _ _ _ _ (st _ _ _ _ (hR j u e) m4.tk) k1
    · rw [List.getElem?_append_right (by omega)] at e
      have hj2 : j = i := by
        have q := (List.getElem?_eq_some_iff.mp e).1
        rw [List.length_singleton] at q
        omega
      rw [hj2, hlen, Nat.sub_self] at e
      have e2 : v = u := Option.some.inj e
      rw [← e2, hj2]
      exact st _ _ _ _ r k1
  · obtain ⟨m, acc, hD, hlen, hR⟩ := p
    exact hd H acc m hD hlen hR
/-! ### comprehensions over zip -/
theorem lc_zipLF {K : PySem.W.Frag} {a b : Addr} {xs ys : List V} {g : TG} {tt : TT} {te : TE} {vs : List Nat} {σ : St} {H1 : Hp} {D : Addr} {Qd : Hp → Prop} (f : Nat → Option V) (hx : H1 a = some (.lst xs)) (hy : H1 b = some (.lst ys)) (hl : xs.length = ys.length) (nD : H1 D = none) (hn : xs.length ≤ 100000)
    (hs : ∀ (i : Nat) (x y : V) (Z : Addr) (H : Hp) (N : V → Hp → Prop) (M : Hp → Prop), xs[i]? = some x → ys[i]? = some y → Same H1 H → H Z = some (.tup [x, y]) → (∀ v H4, f i = some v → Same H H4 → N v H4) → (∀ H4, f i = none → Same H H4 → M H4) → g (.ref Z) (wipe σ vs) H fun σ2 H2 => wipe σ2 vs = wipe σ vs ∧ tt σ2 H2 fun b H3 => if b = true then te σ2 H3 N else M H3)
    (hd : ∀ H, Same H1 H → H D = some (.lst ((List.range xs.length).filterMap f)) → Qd H) : ∃ W : Nat → Nat → Hp → Prop, (∃ m, W 0 m (upd H1 D (.lst []))) ∧ ∀ i m H, W i m H →
      ((Itz K a b).stop i H ∧ Qd H) ∨ ((Itz K a b).go i H ∧ ∃ Nx : Hp → Prop, (∀ H', Nx H' → ∃ m', m' < m ∧ W (i + 1) m' H') ∧ ∀ x H', (Itz K a b).yld i H x H' → g x (wipe σ vs) H' fun σ2 H2 => wipe σ2 vs = wipe σ vs ∧ tt σ2 H2 fun b H3 =>
        if b = true then te σ2 H3 fun y H4 => ∃ acc, H4 D = some (.lst acc) ∧ acc.length < sizeLine ∧ Nx (upd H4 D (.lst (acc ++ [y]))) else Nx H3) := by
  refine ⟨fun i m H => m = xs.length - i ∧ i ≤ xs.length ∧ Same H1 H ∧ H D = some (.lst ((List.range i).filterMap f)), ⟨xs.length, rfl, Nat.zero_le _, Same.new (Same.refl H1) nD, upd_same⟩, ?_⟩
  rintro i m H ⟨rfl, hi, s, hD⟩
  have qx : SqL K H a xs := SqL.of (s _ _ hx)
  have qy : SqL K H b ys := SqL.of (s _ _ hy)
  have hz := filterMap_range_len f i
  by_cases hlt : i < xs.length
  · have ex : xs[i]? = some xs[i] := List.getElem?_eq_getElem hlt
    have hlt2 : i < ys.length := by omega
    have ey : ys[i]? = some ys[i] := List.getElem?_eq_getElem hlt2
    refine .inr ⟨⟨xs, ys, _, _, qx, qy, ex, ey⟩, fun H => i < xs.length ∧ Same H1 H ∧ H D = some (.lst ((List.range (i + 1)).filterMap f)), fun H' p' => ⟨xs.length - (i + 1), by omega, rfl, hlt, p'.2⟩, fun v H' y => ?_⟩
    obtain ⟨Z, x', y', rfl, hZ, rfl, f1, f2⟩ := y
    have s1 : Same H (upd H Z (.tup [x', y'])) := Same.new (Same.refl H) hZ
    refine hs i x' y' Z _ _ _ (f1 xs qx) (f2 ys qy) (s.trans s1) upd_same (fun v H4 e s4 => ⟨_, s4 _ _ (s1 _ _ hD), lt_line (by omega), hlt, ?_, ?_⟩) (fun H4 e s4 => ⟨hlt, ?_, ?_⟩)
    · exact Same.mut ((s.trans s1).trans s4) nD
    · rw [filterMap_range_succ, e]
      exact upd_same
    · exact (s.trans s1).trans s4
    · rw [filterMap_range_succ, e, s4 _ _ (s1 _ _ hD)]
      simp
  · have e : i = xs.length := by omega
    subst e
    exact .inl ⟨⟨xs, ys, qx, qy, Or.inl (Nat.le_refl _)⟩, hd H s hD⟩
theorem lc_zipTF {K : PySem.W.Frag} {a b : Addr} {xs ys : List V} {g : TG} {tt : TT} {te : TE} {vs : List Nat} {σ : St} {H1 : Hp} {D : Addr} {Qd : Hp → Prop} (f : Nat → Option V) (hx : H1 a = some (.tup xs)) (hy : H1 b = some (.tup ys)) (hl : xs.length = ys.length) (nD : H1 D = none) (hn : xs.length ≤ 100000)
    (hs : ∀ (i : Nat) (x y : V) (Z : Addr) (H : Hp) (N : V → Hp → Prop) (M : Hp → Prop), xs[i]? = some x → ys[i]? = some y → Same H1 H → H Z = some (.tup [x, y]) → (∀ v H4, f i = some v → Same H H4 → N v H4) → (∀ H4, f i = none → Same H H4 → M H4) → g (.ref Z) (wipe σ vs) H fun σ2 H2 => wipe σ2 vs = wipe σ vs ∧ tt σ2 H2 fun b H3 => if b = true then te σ2 H3 N else M H3)
    (hd : ∀ H, Same H1 H → H D = some (.lst ((List.range xs.length).filterMap f)) → Qd H) : ∃ W : Nat → Nat → Hp → Prop, (∃ m, W 0 m (upd H1 D (.lst []))) ∧ ∀ i m H, W i m H →
      ((RZ.ItzT K a b).stop i H ∧ Qd H) ∨ ((RZ.ItzT K a b).go i H ∧ ∃ Nx : Hp → Prop, (∀ H', Nx H' → ∃ m', m' < m ∧ W (i + 1) m' H') ∧ ∀ x H', (RZ.ItzT K a b).yld i H x H' → g x (wipe σ vs) H' fun σ2 H2 => wipe σ2 vs = wipe σ vs ∧ tt σ2 H2 fun b H3 =>
        if b = true then te σ2 H3 fun y H4 => ∃ acc, H4 D = some (.lst acc) ∧ acc.length < sizeLine ∧ Nx (upd H4 D (.lst (acc ++ [y]))) else Nx H3) := by
  refine ⟨fun i m H => m = xs.length - i ∧ i ≤ xs.length ∧ Same H1 H ∧ H D = some (.lst ((List.range i).filterMap f)), ⟨xs.length, rfl, Nat.zero_le _, Same.new (Same.refl H1) nD, upd_same⟩, ?_⟩
  rintro i m H ⟨rfl, hi, s, hD⟩
  have qx : SqT K H a xs := SqT.of (s _ _ hx)
  have qy : SqT K H b ys := SqT.of (s _ _ hy)
  have hz := filterMap_range_len f i
  by_cases hlt : i < xs.length
  · have ex : xs[i]? = some xs[i] := List.getElem?_eq_getElem hlt
    have hlt2 : i < ys.length := by omega
    have ey : ys[i]? = some ys[i] := List.getElem?_eq_getElem hlt2
    refine .inr ⟨⟨xs, ys, _, _, qx, qy, ex, ey⟩, fun H => i < xs.length ∧ Same H1 H ∧ H D = some (.lst ((List.range (i + 1)).filterMap f)), fun H' p' => ⟨xs.length - (i + 1), by omega, rfl, hlt, p'.2⟩, fun v H' y => ?_⟩
    obtain ⟨Z, x', y', rfl, hZ, rfl, f1, f2⟩ := y
    have s1 : Same H (upd H Z (.tup [x', y'])) := Same.new (Same.refl H) hZ
    refine hs i x' y' Z _ _ _ (f1 xs qx) (f2 ys qy) (s.trans s1) upd_same (fun v H4 e s4 => ⟨_, s4 _ _ (s1 _ _ hD), lt_line (by omega), hlt, ?_, ?_⟩) (fun H4 e s4 => ⟨hlt, ?_, ?_⟩)
    · exact Same.mut ((s.trans s1).trans s4) nD
    · rw [filterMap_range_succ, e]
      exact upd_same
    · exact (s.trans s1).trans s4
    · rw [filterMap_range_succ, e, s4 _ _ (s1 _ _ hD)]
      simp
  · have e : i = xs.length := by omega
    subst e
    exact .inl ⟨⟨xs, ys, qx, qy, Or.inl (Nat.le_refl _)⟩, hd H s hD⟩
/-! comprehensions whose items are new things -/
theorem lc_rangeR {lo : Int} {n : Nat} {g : TG} {tt : TT} {te : TE} {vs : List Nat} {σ : St} {H1 : Hp} {D : Addr} {Qd : Hp → Prop} (R : Nat → V → Hp → Prop) (st : ∀ i v H H', R i v H → TK H H' → R i v H') (nD : H1 D = none) (hn : n ≤ 100000)
    (hs : ∀ (i : Nat) (H : Hp) (N : V → Hp → Prop) (M : Hp → Prop), i < n → Same H1 H → (∀ v H4, Same H H4 → R i v H4 → N v H4) → g (.int (lo + (i : Int))) (wipe σ vs) H fun σ2 H2 => wipe σ2 vs = wipe σ vs ∧ tt σ2 H2 fun b H3 => if b = true then te σ2 H3 N else M H3)
    (hd : ∀ H acc, Same H1 H → H D = some (.lst acc) → acc.length = n → (∀ (j : Nat) v, acc[j]? = some v → R j v H) → Qd H) : ∃ W : Nat → Nat → Hp → Prop, (∃ m, W 0 m (upd H1 D (.lst []))) ∧ ∀ i m H, W i m H →
      ((Itr lo n).stop i H ∧ Qd H) ∨ ((Itr lo n).go i H ∧ ∃ Nx : Hp → Prop, (∀ H', Nx H' → ∃ m', m' < m ∧ W (i + 1) m' H') ∧ ∀ x H', (Itr lo n).yld i H x H' → g x (wipe σ vs) H' fun σ2 H2 => wipe σ2 vs = wipe σ vs ∧ tt σ2 H2 fun b H3 =>
        if b = true then te σ2 H3 fun y H4 => ∃ acc, H4 D = some (.lst acc) ∧ acc.length < sizeLine ∧ Nx (upd H4 D (.lst (acc ++ [y]))) else Nx H3) := by
  refine lc_range (lo := lo) (n := n) (fun i H => Same H1 H ∧ ∃ acc, H D = some (.lst acc) ∧ acc.length = i ∧ ∀ (j : Nat) v, acc[j]? = some v → R j v H) ⟨Same.new (Same.refl H1) nD, [], upd_same, rfl, fun j v e => by simp at e⟩ (fun i H hi p => ?_) (fun H p => ?_)
  · obtain ⟨m, acc, hD, hlen, hR⟩ := p
    have il : i < n := hi
    refine hs i H _ _ hi m (fun v H4 m4 r => ⟨acc, m4 _ _ hD, lt_line (by omega), Same.mut (Same.trans m m4) nD, acc ++ [v], upd_same, by rw [List.length_append, hlen]; rfl, fun j u e => ?_⟩)
    have k1 : TK H4 (upd H4 D (.lst (acc ++ [v]))) := TK.mut (m4 _ _ hD)
    by_cases hj : j < acc.length
    · rw [List.getElem?_append_left hj] at e
      exact st _ _ _ _ (st _ _ _ _ (hR j u e) (Same.tk m4)) k1
    · rw [List.getElem?_append_right (by omega)] at e
      have hj2 : j = i := by
        have q := (List.getElem?_eq_some_iff.mp e).1
        rw [List.length_singleton] at q
        omega
      rw [hj2, hlen, Nat.sub_self] at e
      have e2 : v = u := Option.some.inj e
      rw [← e2, hj2]
      exact st _ _ _ _ r k1
  · obtain ⟨m, acc, hD, hlen, hR⟩ := p
    exact hd H acc m hD hlen hR
theorem lc_listR {K : PySem.W.Frag} {a : Addr} {xs : List V} {g : TG} {tt : TT} {te : TE} {vs : List Nat} {σ : St} {H1 : Hp} {D : Addr} {Qd : Hp → Prop} (R : Nat → V → Hp → Prop) (st : ∀ i v H H', R i v H → TK H H' → R i v H') (hx : H1 a = some (.lst xs)) (nD : H1 D = none) (hn : xs.length ≤ 100000)
    (hs : ∀ (i : Nat) (x : V) (H : Hp) (N : V → Hp → Prop) (M : Hp → Prop), xs[i]? = some x → Same H1 H → (∀ v H4, Same H H4 → R i v H4 → N v H4) → g x (wipe σ vs) H fun σ2 H2 => wipe σ2 vs = wipe σ vs ∧ tt σ2 H2 fun b H3 => if b = true then te σ2 H3 N else M H3)
    (hd : ∀ H acc, Same H1 H → H D = some (.lst acc) → acc.length = xs.length → (∀ (j : Nat) v, acc[j]? = some v → R j v H) → Qd H) : ∃ W : Nat → Nat → Hp → Prop, (∃ m, W 0 m (upd H1 D (.lst []))) ∧ ∀ i m H, W i m H →
      ((Itl K a).stop i H ∧ Qd H) ∨ ((Itl K a).go i H ∧ ∃ Nx : Hp → Prop, (∀ H', Nx H' → ∃ m', m' < m ∧ W (i + 1) m' H') ∧ ∀ x H', (Itl K a).yld i H x H' → g x (wipe σ vs) H' fun σ2 H2 => wipe σ2 vs = wipe σ vs ∧ tt σ2 H2 fun b H3 =>
        if b = true then te σ2 H3 fun y H4 => ∃ acc, H4 D = some (.lst acc) ∧ acc.length < sizeLine ∧ Nx (upd H4 D (.lst (acc ++ [y]))) else Nx H3) := by
  refine lc_list (K := K) (a := a) (xs := xs) (fun i H => Same H1 H ∧ ∃ acc, H D = some (.lst acc) ∧ acc.length = i ∧ ∀ (j : Nat) v, acc[j]? = some v → R j v H) ⟨Same.new (Same.refl H1) nD, [], upd_same, rfl, fun j v e => by simp at e⟩ (fun i H _ p => SqL.of (p.1 _ _ hx)) (fun i x H hi p => ?_) (fun H p => ?_)
  · obtain ⟨m, acc, hD, hlen, hR⟩ := p
    have il : i < xs.length := (List.getElem?_eq_some_iff.mp hi).1
    refine hs i x H _ _ hi m (fun v H4 m4 r => ⟨acc, m4 _ _ hD, lt_line (by omega), Same.mut (Same.trans m m4) nD, acc ++ [v], upd_same, by rw [List.length_append, hlen]; rfl, fun j u e => ?_⟩)
    have k1 : TK H4 (upd H4 D (.lst (acc ++ [v]))) := TK.mut (m4 _ _ hD)
    by_cases hj : j < acc.length
    · rw [List.getElem?_append_left hj] at e
      exact st _ _ _ _ (st _ _ _ _ (hR j u e) (Same.tk m4)) k1
    · rw [List.getElem?_append_right (by omega)] at e
      have hj2 : j = i := by
        have q := (List.getElem?_eq_some_iff.mp e).1
        rw [List.length_singleton] at q
        omega
      rw [hj2, hlen, Nat.sub_self] at e
      have e2 : v = u := Option.some.inj e
      rw [← e2, hj2]
      exact st _ _ _ _ r k1
  · obtain ⟨m, acc, hD, hlen, hR⟩ := p
    exact hd H acc m hD hlen hR
theorem lc_tupR {K : PySem.W.Frag} {a : Addr} {xs : List V} {g : TG} {tt : TT} {te : TE} {vs : List Nat} {σ : St} {H1 : Hp} {D : Addr} {Qd : Hp → Prop} (R : Nat → V → Hp → Prop) (st : ∀ i v H H', R i v H → TK H H' → R i v H') (hx : H1 a = some (.tup xs)) (nD : H1 D = none) (hn : xs.length ≤ 100000)
    (hs : ∀ (i : Nat) (x : V) (H : Hp) (N : V → Hp → Prop) (M : Hp → Prop), xs[i]? = some x → Same H1 H → (∀ v H4, Same H H4 → R i v H4 → N v H4) → g x (wipe σ vs) H fun σ2 H2 => wipe σ2 vs = wipe σ vs ∧ tt σ2 H2 fun b H3 => if b = true then te σ2 H3 N else M H3)
    (hd : ∀ H acc, Same H1 H → H D = some (.lst acc) → acc.length = xs.length → (∀ (j : Nat) v, acc[j]? = some v → R j v H) → Qd H) : ∃ W : Nat → Nat → Hp → Prop, (∃ m, W 0 m (upd H1 D (.lst []))) ∧ ∀ i m H, W i m H →
      ((Itt K a).stop i H ∧ Qd H) ∨ ((Itt K a).go i H ∧ ∃ Nx : Hp → Prop, (∀ H', Nx H' → ∃ m', m' < m ∧ W (i + 1) m' H') ∧ ∀ x H', (Itt K a).yld i H x H' → g x (wipe σ vs) H' fun σ2 H2 => wipe σ2 vs = wipe σ vs ∧ tt σ2 H2 fun b H3 =>
        if b = true then te σ2 H3 fun y H4 => ∃ acc, H4 D = some (.lst acc) ∧ acc.length < sizeLine ∧ Nx (upd H4 D (.lst (acc ++ [y]))) else Nx H3) := by
  refine lc_tup (K := K) (a := a) (xs := xs) (fun i H => Same H1 H ∧ ∃ acc, H D = some (.lst acc) ∧ acc.length = i ∧ ∀ (j : Nat) v, acc[j]? = some v → R j v H) ⟨Same.new (Same.refl H1) nD, [], upd_same, rfl, fun j v e => by simp at e⟩ (fun i H _ p => SqT.of (p.1 _ _ hx)) (fun i x H hi p => ?_) (fun H p => ?_)
  · obtain ⟨m, acc, hD, hlen, hR⟩ := p
    have il : i < xs.length := (List.getElem?_eq_some_iff.mp hi).1
    refine hs i x H _ _ hi m (fun v H4 m4 r => ⟨acc, m4 _ _ hD, lt_line (by omega), Same.mut (Same.trans m m4) nD, acc ++ [v], upd_same, by rw [List.length_append, hlen]; rfl, fun j u e => ?_⟩)
    have k1 : TK H4 (upd H4 D (.lst (acc ++ [v]))) := TK.mut (m4 _ _ hD)
    by_cases hj : j < acc.length
    · rw [List.getElem?_append_left hj] at e
      exact st _ _ _ _ (st _ _ _ _ (hR j u e) (Same.tk m4)) k1
    · rw [List.getElem?_append_right (by omega)] at e
      have hj2 : j = i := by
        have q := (List.getElem?_eq_some_iff.mp e).1
        rw [List.length_singleton] at q
        omega
      rw [hj2, hlen, Nat.sub_self] at e
      have e2 : v = u := Option.some.inj e
      rw [← e2, hj2]
      exact st _ _ _ _ r k1
  · obtain ⟨m, acc, hD, hlen, hR⟩ := p
    exact hd H acc m hD hlen hR
/-! comprehensions within comprehensions -/
theorem blk_in {X : Cx} {s : Shared} {H : Hp} {sc0 sc1 scope : Scope} {cl : List (Str × Addr)} {C : Addr} {env : Env} {fp : List Addr} {N : List Str} {own : List (Str × Nat)} (hN : X.N = N) (hs : env.scope = sc1) (h : blkC N (relS sc0 sc1) scope own = true) :
    BlkOk (X.blk s H sc0 (compEnvC sc0 cl C env) fp).N (X.blk s H sc0 (compEnvC sc0 cl C env) fp).env.scope scope own := by
  subst hN hs
  exact blkOk_by h
theorem pi_tupK {X : Cx} {K : PySem.W.Frag} {tg l : Expr} {tl : TE} (hK : X.K = K) (h : PE X l tl) : PI X tg l (iTup K tl) := by
  subst hK
  exact pi_tup h
theorem pi_listK {X : Cx} {K : PySem.W.Frag} {tg l : Expr} {tl : TE} (hK : X.K = K) (h : PE X l tl) : PI X tg l (iList K tl) := by
  subst hK
  exact pi_list h
theorem pe_fldK {X : Cx} {K : PySem.W.Frag} {e : Expr} {f : Str} {pos : Pos} {ta : TE} (hK : X.K = K) (h : PE X e ta) (hb : attributeBase e f X.env (eval e X.env) = eval e X.env) : PE X (.Attribute e f pos) (tFld K ta f) := by
  subst hK
  exact pe_fld h hb
theorem pg_tupK {X : Cx} {K : PySem.W.Frag} {es : List Expr} {k : Nat} {pos : Pos} {t : TGs} (n : Nat) (hc : X.calm = true) (hK : X.K = K) (h : PGs X es t)
    (hn : (assignEach es X.env).length = n := by rfl) (hst : (assignEach es X.env).findIdx? (·.1) = none := by rfl) : PG X (.Tuple es k pos) (gTup K n t) := by
  subst hK
  exact pg_tup hc h hn hst
/-! ### words -/
theorem tYes_go {σ : L2.St} {H : Hp} {Q : Bool → Hp → Prop} (h : Q true H) : tYes σ H Q := h
local macro_rules | `(tactic| tm_at "fld") => `(tactic| fail "fld")
local macro_rules | `(tactic| tm_at "hp") => `(tactic| first
  | assumption
  | (with_reducible exact upd_same)
  | exact Same.at (by assumption) (by tm_at "hp")
  | exact Mv.atT (by assumption) (by tm_at "hp")
  | exact Mv.at' (by assumption) (by tm_at "hp") (by tm_at "ne")
  | ((rw [upd_ne ?n]) <;> first | (tm_at "hp") | (tm_at "ne") | fail "upd")
  | fail "hp")
local macro_rules | `(tactic| tm_at "ne") => `(tactic| first
  | assumption
  | exact Ne.symm (by assumption)
  | exact Nw.ne (by assumption) (by tm_at "hp")
  | exact Ne.symm (Nw.ne (by assumption) (by tm_at "hp"))
  | fail "ne")
local macro_rules | `(tactic| tm_at "sq") => `(tactic| first
  | assumption
  | exact SqL.of (by tm_at "hp")
  | exact Same.seq (by assumption) (by tm_at "sq")
  | fail "sq")
local macro_rules | `(tactic| tm_at "sqt") => `(tactic| first
  | assumption
  | exact SqT.of (by tm_at "hp")
  | fail "sqt")
local macro_rules | `(tactic| tm_at "len") => `(tactic| first
  | omega
  | ((simp only [List.length_map, List.length_append, List.length_singleton, List.length_cons, List.length_nil, List.length_replicate, List.length_range]); omega)
  | fail "len")
local macro_rules | `(tactic| tm_at "sd") => `(tactic| first
  | decide
  | omega
  | exact ⟨by decide, by decide⟩
  | exact ⟨by omega, by omega⟩
  | exact Or.inr ⟨by decide, by decide⟩
  | exact Or.inl ⟨by omega, by omega⟩
  | exact Or.inl ⟨by decide, by decide⟩
  | exact Or.inr ⟨by omega, by omega⟩
  | exact Or.inl (fmod64 (by decide) (by decide))
  | exact ⟨by decide, by decide, by decide⟩
  | fail "sd")
local macro_rules | `(tactic| tm_at "w") => `(tactic| repeat (first
  | (with_reducible refine iteDY (by omega) ?_)
  | (with_reducible refine iteDN (by omega) ?_)
  | (refine ⟨_, rfl, ?_⟩)
  | (refine ⟨_, _, rfl, rfl, ?_⟩)
  | (refine ⟨_, _, _, _, rfl, rfl, by tm_at "sq", by rfl, ?_⟩)
  | (refine ⟨_, _, _, _, rfl, rfl, by tm_at "hp", by rfl, ?_⟩)
  | (refine ⟨_, _, _, _, rfl, rfl, by tm_at "sqt", by rfl, ?_⟩)
  | (refine ⟨_, _, _, _, rfl, rfl, by tm_at "sqt", atI_nat (by assumption), ?_⟩)
  | (refine ⟨_, _, _, _, rfl, rfl, by tm_at "sq", atI_nat (by assumption), ?_⟩)
  | (refine ⟨_, _, rfl, by tm_at "sqt", rfl, _, _, rfl, _, _, rfl, rfl, ?_⟩)
  | (refine ⟨_, _, rfl, by tm_at "sqt", rfl, _, _, rfl, _, _, rfl, _, _, rfl, rfl, ?_⟩)
  | (refine ⟨_, _, _, _, _, rfl, ClsV.ty _, by assumption, by assumption, ?_⟩)
  | (refine And.intro (rfl : scal _ _ = true) ?_)
  | (with_reducible refine iteET (by rfl) ?_)
  | (with_reducible refine iteEF (by rfl) ?_)
  | (refine And.intro (IntK.int _) ?_)
  | (with_reducible refine tYes_go ?_)
  | (refine And.intro (by (with_reducible refine le_lineB ?_); rfl) ?_)
  | (refine ⟨_, _, rfl, Or.inl ⟨SqL.of (by tm_at "hp"), ?_⟩⟩)
  | (refine And.intro (Or.inl ⟨rfl, _, SqL.of (by tm_at "hp")⟩) ?_)
  | (refine ⟨_, _, _, rfl, rfl, by tm_at "hp", lt_line (by tm_at "len"), ?_⟩)
  | (refine And.intro rfl ?_)
  | (refine Or.inl ⟨_, rfl, ?_⟩)
  | (refine ⟨_, _, rfl, Or.inl (by tm_at "sq"), ?_⟩)
  | (refine ⟨_, _, rfl, Or.inr (by tm_at "sqt"), ?_⟩)
  | (refine And.intro (by tm_at "sd") ?_)
  | (tm_at "fld")
  | fail "w"))
/-! ### lists of whole numbers -/
/-- an item of a list is a whole number -/
def IsI (v : V) : Prop := ∃ i : Int, v = .int i
theorem ints_of {xs : List V} (h : ∀ v ∈ xs, IsI v) : ∃ ns : List Int, xs = ns.map V.int := by
  induction xs with
  | nil => exact ⟨[], rfl⟩
  | cons x r ih =>
    obtain ⟨ns, e⟩ := ih fun v hv => h v (List.mem_cons_of_mem _ hv)
    obtain ⟨i, ei⟩ := h x List.mem_cons_self
    exact ⟨i :: ns, by rw [ei, e]; rfl⟩
theorem ints_at {xs : List V} (h : ∀ (j : Nat) v, xs[j]? = some v → IsI v) : ∃ ns : List Int, xs = ns.map V.int := ints_of fun v hv => by
  obtain ⟨j, hj, e⟩ := List.mem_iff_getElem.mp hv
  exact h j v (by rw [List.getElem?_eq_getElem hj, e])
theorem mem_app {P : V → Prop} {xs : List V} {y : V} (h : ∀ v ∈ xs, P v) (hy : P y) : ∀ v ∈ xs ++ [y], P v := fun v hv => by
  rcases List.mem_append.mp hv with hv | hv
  · exact h v hv
  · rw [List.mem_singleton.mp hv]
    exact hy
theorem len_app {xs : List V} {y : V} {n : Nat} (h : xs.length = n) : (xs ++ [y]).length = n + 1 := by
  rw [List.length_append, h]
  rfl
/-- the item at a place of a list of whole numbers -/
theorem int_here {ns : List Int} {i : Nat} {x : V} (h : (ns.map V.int)[i]? = some x) : ∃ z, ns[i]? = some z ∧ x = .int z ∧ i < ns.length := by
  rw [List.getElem?_map] at h
  cases e : ns[i]? with
  | none => rw [e] at h; cases h
  | some z => rw [e] at h; exact ⟨z, rfl, (Option.some.inj h).symm, (List.getElem?_eq_some_iff.mp e).1⟩
theorem map_snoc (ks : List Int) (k : Int) : ks.map V.int ++ [V.int k] = (ks ++ [k]).map V.int := by rw [List.map_append]; rfl
theorem inV_int (k : Int) (ks : List Int) : inV (.int k) (ks.map V.int) = decide (k ∈ ks) := by
  unfold inV
  rw [List.any_map]
  by_cases h : k ∈ ks
  · rw [decide_eq_true h]
    exact List.any_eq_true.mpr ⟨k, h, beq_self_eq_true k⟩
  · rw [decide_eq_false h]
    refine List.any_eq_false.mpr fun y hy z => h ?_
    have e : y = k := eq_of_beq (show (y == k) = true from z)
    rw [← e]
    exact hy
theorem flat_ints (ks : List Int) : (ks.map V.int).all flatV = true := List.all_eq_true.mpr fun v hv => by
  obtain ⟨i, _, rfl⟩ := List.mem_map.mp hv
  rfl
theorem len_of_same {a b : List Int} (ha : a.Nodup) (hb : b.Nodup) (h : ∀ k, k ∈ a ↔ k ∈ b) : a.length = b.length := ((List.perm_ext_iff_of_nodup ha hb).mpr h).length_eq
theorem dp_ints {K : PySem.W.Frag} {H : Hp} : ∀ ns : List Int, DpAll K H (ns.map V.int) (ns.map PyData.int)
  | [] => .nil
  | n :: r => .cons (.int n) (dp_ints r)
theorem range_items {α : Type} (S : List α) (f : α → V) : (List.range S.length).filterMap (fun i => S[i]?.map f) = S.map f := by
  have key : ∀ n, n ≤ S.length → (List.range n).filterMap (fun i => S[i]?.map f) = (S.take n).map f := by
    intro n
    induction n with
    | zero => intro _; rfl
    | succ n ih =>
      intro h
      rw [filterMap_range_succ, ih (by omega), List.take_add_one, List.map_append]
      rw [List.getElem?_eq_getElem (show n < S.length by omega)]
      rfl
  rw [key _ (Nat.le_refl _), List.take_length]
theorem lay_ints : ∀ ns : List Int, PyData.canLayAll0 (ns.map PyData.int) = true
  | [] => rfl
  | n :: r => by
    show (PyData.canLay0 (.int n) && PyData.canLayAll0 (r.map PyData.int)) = true
    rw [lay_ints r]
    rfl
theorem deep_ints : ∀ ns : List Int, PyData.depthAll (ns.map PyData.int) ≤ 1
  | [] => by simp [PyData.depthAll]
  | n :: r => by
    have ih := deep_ints r
    simp only [List.map_cons, PyData.depthAll, PyData.depth]
    omega
theorem shaped_ints (ns : List Int) : SeqAt.shaped (.tuple (ns.map PyData.int)) = true := by
  have h := deep_ints ns
  have h2 : PyData.depth (.tuple (ns.map PyData.int)) ≤ 64 := by
    simp only [PyData.depth]
    omega
  exact Bool.and_eq_true_iff.mpr ⟨lay_ints ns, decide_eq_true h2⟩
theorem same_ints (ns : List Int) : PyData.eqv (.tuple (ns.map PyData.int)) (.tuple (ns.map PyData.int)) = true := SeqAt.eqv_refl _ (lay_ints ns)
theorem at_map {r : List Int} {i : Int} (h0 : 0 ≤ i) (h : i < (r.length : Int)) : atI (r.map V.int) i = some (.int (r.getD i.toNat 0)) := by
  have hj : i.toNat < r.length := by omega
  refine at_of (j := i.toNat) (by omega) ?_
  rw [List.getElem?_map, List.getElem?_eq_getElem hj, List.getD_eq_getElem?_getD, List.getElem?_eq_getElem hj]
  rfl
/-! ### bits of what each kind is -/
def upBits (acc : List Nat) (n : Nat) (p : List Nat) : Nat := p.foldl (fun f q => f ||| acc.getD q 0) (2 ^ n)
theorem fold_bits (acc : List Nat) (j : Nat) : ∀ (p : List Nat) (f : Nat), (p.foldl (fun f q => f ||| acc.getD q 0) f).testBit j = (f.testBit j || p.any fun q => (acc.getD q 0).testBit j)
  | [], f => by simp
  | q :: r, f => by
    have ih := fold_bits acc j r (f ||| acc.getD q 0)
    rw [List.foldl_cons, ih, Nat.testBit_or, List.any_cons, Bool.or_assoc]
theorem upBits_at (acc : List Nat) (n : Nat) (p : List Nat) (j : Nat) : (upBits acc n p).testBit j = (decide (n = j) || p.any fun q => (acc.getD q 0).testBit j) := by
  unfold upBits
  rw [fold_bits, Nat.testBit_two_pow]
/-! ### books -/
structure InsT (K : PySem.W.Frag) (C : Addr) : Prop where
  ha : PySem.W.findIn K (.ref C) "__class__" = some (some (.builtin "object.__class__"))
  hn : PySem.W.specialIn K (.builtin "object.__class__") "__get__" = some (some (.builtin "getset_descriptor.__get__"))
  htk : PySem.W.takesIn K (.builtin "object.__class__") = some true
  hm : PySem.W.mroIn K C (.type "object") = some true
theorem pb_ne : ¬ (("parents" : Str) = "bits") := by decide +kernel
theorem bp_ne : ¬ (("bits" : Str) = "parents") := by decide +kernel
def bkF (pa lb : Addr) : List (Str × V) := putF "bits" (.ref lb) (putF "parents" (.ref pa) [])
theorem bkF_eq (pa lb : Addr) : bkF pa lb = ([("parents", V.ref pa), ("bits", V.ref lb)] : List (Str × V)) := by
  show (if ("parents" : Str) = "bits" then [(("parents" : Str), V.ref lb)] else (("parents" : Str), V.ref pa) :: putF "bits" (V.ref lb) []) = ([("parents", V.ref pa), ("bits", V.ref lb)] : List (Str × V))
  rw [if_neg pb_ne]
  all_goals rfl
theorem bkF_parents (pa lb : Addr) : (bkF pa lb).lookup ("parents" : Str) = some (.ref pa) := by
  unfold bkF
  rw [lookup_putF, if_neg pb_ne, lookup_putF, if_pos rfl]
theorem bkF_bits (pa lb : Addr) : (bkF pa lb).lookup ("bits" : Str) = some (.ref lb) := by
  unfold bkF
  rw [lookup_putF, if_pos rfl]
theorem bkF_no (pa lb : Addr) {m : Str} (h1 : ¬ m = "bits") (h2 : ¬ m = "parents") : (bkF pa lb).lookup m = none := by
  unfold bkF
  rw [lookup_putF, if_neg h1, lookup_putF, if_neg h2]
  all_goals rfl
theorem bkF_putP (pa lb p : Addr) : putF "parents" (.ref p) (bkF pa lb) = bkF p lb := by
  rw [bkF_eq, bkF_eq]
  show (if ("parents" : Str) = "parents" then (("parents" : Str), V.ref p) :: [(("bits" : Str), V.ref lb)] else _) = ([("parents", V.ref p), ("bits", V.ref lb)] : List (Str × V))
  rw [if_pos rfl]
theorem bkF_putB (pa lb l : Addr) : putF "bits" (.ref l) (bkF pa lb) = bkF pa l := by
  rw [bkF_eq, bkF_eq]
  show (if ("parents" : Str) = "bits" then _ else (("parents" : Str), V.ref pa) :: (if ("bits" : Str) = "bits" then [(("bits" : Str), V.ref l)] else _)) = ([("parents", V.ref pa), ("bits", V.ref l)] : List (Str × V))
  rw [if_neg pb_ne, if_pos rfl]
/-- the fields of a book that is being made: none, or an elder filling's -/
def BkFs (fs : List (Str × V)) : Prop := fs = [] ∨ ∃ pa lb, fs = bkF pa lb
theorem BkFs.put {fs : List (Str × V)} (h : BkFs fs) (p l : Addr) : putF "bits" (.ref l) (putF "parents" (.ref p) fs) = bkF p l := by
  rcases h with rfl | ⟨a, b, rfl⟩
  · rfl
  · rw [bkF_putP, bkF_putB]
theorem BkFs.len {fs : List (Str × V)} (h : BkFs fs) : fs.length < 500 := by
  rcases h with rfl | ⟨a, b, rfl⟩
  · decide
  · rw [bkF_eq]
    show 2 < 500
    decide
theorem BkFs.len1 {fs : List (Str × V)} (h : BkFs fs) (p : Addr) : (putF "parents" (.ref p) fs).length < 1000 := by
  have q := length_putF "parents" (.ref p) fs
  have r := h.len
  omega
theorem BkFs.fill {fs : List (Str × V)} (h : BkFs fs) : fs.lookup ("fill" : Str) = none := by
  rcases h with rfl | ⟨a, b, rfl⟩
  · rfl
  · exact bkF_no _ _ (by decide +kernel) (by decide +kernel)
def natsV (p : List Nat) : List V := p.map fun q : Nat => V.int (q : Int)
/-- parents: a tuple of tuples of numbers -/
def ParL (H : Hp) (vs : List V) (P : List (List Nat)) : Prop := vs.length = P.length ∧ ∀ (j : Nat) p, P[j]? = some p → ∃ a, vs[j]? = some (.ref a) ∧ H a = some (.tup (natsV p))
def ParAt (H : Hp) (pa : Addr) (P : List (List Nat)) : Prop := ∃ vs, H pa = some (.tup vs) ∧ ParL H vs P
theorem ParL.tk {H H' : Hp} {vs : List V} {P : List (List Nat)} (h : ParL H vs P) (k : TK H H') : ParL H' vs P := ⟨h.1, fun j p e => by
  obtain ⟨a, e1, e2⟩ := h.2 j p e
  exact ⟨a, e1, k _ _ e2⟩⟩
theorem ParAt.tk {H H' : Hp} {pa : Addr} {P : List (List Nat)} (h : ParAt H pa P) (k : TK H H') : ParAt H' pa P := by
  obtain ⟨vs, e, l⟩ := h
  exact ⟨vs, k _ _ e, l.tk k⟩
/-- each parent stands ahead -/
def RtP (P : List (List Nat)) : Prop := ∀ (j : Nat) p, P[j]? = some p → ∀ q ∈ p, q < j
/-- the bits of all kinds -/
def bitsOf (P : List (List Nat)) : List Nat := P.foldl (fun acc p => acc ++ [upBits acc acc.length p]) []
def isA (P : List (List Nat)) (x p : Nat) : Bool := ((bitsOf P).getD x 0).testBit p
theorem bitsOf_snoc (P : List (List Nat)) (p : List Nat) : bitsOf (P ++ [p]) = bitsOf P ++ [upBits (bitsOf P) (bitsOf P).length p] := by
  unfold bitsOf
  rw [List.foldl_append]
  rfl
theorem bitsOf_len (P : List (List Nat)) : (bitsOf P).length = P.length := by
  have key : ∀ (r : List (List Nat)) (acc : List Nat), (r.foldl (fun acc p => acc ++ [upBits acc acc.length p]) acc).length = acc.length + r.length := by
    intro r
    induction r with
    | nil => intro acc; simp
    | cons x r ih =>
      intro acc
      rw [List.foldl_cons, ih, List.length_append]
      simp only [List.length_cons, List.length_nil]
      omega
  rw [show bitsOf P = P.foldl (fun acc p => acc ++ [upBits acc acc.length p]) [] from rfl, key]
  simp
/-- a book: its address, its dict, its parents' tuple, its bits' list -/
structure Bk where
  b : Addr
  dx : Addr
  pa : Addr
  lb : Addr
structure BookAt (C : Addr) (H : Hp) (k : Bk) (P : List (List Nat)) : Prop where
  ins : H k.b = some (.ins C k.dx (bkF k.pa k.lb))
  par : ParAt H k.pa P
  bits : H k.lb = some (.lst (natsV (bitsOf P)))
theorem BookAt.same {C : Addr} {H H' : Hp} {k : Bk} {P : List (List Nat)} (h : BookAt C H k P) (s : Same H H') : BookAt C H' k P := ⟨s _ _ h.ins, h.par.tk (Same.tk s), s _ _ h.bits⟩
/-- all but b is kept -/
def But (b : Addr) (H H' : Hp) : Prop := ∀ a o, a ≠ b → H a = some o → H' a = some o
/-- the parents of a kind with a number are right -/
structure OkL (q : List Nat) (m : Nat) : Prop where
  asc : q.Pairwise (· < ·)
  lt : ∀ x ∈ q, x < m
  few : q.length ≤ 6
structure OkP (P : List (List Nat)) : Prop where
  ok : ∀ (j : Nat) q, P[j]? = some q → OkL q j
  few : P.length ≤ 400
theorem OkP.rt {P : List (List Nat)} (h : OkP P) : RtP P := fun j p e q hq => (h.ok j p e).lt q hq
theorem OkP.nil : OkP [] := ⟨fun j q e => by simp at e, by decide⟩
theorem OkP.take {P : List (List Nat)} (h : OkP P) (m : Nat) : OkP (P.take m) := by
  refine ⟨fun j q e => ?_, ?_⟩
  · rw [List.getElem?_take] at e
    split at e
    · exact h.ok j q e
    · cases e
  · have := h.few
    rw [List.length_take]
    omega
theorem natsV_len (q : List Nat) : (natsV q).length = q.length := by unfold natsV; rw [List.length_map]
theorem natsV_int {K : PySem.W.Frag} {H : Hp} (q : List Nat) : ∀ x ∈ natsV q, IntK K H x := fun x hx => by
  unfold natsV at hx
  obtain ⟨n, _, rfl⟩ := List.mem_map.mp hx
  exact IntK.int _
theorem natsV_at {q : List Nat} {i : Nat} {n : Nat} (h : q[i]? = some n) : (natsV q)[i]? = some (.int (n : Int)) := by
  unfold natsV
  rw [List.getElem?_map, h]
  rfl
theorem natsV_here {q : List Nat} {i : Nat} {x : V} (h : (natsV q)[i]? = some x) : ∃ n : Nat, q[i]? = some n ∧ x = .int (n : Int) ∧ i < q.length := by
  unfold natsV at h
  rw [List.getElem?_map] at h
  cases e : q[i]? with
  | none => rw [e] at h; cases h
  | some z => rw [e] at h; exact ⟨z, rfl, (Option.some.inj h).symm, (List.getElem?_eq_some_iff.mp e).1⟩
theorem natsV_snoc (q : List Nat) (n : Nat) : natsV q ++ [V.int (n : Int)] = natsV (q ++ [n]) := by unfold natsV; rw [List.map_append]; rfl
theorem ParL.here {H : Hp} {vs : List V} {P : List (List Nat)} (h : ParL H vs P) {j : Nat} {x : V} (e : vs[j]? = some x) : ∃ a p, x = .ref a ∧ P[j]? = some p ∧ H a = some (.tup (natsV p)) := by
  have hj := (List.getElem?_eq_some_iff.mp e).1
  rw [h.1] at hj
  obtain ⟨a, e1, e2⟩ := h.2 j _ (List.getElem?_eq_getElem hj)
  rw [e] at e1
  exact ⟨a, _, Option.some.inj e1, List.getElem?_eq_getElem hj, e2⟩
theorem ParL.nil {H : Hp} : ParL H [] [] := ⟨rfl, fun j p e => by simp at e⟩
theorem ParL.snoc {H : Hp} {vs : List V} {P : List (List Nat)} (h : ParL H vs P) {a : Addr} {p : List Nat} (e : H a = some (.tup (natsV p))) : ParL H (vs ++ [.ref a]) (P ++ [p]) := by
  refine ⟨by rw [List.length_append, List.length_append, h.1]; rfl, fun j q hq => ?_⟩
  by_cases hj : j < P.length
  · rw [List.getElem?_append_left hj] at hq
    rw [List.getElem?_append_left (by rw [h.1]; exact hj)]
    exact h.2 j q hq
  · rw [List.getElem?_append_right (by omega)] at hq
    have l := (List.getElem?_eq_some_iff.mp hq).1
    rw [List.length_singleton] at l
    have ej : j - P.length = 0 := by omega
    rw [ej] at hq
    have er : p = q := Option.some.inj hq
    rw [List.getElem?_append_right (by rw [h.1]; omega), h.1, ej, ← er]
    exact ⟨a, rfl, e⟩
theorem ParL.take {H : Hp} {vs : List V} {P : List (List Nat)} (h : ParL H vs P) (m : Nat) : ParL H (vs.take m) (P.take m) := by
  refine ⟨by rw [List.length_take, List.length_take, h.1], fun j q hq => ?_⟩
  rw [List.getElem?_take] at hq
  split at hq
  · rename_i hm
    rw [List.getElem?_take_of_lt hm]
    exact h.2 j q hq
  · cases hq
theorem But.same {b : Addr} {H H1 H2 : Hp} (s : Same H H1) (k : But b H1 H2) : But b H H2 := fun a o n e => k a o n (s a o e)
theorem But.new {b : Addr} {H H1 H2 : Hp} (s : Same H H1) (n : H b = none) (k : But b H1 H2) : Same H H2 := fun a o e => k a o (ne_of_none e n) (s a o e)
/-- a book that was made between H and H' -/
structure Made (C : Addr) (H H' : Hp) (k : Bk) (P : List (List Nat)) : Prop where
  same : Same H H'
  here : BookAt C H' k P
  nb : Nw H k.b
  nl : Nw H k.lb
theorem Made.later {C : Addr} {H H1 H2 : Hp} {k : Bk} {P : List (List Nat)} (m : Made C H H1 k P) (s : Same H1 H2) : Made C H H2 k P := ⟨m.same.trans s, m.here.same s, m.nb, m.nl⟩
theorem Made.early {C : Addr} {H H1 H2 : Hp} {k : Bk} {P : List (List Nat)} (s : Same H H1) (m : Made C H1 H2 k P) : Made C H H2 k P := ⟨s.trans m.same, m.here, ⟨s.free m.nb.e⟩, ⟨s.free m.nl.e⟩⟩
theorem BookAt.mv {C : Addr} {H H' : Hp} {k : Bk} {P : List (List Nat)} {τ : Tp} (h : BookAt C H k P) (m : Mv τ H H') (n : k.lb ≠ τ.t) : BookAt C H' k P :=
  ⟨m.keep _ _ (fun e => by obtain ⟨_, _, _, _, z, _⟩ := m.was.here; rw [← e, h.ins] at z; cases z) h.ins, h.par.tk m.tk, m.keep _ _ n h.bits⟩
/-! ### who is what: the plain law -/
theorem bitsOf_take : ∀ (P : List (List Nat)) (m : Nat), bitsOf (P.take m) = (bitsOf P).take m := by
  have key : ∀ (n : Nat) (P : List (List Nat)), P.length = n → ∀ m, bitsOf (P.take m) = (bitsOf P).take m := by
    intro n
    induction n with
    | zero =>
      intro P h m
      have e : P = [] := List.length_eq_zero_iff.mp h
      subst e
      simp [bitsOf]
    | succ n ih =>
      intro P h m
      have hne : P ≠ [] := by intro e; rw [e] at h; cases h
      have e : P = P.dropLast ++ [P.getLast hne] := (List.dropLast_concat_getLast hne).symm
      have hl : P.dropLast.length = n := by rw [List.length_dropLast, h]; rfl
      by_cases hm : m ≤ n
      · rw [e, List.take_append_of_le_length (by omega), ih _ hl, bitsOf_snoc, List.take_append_of_le_length (by rw [bitsOf_len]; omega)]
      · rw [List.take_of_length_le (by omega), List.take_of_length_le (by rw [bitsOf_len]; omega)]
  exact fun P => key P.length P rfl
theorem bitsOf_at (P : List (List Nat)) (j : Nat) (p : List Nat) (h : P[j]? = some p) : (bitsOf P)[j]? = some (upBits ((bitsOf P).take j) j p) := by
  have hj := (List.getElem?_eq_some_iff.mp h).1
  have e : P.take (j + 1) = P.take j ++ [p] := by rw [List.take_add_one, h]; rfl
  have e2 : (bitsOf P).take (j + 1) = (bitsOf P).take j ++ [upBits ((bitsOf P).take j) j p] := by
    have hl : ((bitsOf P).take j).length = j := by rw [List.length_take, bitsOf_len]; omega
    rw [← bitsOf_take, e, bitsOf_snoc, bitsOf_take, hl]
  have e3 : ((bitsOf P).take (j + 1))[j]? = (bitsOf P)[j]? := List.getElem?_take_of_lt (Nat.lt_succ_self j)
  have hl : ((bitsOf P).take j).length = j := by rw [List.length_take, bitsOf_len]; omega
  rw [← e3, e2, List.getElem?_append_right (by omega), hl, Nat.sub_self]
  rfl
theorem upBits_take {acc : List Nat} {j : Nat} {p : List Nat} (h : ∀ q ∈ p, q < j) : upBits (acc.take j) j p = upBits acc j p := by
  unfold upBits
  have key : ∀ (p : List Nat) (f : Nat), (∀ q ∈ p, q < j) → p.foldl (fun f q => f ||| (acc.take j).getD q 0) f = p.foldl (fun f q => f ||| acc.getD q 0) f := by
    intro p
    induction p with
    | nil => intro f _; rfl
    | cons q r ih =>
      intro f hq
      have e : (acc.take j).getD q 0 = acc.getD q 0 := by
        rw [List.getD_eq_getElem?_getD, List.getD_eq_getElem?_getD, List.getElem?_take_of_lt (hq q List.mem_cons_self)]
      rw [List.foldl_cons, List.foldl_cons, e, ih _ fun z hz => hq z (List.mem_cons_of_mem _ hz)]
  exact key p _ h
theorem isA_rec {P : List (List Nat)} (hR : RtP P) {x : Nat} {p : List Nat} (h : P[x]? = some p) (j : Nat) : isA P x j = (decide (x = j) || p.any fun q => isA P q j) := by
  have e : (bitsOf P).getD x 0 = upBits (bitsOf P) x p := by
    rw [List.getD_eq_getElem?_getD, bitsOf_at P x p h, upBits_take (hR x p h)]
    rfl
  unfold isA
  rw [e, upBits_at]
theorem isA_out {P : List (List Nat)} {x : Nat} (h : P.length ≤ x) (j : Nat) : isA P x j = false := by
  unfold isA
  rw [List.getD_eq_getElem?_getD, List.getElem?_eq_none (by rw [bitsOf_len]; exact h)]
  exact Nat.zero_testBit j
theorem isA_lt {P : List (List Nat)} {x j : Nat} (h : isA P x j = true) : x < P.length := by
  by_cases hx : x < P.length
  · exact hx
  · rw [isA_out (by omega)] at h
    cases h
theorem isA_le {P : List (List Nat)} (hR : RtP P) : ∀ {x j : Nat}, isA P x j = true → j ≤ x := by
  intro x
  induction x using Nat.strongRecOn with
  | ind x ih =>
    intro j h
    have hx := isA_lt h
    rw [isA_rec hR (List.getElem?_eq_getElem hx), Bool.or_eq_true, decide_eq_true_eq, List.any_eq_true] at h
    rcases h with h | ⟨q, hq, h⟩
    · omega
    · have l := hR x _ (List.getElem?_eq_getElem hx) q hq
      have := ih q l h
      omega
theorem isA_refl {P : List (List Nat)} (hR : RtP P) {x : Nat} (hx : x < P.length) : isA P x x = true := by
  rw [isA_rec hR (List.getElem?_eq_getElem hx), decide_eq_true rfl]
  rfl
theorem isA_trans {P : List (List Nat)} (hR : RtP P) : ∀ {x y z : Nat}, isA P x y = true → isA P y z = true → isA P x z = true := by
  intro x
  induction x using Nat.strongRecOn with
  | ind x ih =>
    intro y z h h2
    have hx := isA_lt h
    rw [isA_rec hR (List.getElem?_eq_getElem hx), Bool.or_eq_true, decide_eq_true_eq, List.any_eq_true] at h
    rcases h with h | ⟨q, hq, h⟩
    · rw [h]
      exact h2
    · have l := hR x _ (List.getElem?_eq_getElem hx) q hq
      rw [isA_rec hR (List.getElem?_eq_getElem hx), Bool.or_eq_true, List.any_eq_true]
      exact .inr ⟨q, hq, ih q l h h2⟩
theorem isA_take {P : List (List Nat)} {m x : Nat} (h : x < m) (j : Nat) : isA (P.take m) x j = isA P x j := by
  unfold isA
  rw [bitsOf_take, List.getD_eq_getElem?_getD, List.getD_eq_getElem?_getD, List.getElem?_take_of_lt h]
theorem RtP.take {P : List (List Nat)} (h : RtP P) (m : Nat) : RtP (P.take m) := fun j p e q hq => by
  rw [List.getElem?_take] at e
  split at e
  · exact h j p e q hq
  · cases e
theorem RtP.snoc {P : List (List Nat)} (h : RtP P) {p : List Nat} (hp : ∀ q ∈ p, q < P.length) : RtP (P ++ [p]) := fun j r e q hq => by
  by_cases hj : j < P.length
  · rw [List.getElem?_append_left hj] at e
    exact h j r e q hq
  · rw [List.getElem?_append_right (by omega)] at e
    have l := (List.getElem?_eq_some_iff.mp e).1
    rw [List.length_singleton] at l
    have ej : j - P.length = 0 := by omega
    rw [ej] at e
    have er : p = r := Option.some.inj e
    rw [← er] at hq
    have := hp q hq
    omega
/-- forebears, heirs; the lowest of a lot; plain parents -/
def foreB (P : List (List Nat)) (x : Nat) : List Nat := (List.range x).filter fun p => isA P x p
def heirB (P : List (List Nat)) (p : Nat) : List Nat := (List.range P.length).filter fun x => decide (p < x) && isA P x p
def lowB (P : List (List Nat)) (L : List Nat) : List Nat := L.filter fun p => !(L.any fun x => !decide (x = p) && isA P x p)
def plainB (P : List (List Nat)) : List (List Nat) := (List.range P.length).map fun x => lowB P (foreB P x)
theorem plainB_len (P : List (List Nat)) : (plainB P).length = P.length := by
  unfold plainB
  rw [List.length_map, List.length_range]
theorem plainB_at {P : List (List Nat)} {x : Nat} (h : x < P.length) : (plainB P)[x]? = some (lowB P (foreB P x)) := by
  unfold plainB
  rw [List.getElem?_map, List.getElem?_range h]
  rfl
theorem mem_foreB {P : List (List Nat)} {x p : Nat} : p ∈ foreB P x ↔ p < x ∧ isA P x p = true := by
  unfold foreB
  rw [List.mem_filter, List.mem_range]
theorem plainB_rt (P : List (List Nat)) : RtP (plainB P) := fun j p e q hq => by
  have hj := (List.getElem?_eq_some_iff.mp e).1
  rw [plainB_len] at hj
  rw [plainB_at hj] at e
  rw [← Option.some.inj e] at hq
  exact (mem_foreB.mp (List.mem_filter.mp hq).1).1
theorem low_above {P : List (List Nat)} (hR : RtP P) {x p : Nat} (hp : p < x) (h : isA P x p = true) : ∃ q ∈ lowB P (foreB P x), isA P q p = true := by
  have key : ∀ n q, x - q = n → q < x → isA P x q = true → isA P q p = true → ∃ q ∈ lowB P (foreB P x), isA P q p = true := by
    intro n
    induction n using Nat.strongRecOn with
    | ind n ih =>
      intro q hn hq hxq hqp
      by_cases hl : q ∈ lowB P (foreB P x)
      · exact ⟨q, hl, hqp⟩
      · have hf : q ∈ foreB P x := mem_foreB.mpr ⟨hq, hxq⟩
        have ha : ((foreB P x).any fun y => !decide (y = q) && isA P y q) = true := by
          cases e : ((foreB P x).any fun y => !decide (y = q) && isA P y q) with
          | true => rfl
          | false => exact absurd (List.mem_filter.mpr ⟨hf, by simp [e]⟩) hl
        obtain ⟨y, hy, hz⟩ := List.any_eq_true.mp ha
        rw [Bool.and_eq_true, Bool.not_eq_true', decide_eq_false_iff_not] at hz
        have l := isA_le hR hz.2
        obtain ⟨y1, y2⟩ := mem_foreB.mp hy
        exact ih (x - y) (by omega) y rfl y1 y2 (isA_trans hR hz.2 hqp)
  exact key _ p rfl hp h (isA_refl hR (by have := isA_lt h; omega))
theorem isA_plain {P : List (List Nat)} (hR : RtP P) : ∀ (x j : Nat), isA (plainB P) x j = isA P x j := by
  intro x
  induction x using Nat.strongRecOn with
  | ind x ih =>
    intro j
    by_cases hx : x < P.length
    · have l : ∀ q ∈ lowB P (foreB P x), q < x ∧ isA P x q = true := fun q hq => mem_foreB.mp (List.mem_filter.mp hq).1
      rw [isA_rec (plainB_rt P) (plainB_at hx)]
      rw [Bool.eq_iff_iff, Bool.or_eq_true, decide_eq_true_eq, List.any_eq_true]
      constructor
      · rintro (h | ⟨q, hq, h⟩)
        · rw [← h]
          exact isA_refl hR hx
        · rw [ih q (l q hq).1] at h
          exact isA_trans hR (l q hq).2 h
      · intro h
        by_cases e : x = j
        · exact .inl e
        · have := isA_le hR h
          obtain ⟨q, hq, hz⟩ := low_above hR (by omega) h
          exact .inr ⟨q, hq, by rw [ih q (l q hq).1]; exact hz⟩
    · rw [isA_out (P := P) (by omega), isA_out (P := plainB P) (by rw [plainB_len]; omega)]
theorem foreB_plain {P : List (List Nat)} (hR : RtP P) (x : Nat) : foreB (plainB P) x = foreB P x := by
  unfold foreB
  congr 1
  funext j
  rw [isA_plain hR]
theorem lowB_plain {P : List (List Nat)} (hR : RtP P) (L : List Nat) : lowB (plainB P) L = lowB P L := by
  unfold lowB
  congr 1
  funext p
  congr 2
  funext x
  rw [isA_plain hR]
theorem plainB_plainB {P : List (List Nat)} (hR : RtP P) : plainB (plainB P) = plainB P := by
  show (List.range (plainB P).length).map (fun x => lowB (plainB P) (foreB (plainB P) x)) = (List.range P.length).map fun x => lowB P (foreB P x)
  rw [plainB_len]
  congr 1
  funext x
  rw [foreB_plain hR, lowB_plain hR]
/-- 300 in a row, 300 beside one another -/
def chainP (n : Nat) : List (List Nat) := [] :: (List.range n).map fun k => [k]
def wideP (n : Nat) : List (List Nat) := List.replicate n []
theorem chainP_len (n : Nat) : (chainP n).length = n + 1 := by simp [chainP]
theorem chainP_at {n j : Nat} (h : j < n) : (chainP n)[j + 1]? = some [j] := by
  unfold chainP
  rw [List.getElem?_cons_succ, List.getElem?_map, List.getElem?_range h]
  rfl
theorem chainP_rt (n : Nat) : RtP (chainP n) := fun j p e q hq => by
  cases j with
  | zero => rw [show (chainP n)[0]? = some [] from rfl] at e; rw [← Option.some.inj e] at hq; cases hq
  | succ j =>
    have hj := (List.getElem?_eq_some_iff.mp e).1
    rw [chainP_len] at hj
    rw [chainP_at (by omega)] at e
    rw [← Option.some.inj e, List.mem_singleton] at hq
    omega
theorem isA_chain {n : Nat} : ∀ {x : Nat}, x ≤ n → ∀ j, isA (chainP n) x j = decide (j ≤ x)
  | 0, _, j => by
    rw [isA_rec (chainP_rt n) (show (chainP n)[0]? = some [] from rfl)]
    simp only [List.any_nil, Bool.or_false]
    exact decide_eq_decide.mpr (by omega)
  | x + 1, h, j => by
    rw [isA_rec (chainP_rt n) (chainP_at (by omega)), List.any_cons, List.any_nil, Bool.or_false, isA_chain (by omega) j, ← Bool.decide_or]
    exact decide_eq_decide.mpr (by omega)
theorem wideP_rt (n : Nat) : RtP (wideP n) := fun j p e q hq => by
  have := List.mem_of_getElem? e
  rw [List.eq_of_mem_replicate this] at hq
  cases hq
theorem isA_wide {n x : Nat} (h : x < n) (j : Nat) : isA (wideP n) x j = decide (x = j) := by
  rw [isA_rec (wideP_rt n) (p := []) (by unfold wideP; rw [List.getElem?_replicate, if_pos h])]
  simp
/-- the items of a list are tuples of numbers -/
def RN (f : Nat → List Nat) (i : Nat) (v : V) (H : Hp) : Prop := ∃ a, v = .ref a ∧ H a = some (.tup (natsV (f i)))
theorem RN.tk (f : Nat → List Nat) (i : Nat) (v : V) (H H' : Hp) (h : RN f i v H) (k : TK H H') : RN f i v H' := by
  obtain ⟨a, e, x⟩ := h
  exact ⟨a, e, k _ _ x⟩
theorem parL_of {H : Hp} {acc : List V} {n : Nat} {f : Nat → List Nat} (hl : acc.length = n) (h : ∀ (j : Nat) v, acc[j]? = some v → RN f j v H) : ParL H acc ((List.range n).map f) := by
  refine ⟨by rw [hl, List.length_map, List.length_range], fun j p e => ?_⟩
  have hj := (List.getElem?_eq_some_iff.mp e).1
  rw [List.length_map, List.length_range] at hj
  rw [List.getElem?_map, List.getElem?_range hj] at e
  have ep : f j = p := Option.some.inj e
  obtain ⟨a, e1, e2⟩ := h j _ (List.getElem?_eq_getElem (by omega))
  rw [ep] at e2
  exact ⟨a, by rw [List.getElem?_eq_getElem (by omega), e1], e2⟩
/-- the parents of the kind i -/
def RowR (i : Nat) (v : V) (H : Hp) : Prop := ∃ a q, v = .ref a ∧ H a = some (.tup (natsV q)) ∧ OkL q i
theorem RowR.tk {i : Nat} {v : V} {H H' : Hp} (h : RowR i v H) (k : TK H H') : RowR i v H' := by
  obtain ⟨a, q, e, x, o⟩ := h
  exact ⟨a, q, e, k _ _ x, o⟩
theorem rows_of {H : Hp} {acc : List V} {n : Nat} (hn : n ≤ 400) (hl : acc.length = n) (h : ∀ (j : Nat) v, acc[j]? = some v → RowR j v H) : ∃ P, ParL H acc P ∧ OkP P ∧ P.length = n := by
  obtain ⟨f, hf⟩ := Classical.axiomOfChoice (r := fun (j : Nat) (q : List Nat) => j < n → ∃ a, acc[j]? = some (.ref a) ∧ H a = some (.tup (natsV q)) ∧ OkL q j) (fun j => by
    by_cases hj : j < n
    · obtain ⟨a, q, e, x, o⟩ := h j _ (List.getElem?_eq_getElem (by omega))
      exact ⟨q, fun _ => ⟨a, by rw [List.getElem?_eq_getElem (by omega), e], x, o⟩⟩
    · exact ⟨[], fun z => absurd z hj⟩)
  refine ⟨(List.range n).map f, parL_of hl fun j v e => ?_, ⟨fun j q e => ?_, ?_⟩, ?_⟩
  · have hj := (List.getElem?_eq_some_iff.mp e).1
    obtain ⟨a, e1, e2, _⟩ := hf j (by omega)
    rw [e] at e1
    exact ⟨a, Option.some.inj e1, e2⟩
  · have hj := (List.getElem?_eq_some_iff.mp e).1
    rw [List.length_map, List.length_range] at hj
    rw [List.getElem?_map, List.getElem?_range hj] at e
    obtain ⟨_, _, _, o⟩ := hf j hj
    rw [← Option.some.inj e]
    exact o
  · rw [List.length_map, List.length_range]
    exact hn
  · rw [List.length_map, List.length_range]
theorem nats_of {n : Nat} : ∀ {ns : List Int}, ns.Pairwise (· < ·) → (∀ x ∈ ns, ∃ z : Nat, z < n ∧ x = (z : Int)) → ∃ ks : List Nat, ns = ks.map (fun z : Nat => (z : Int)) ∧ (∀ k ∈ ks, k < n) ∧ ks.Pairwise (· < ·)
  | [], _, _ => ⟨[], rfl, (fun k hk => by cases hk), List.Pairwise.nil⟩
  | x :: r, hp, h => by
    obtain ⟨h1, h2⟩ := List.pairwise_cons.mp hp
    obtain ⟨ks, e, hk, hkp⟩ := nats_of h2 fun y hy => h y (List.mem_cons_of_mem _ hy)
    obtain ⟨z, hz, ez⟩ := h x List.mem_cons_self
    refine ⟨z :: ks, by rw [e, ez]; rfl, fun k hk2 => ?_, List.pairwise_cons.mpr ⟨fun k hk2 => ?_, hkp⟩⟩
    · rcases List.mem_cons.mp hk2 with e2 | e2
      · rw [e2]; exact hz
      · exact hk k e2
    · have := h1 (k : Int) (by rw [e]; exact List.mem_map.mpr ⟨k, hk2, rfl⟩)
      omega
theorem nodup_le : ∀ (m : Nat) {ks : List Nat}, ks.Nodup → (∀ k ∈ ks, k < m) → ks.length ≤ m
  | 0, [], _, _ => Nat.le_refl _
  | 0, k :: r, _, h => absurd (h k List.mem_cons_self) (Nat.not_lt_zero _)
  | m + 1, ks, hn, h => by
    by_cases z : m ∈ ks
    · have l := List.length_erase_of_mem z
      have ih := nodup_le m (hn.erase m) fun k hk => by
        have q := (List.Nodup.mem_erase_iff hn).mp hk
        have := h k q.2
        omega
      have := List.length_pos_of_mem z
      omega
    · have ih := nodup_le m hn fun k hk => by
        have := h k hk
        have : k ≠ m := fun e => z (e ▸ hk)
        omega
      omega
/-! ### clauses -/
def optV : Option Int → V
  | none => .non
  | some i => .int i
def ClsL (H : Hp) (vs : List V) (Cs : List (Nat × Int)) : Prop := vs.length = Cs.length ∧ ∀ (j : Nat) c, Cs[j]? = some c → ∃ a, vs[j]? = some (.ref a) ∧ H a = some (.tup [.int (c.1 : Int), .int c.2])
def ClsAt (H : Hp) (a : Addr) (Cs : List (Nat × Int)) : Prop := ∃ vs, H a = some (.tup vs) ∧ ClsL H vs Cs
theorem ClsL.tk {H H' : Hp} {vs : List V} {Cs : List (Nat × Int)} (h : ClsL H vs Cs) (k : TK H H') : ClsL H' vs Cs := ⟨h.1, fun j p e => by
  obtain ⟨a, e1, e2⟩ := h.2 j p e
  exact ⟨a, e1, k _ _ e2⟩⟩
theorem ClsAt.tk {H H' : Hp} {a : Addr} {Cs : List (Nat × Int)} (h : ClsAt H a Cs) (k : TK H H') : ClsAt H' a Cs := by
  obtain ⟨vs, e, l⟩ := h
  exact ⟨vs, k _ _ e, l.tk k⟩
theorem ClsL.here {H : Hp} {vs : List V} {Cs : List (Nat × Int)} (h : ClsL H vs Cs) {j : Nat} {x : V} (e : vs[j]? = some x) : ∃ a c, x = .ref a ∧ Cs[j]? = some c ∧ H a = some (.tup [.int (c.1 : Int), .int c.2]) := by
  have hj := (List.getElem?_eq_some_iff.mp e).1
  rw [h.1] at hj
  obtain ⟨a, e1, e2⟩ := h.2 j _ (List.getElem?_eq_getElem hj)
  rw [e] at e1
  exact ⟨a, _, Option.some.inj e1, List.getElem?_eq_getElem hj, e2⟩
theorem ClsL.take {H : Hp} {vs : List V} {Cs : List (Nat × Int)} (h : ClsL H vs Cs) (m : Nat) : ClsL H (vs.take m) (Cs.take m) := by
  refine ⟨by rw [List.length_take, List.length_take, h.1], fun j q hq => ?_⟩
  rw [List.getElem?_take] at hq
  split at hq
  · rename_i hm
    rw [List.getElem?_take_of_lt hm]
    exact h.2 j q hq
  · cases hq
theorem ClsL.snoc {H : Hp} {vs : List V} {Cs : List (Nat × Int)} (h : ClsL H vs Cs) {a : Addr} {c : Nat × Int} (e : H a = some (.tup [.int (c.1 : Int), .int c.2])) : ClsL H (vs ++ [.ref a]) (Cs ++ [c]) := by
  refine ⟨by rw [List.length_append, List.length_append, h.1]; rfl, fun j q hq => ?_⟩
  by_cases hj : j < Cs.length
  · rw [List.getElem?_append_left hj] at hq
    rw [List.getElem?_append_left (by rw [h.1]; exact hj)]
    exact h.2 j q hq
  · rw [List.getElem?_append_right (by omega)] at hq
    have l := (List.getElem?_eq_some_iff.mp hq).1
    rw [List.length_singleton] at l
    have ej : j - Cs.length = 0 := by omega
    rw [ej] at hq
    have er : c = q := Option.some.inj hq
    rw [List.getElem?_append_right (by rw [h.1]; omega), h.1, ej, ← er]
    exact ⟨a, rfl, e⟩
/-- the first place that is met; the label there -/
def firstB (Cs : List (Nat × Int)) (S : Nat → Bool) : Nat := Cs.findIdx fun c => S c.1
def labB (Cs : List (Nat × Int)) (S : Nat → Bool) : Option Int := (Cs[firstB Cs S]?).map (·.2)
theorem labB_congr {Cs : List (Nat × Int)} {S T : Nat → Bool} (h : ∀ c ∈ Cs, S c.1 = T c.1) : labB Cs S = labB Cs T := by
  have key : ∀ Cs : List (Nat × Int), (∀ c ∈ Cs, S c.1 = T c.1) → firstB Cs S = firstB Cs T := by
    intro Cs
    induction Cs with
    | nil => intro _; rfl
    | cons c r ih =>
      intro h
      have ih := ih fun d hd => h d (List.mem_cons_of_mem _ hd)
      unfold firstB at ih ⊢
      rw [List.findIdx_cons, List.findIdx_cons, h c List.mem_cons_self, ih]
  unfold labB
  rw [key Cs h]
theorem first_drop {Cs : List (Nat × Int)} {S : Nat → Bool} {i : Nat} {c : Nat × Int} (hc : Cs[i]? = some c) (h : firstB Cs S = i + firstB (Cs.drop i) S) : firstB Cs S = if S c.1 then i else (i + 1) + firstB (Cs.drop (i + 1)) S := by
  have il := (List.getElem?_eq_some_iff.mp hc).1
  have hd : Cs.drop i = c :: Cs.drop (i + 1) := by
    rw [List.drop_eq_getElem_cons il]
    rw [List.getElem?_eq_getElem il] at hc
    rw [Option.some.inj hc]
  rw [h, hd]
  unfold firstB
  rw [List.findIdx_cons]
  cases S c.1 with
  | true => rfl
  | false => show i + ((Cs.drop (i + 1)).findIdx (fun c => S c.1) + 1) = _; simp only [Bool.false_eq_true, if_false]; omega
theorem all_true (n : Nat) : (List.range n).filterMap (fun _ => some (V.bl true)) = (List.replicate n true).map V.bl := by
  rw [show (fun _ : Nat => some (V.bl true)) = some ∘ (fun _ : Nat => V.bl true) from rfl, List.filterMap_eq_map, List.map_replicate]
  exact List.eq_replicate_iff.mpr ⟨by rw [List.length_map, List.length_range], fun b hb => by
    obtain ⟨x, _, e⟩ := List.mem_map.mp hb
    exact e.symm⟩
theorem all_id (n : Nat) : (List.replicate n true).all id = true := List.all_eq_true.mpr fun x hx => (List.eq_of_mem_replicate hx)
theorem filter_natsV (p : Nat → Bool) (f : Nat → Nat) (n : Nat) : (List.range n).filterMap (fun i => if p i = true then some (V.int ((f i : Nat) : Int)) else none) = natsV (((List.range n).filter p).map f) := by
  unfold natsV
  induction n with
  | zero => rfl
  | succ n ih =>
    rw [filterMap_range_succ, ih, List.range_succ, List.filter_append, List.map_append, List.map_append]
    congr 1
    rw [List.filter_cons]
    cases p n <;> rfl
theorem filter_nats (p : Nat → Bool) (n : Nat) : (List.range n).filterMap (fun i => if p i = true then some (V.int (i : Int)) else none) = natsV ((List.range n).filter p) := by
  have h := filter_natsV p id n
  rw [List.map_id] at h
  exact h
theorem slice_any {K : PySem.W.Frag} {H : Hp} {a : Addr} {xs : List V} {m : Nat} {Q : VK} (hx : H a = some (.tup xs)) (hm : m ≤ xs.length)
    (k : ∀ p H', Same H H' → H' p = some (.tup (xs.take m)) → Q (.ref p) H') : rSlA K (.ref a) none (some (m : Int)) H Q := by
  have e0 : HT.sIx xs.length 0 none = 0 := rfl
  have e1 : HT.sIx xs.length xs.length (some (m : Int)) = m := by
    rw [HT.sIx_nat]
    omega
  refine ⟨a, xs, rfl, SqT.of hx, fun e => ?_, fun _ p np => ?_⟩
  · rw [e1] at e
    exact k a H (Same.refl H) (by rw [hx, e.2, List.take_length])
  · refine k p _ (Same.new (Same.refl H) np) ?_
    rw [upd_same]
    unfold cutV
    rw [e0, e1]
    rfl
theorem ixn_nat {n j : Nat} (hj : j < n) : ixN n (j : Int) = some j := by
  unfold ixN
  rw [if_pos (by omega), if_pos (by omega)]
  simp
/-! ### words for books -/
local macro_rules | `(tactic| tm_at "fld") => `(tactic| refine ⟨_, _, _, _, _, rfl, by tm_at "hp", by assumption, by assumption, by first | exact bkF_bits _ _ | exact bkF_parents _ _ | fail "fld", ?_⟩)
/-! ### schemes -/
abbrev Tr := Int × Int × List Int
def Trip (H : Hp) (v : V) (e : Tr) : Prop := ∃ (p q : Addr), v = .ref p ∧ H p = some (.tup [.int e.1, .int e.2.1, .ref q]) ∧ H q = some (.tup (e.2.2.map V.int))
def SchAt (H : Hp) (a : Addr) (S : List Tr) : Prop := ∃ vs : List V, H a = some (.tup vs) ∧ vs.length = S.length ∧ ∀ (i : Nat) (e : Tr), S[i]? = some e → ∃ v, vs[i]? = some v ∧ Trip H v e
theorem Trip.tk {H H' : Hp} {v : V} {e : Tr} (h : Trip H v e) (k : TK H H') : Trip H' v e := by
  obtain ⟨p, q, e1, e2, e3⟩ := h
  exact ⟨p, q, e1, k _ _ e2, k _ _ e3⟩
theorem SchAt.tk {H H' : Hp} {a : Addr} {S : List Tr} (h : SchAt H a S) (k : TK H H') : SchAt H' a S := by
  obtain ⟨vs, h1, h2, h3⟩ := h
  refine ⟨vs, k _ _ h1, h2, fun i e he => ?_⟩
  obtain ⟨v, hv, ht⟩ := h3 i e he
  exact ⟨v, hv, ht.tk k⟩
theorem SchAt.at {H : Hp} {a : Addr} {S : List Tr} (h : SchAt H a S) {i : Nat} {e : Tr} (he : S[i]? = some e) : ∃ vs p q, H a = some (.tup vs) ∧ vs.length = S.length ∧ vs[i]? = some (.ref p) ∧ H p = some (.tup [.int e.1, .int e.2.1, .ref q]) ∧ H q = some (.tup (e.2.2.map V.int)) := by
  obtain ⟨vs, h1, h2, h3⟩ := h
  obtain ⟨v, hv, p, q, e1, e2, e3⟩ := h3 i e he
  exact ⟨vs, p, q, h1, h2, by rw [hv, e1], e2, e3⟩
def saysB (ex ep : Tr) : Bool := decide (ep.1 < (ex.2.2.length : Int)) && decide (ep.2.1 ≤ ex.2.2.getD ep.1.toNat 0)
def Good (e : Tr) : Prop := 0 ≤ e.1 ∧ e.2.2.length ≤ 1000
def GoodT (v : V) (H : Hp) : Prop := ∃ e, Good e ∧ Trip H v e
theorem GoodT.tk {v : V} {H H' : Hp} (h : GoodT v H) (k : TK H H') : GoodT v H' := by
  obtain ⟨e, g, t⟩ := h
  exact ⟨e, g, t.tk k⟩
theorem sch_of {H : Hp} {a : Addr} : ∀ {vs : List V}, (∀ v ∈ vs, GoodT v H) → ∃ S : List Tr, S.length = vs.length ∧ (∀ e ∈ S, Good e) ∧ ∀ (i : Nat) (e : Tr), S[i]? = some e → ∃ v, vs[i]? = some v ∧ Trip H v e
  | [], _ => ⟨[], rfl, (fun e h => by cases h), (fun i e h => by simp at h)⟩
  | v :: r, h => by
    obtain ⟨S, h1, h2, h3⟩ := sch_of (a := a) (vs := r) fun u hu => h u (List.mem_cons_of_mem _ hu)
    obtain ⟨e, g, t⟩ := h v List.mem_cons_self
    refine ⟨e :: S, by rw [List.length_cons, List.length_cons, h1], fun x hx => ?_, fun i x hx => ?_⟩
    · rcases List.mem_cons.mp hx with rfl | hx
      · exact g
      · exact h2 x hx
    · cases i with
      | zero =>
        have q : e = x := Option.some.inj hx
        exact ⟨v, rfl, q ▸ t⟩
      | succ i => exact h3 i x hx
/-- a list of triples' addresses -/
structure ScL (H : Hp) (vs : List V) (S : List Tr) : Prop where
  len : vs.length = S.length
  item : ∀ (i : Nat) (e : Tr), S[i]? = some e → ∃ v, vs[i]? = some v ∧ Trip H v e
theorem ScL.nil {H : Hp} : ScL H [] [] := ⟨rfl, fun i e h => by simp at h⟩
theorem ScL.tk {H H' : Hp} {vs : List V} {S : List Tr} (h : ScL H vs S) (k : TK H H') : ScL H' vs S := ⟨h.len, fun i e he => by
  obtain ⟨v, hv, ht⟩ := h.item i e he
  exact ⟨v, hv, ht.tk k⟩⟩
theorem ScL.snoc {H : Hp} {vs : List V} {S : List Tr} {v : V} {e : Tr} (h : ScL H vs S) (t : Trip H v e) : ScL H (vs ++ [v]) (S ++ [e]) := by
  refine ⟨by rw [List.length_append, List.length_append, h.len]; rfl, fun i x hx => ?_⟩
  by_cases hi : i < S.length
  · rw [List.getElem?_append_left hi] at hx
    obtain ⟨u, hu, ht⟩ := h.item i x hx
    exact ⟨u, by rw [List.getElem?_append_left (by rw [h.len]; exact hi)]; exact hu, ht⟩
  · rw [List.getElem?_append_right (by omega)] at hx
    have q := (List.getElem?_eq_some_iff.mp hx).1
    rw [List.length_singleton] at q
    have e0 : i - S.length = 0 := by omega
    rw [e0] at hx
    have ex : e = x := Option.some.inj hx
    refine ⟨v, ?_, ex ▸ t⟩
    rw [List.getElem?_append_right (by rw [h.len]; omega), h.len, e0]
    rfl
theorem ScL.sch {H : Hp} {a : Addr} {vs : List V} {S : List Tr} (h : ScL H vs S) (ha : H a = some (.tup vs)) : SchAt H a S := ⟨vs, ha, h.len, h.item⟩
theorem ScL.rev {H : Hp} {vs : List V} {S : List Tr} (h : ScL H vs S) : ScL H vs.reverse S.reverse := by
  refine ⟨by rw [List.length_reverse, List.length_reverse, h.len], fun i e he => ?_⟩
  have il : i < S.length := by
    have q := (List.getElem?_eq_some_iff.mp he).1
    rw [List.length_reverse] at q
    exact q
  rw [List.getElem?_reverse il] at he
  obtain ⟨v, hv, ht⟩ := h.item _ _ he
  exact ⟨v, by rw [List.getElem?_reverse (by rw [h.len]; exact il), h.len]; exact hv, ht⟩
section
open PySem.Spec PyProof.Rows
/-! ### super().__init__(text) in an own error over an own error over ValueError -/
section
variable {prog : Program} {w : World} {A : Around} {E : Value → Shared → Prop} {hp : Heap} {g : Array GenState} {d : Drawn} {t : Nat} {os : OsState}
variable {nm qn : Str} {C N : Addr} {bs bm sub : List Value} {hdct ab : Bool} {sn : List Str} {col : Option Bool} {dd : Option Addr} {k0 k1 k2 k3 k5 : Option Value}
theorem bound_init {u e t0 : Addr} {vals : List Value} {Q : Value → Shared → Prop} (kC : hp.get? C = some (excClassObj nm qn C N bs bm hdct sn sub ab col dd k0 k1 k2 k3 k5 "ValueError.__new__"))
    (ke : hp.get? e = some (PySem.HandSPX.excO C t0)) (ku : hp.get? u = some (PySem.W.kxs_mw "ValueError.__init__" e)) (few : vals.length ≤ sizeLine)
    (fin : ∀ h2 t2, (∀ b o, b ≠ e → hp.get? b = some o → h2.get? b = some o) → h2.get? e = some (PySem.HandSPX.excO C t2) → Q .none ⟨h2, g, d, t, os⟩) : wpAny (model prog w) A (call (.ref u) vals) Q E ⟨hp, g, d, t, os⟩ := by
  apply wpAny_call
  apply codeAny_of_tree
  change wpAny (model prog w) A.in1 (callAny (.ref u) ⟨vals, []⟩) _ _ _
  unfold callAny
  simp only
  apply wpAny_bind
  refine wpAny_load ku ?_
  have b1 : (Value.type "method-wrapper" == Value.type "method" || Value.type "method-wrapper" == Value.type "builtin_function_or_method" || Value.type "method-wrapper" == Value.type "method-wrapper") = true := by decide
  simp only [PySem.W.kxs_mw, b1, if_true]
  apply PySem.W.KFB.if_so (by decide)
  apply wpAny_bind
  refine PySem.W.check_bound_init F.excBase_ValueError.toExcCallFacts kC ke rfl ?_
  refine wpAny_pure ?_
  refine And.intro (plainId_quiet F.excBase_ValueError.init.plain _) (codeAny_builtin F.excBase_ValueError.initEntry ?_)
  rw [Around.under_plainId F.excBase_ValueError.init.plain _]
  wp_walk
  apply fin (t2 := hp.objs.size)
  · intro b o nb hb
    rw [Heap.get?_update_other _ _ (fun z => nb z.symm)]
    exact Heap.get?_push_of_some _ hb
  · rw [Heap.get?_update_self _ (Heap.get?_push_of_some _ ke) rfl]
    rfl
end
/-- what the written part says of a class and of its own __init__ that calls the one above -/
structure SupC (K : PySem.W.Frag) (mg : Str → Option Value) (prog : Program) (C f cc cda : Addr) (F : NdefX.NF) : Prop where
  ex : OexC K C
  opq : PySem.W.nsIn K cStatics "thirdparty.any" = some none
  sup : PySem.W.ks_superIn K C C "__init__" = some (some (.builtin "ValueError.__init__"))
  subV : PySem.W.subIn K (.ref C) (.type "ValueError") = some true
  mro : PySem.W.mroIn K C (.ref C) = some true
  cell : ∃ cl cld csl, K.lookup cc = some ⟨cl, cld, .cell (some (.ref C)), csl⟩
  code : ∃ ccl cdd vs ccs file tf, K.lookup cda = some ⟨ccl, cdd, .fields vs, ccs⟩ ∧ vs[2]? = some (.str file tf) ∧ ((prog.main.file : Str) == file) = true
  fn : ∃ oc od dV kV doc pm an ctv osl, K.lookup f = some ⟨oc, od, .func (PySem.W.fnX F.name F.qual F.params F.body F.scope F.cl dV kV doc pm an (.ref F.c) ctv), osl⟩
  top : (prog.main.scope.names.lookup ("super" : Str)).isSome = false
  nosup : mg "super" = none
  cl : F.cl = [(("__class__" : Str), cc)]
  c : F.c = cda
  kind : F.scope.kind = .function
  ks : F.scope.names.lookup ("super" : Str) = some .globalImplicit
  kc : F.scope.names.lookup ("__class__" : Str) = some .free
  kself : F.scope.names.lookup ("self" : Str) = some .local
  first : ∃ ar : Arg, (F.params.posonlyargs ++ F.params.args).head? = some ar ∧ ar.arg = ("self" : Str)
section
variable {X : Cx} {C f cc cda L a : Addr} {F : NdefX.NF} {σ : L2.St} {H : Hp} {s : Shared} {Q : Value → Shared → Prop} {E : Value → Shared → Prop} {p0 p1 p2 p3 p4 : Pos} {j : Nat} {msg : Str} {body : List Stmt}
theorem sup_eval (T : SupC X.K X.mg X.prog C f cc cda F) (hE : X.env = NdefX.envF F f L) (I : Inv X [] σ H s) (hN : X.N[0]? = some ("self" : Str)) (hσ : σ[0]? = some (some (.ref a))) (ha : H a = some (exo a C none)) (hb : bootBuiltins "super" = some (.type "super")) {pl : Sem Bool}
    (he : eval (.Call (.Attribute (.Call (.Name "super" p0) [] [] p1) "__init__" p2) [.Constant (.str msg) j p3] [] p4) X.env = (do
      let ov ← attributeBase (.Call (.Name "super" p0) [] [] p1) "__init__" X.env (eval (.Call (.Name "super" p0) [] [] p1) X.env)
      standAt p2.atName
      let (f, first) ← holding [ov] (getMethod ov "__init__" pl)
      callWith p4 f first (backTo p4 (starEach [.Constant (.str msg) j p3] X.env)) []))
    (h : ∀ s', Inv X [] σ H s' → Q .none s') :
    _root_.PySem.wpAt (model X.prog X.w) X.A (.func body X.env) (eval (.Call (.Attribute (.Call (.Name "super" p0) [] [] p1) "__init__" p2) [.Constant (.str msg) j p3] [] p4) X.env) Q X.xe s := by
  have KX := I.kIn
  obtain ⟨cl, cld, csl, lcell⟩ := T.cell
  obtain ⟨ccl, cdd, vs, ccs, file, tf, lcode, hvs, hfile⟩ := T.code
  obtain ⟨oc, od, dV, kV, doc, pm, an, ctv, osl, lfn⟩ := T.fn
  obtain ⟨ar, har, hself⟩ := T.first
  obtain ⟨nm, q, N, bs, bm, sn, sub, ab, col, dd, k0, k1, k2, k3, k5, hC, hbm⟩ := T.ex.cls
  obtain ⟨t1, ho⟩ := exo_at I.hok ha
  have hks : X.env.kindOf "super" = some .globalImplicit := by rw [hE]; exact T.ks
  have hkc : X.env.kindOf "__class__" = some .free := by rw [hE]; exact T.kc
  have hksf : X.env.kindOf "self" = some .local := by rw [hE]; exact T.kself
  have hkd : X.env.scope.kind = .function := I.ok.kind
  have hfu : X.env.func = some f := by rw [hE]
  have hco : X.env.code = .ref cda := by rw [hE, ← T.c]
  have hcl : X.env.cells.lookup ("__class__" : Str) = some cc := by rw [hE]; show F.cl.lookup ("__class__" : Str) = _; rw [T.cl]; rfl
  have hcls : PySem.W.clsIn X.K C = some { name := nm, bases := bs, mro := .ref C :: bm, ns := N, qualname := q, hasDict := true, slotNames := sn, subclasses := sub, abstract := ab, collection := col, hasDel := false } := by unfold PySem.W.clsIn; rw [hC] <;> rfl
  refine PySem.ks_wpAt_MethodCall ?_ he
  refine PySem.ks_wpAt_super_base hks hkc (by decide +kernel) hfu (KX _ _ lfn) rfl har hco (KX _ _ lcode) rfl hvs hfile T.top ?_
  obtain ⟨mb, g1, g2⟩ := I.mod.blt
  refine PySem.W.ks_loadName_global hkd hks (Calls.loadGlobal_builtin (by rw [I.ok.glob]; exact I.mod.glob.keeps I.bk) T.nosup (by rw [I.ok.blt]; exact g1.keeps I.bk) ((g2 "super" (by decide)).trans hb) ⟨rfl, ?_⟩)
  refine wpAny_loadName_free hkd hkc hcl ⟨_, KX _ _ lcell, rfl⟩ ?_
  obtain ⟨m, hns, hloc⟩ := I.loc
  obtain ⟨u, ru, hl⟩ := hloc 0 "self" (.ref a) hN hσ (.inl (by rw [hE]; exact T.kself))
  have hm : m "self" = some (.ref a) := by
    rcases hl with ⟨_, hl⟩ | ⟨hl, _⟩
    · cases ru
      exact hl
    · rw [hksf] at hl
      rcases hl with hl | hl <;> cases hl
  rw [hself]
  refine wpAny_loadName_local hkd hksf hns hm ?_
  have KC := KX _ _ hC
  have ia : PySem.W.InstAt s.heap a { cls := .ref C, dict := none, data := .fields #[.ref t1, .none, .none, .none, .bool false, .none] } C none := ⟨ho, rfl, rfl, trivial⟩
  have ne : a ≠ C := PySem.W.ks_ne KX ia hcls
  have hI : PySem.W.Looks (model X.prog X.w) s.heap (isInstance (.ref a) (.type "ValueError")) true := ia.type.andThen (PySem.W.looks_subIn KX T.subV)
  obtain ⟨hp, g, d, t, os⟩ := s
  refine ks_wpAny_isType_cls KC rfl ⟨rfl, ?_⟩
  refine ks_wpAny_call_super KC rfl ho rfl (fun c e => nomatch e) (PySem.W.looks_mroIn KX T.mro) (fun h1 eso kk => ?_)
  have I1 : Inv X [] σ H ⟨h1, g, d, t, os⟩ := I.kept (t' := t) kk
  have KX1 := I1.kIn
  have ia1 : PySem.W.InstAt h1 a { cls := .ref C, dict := none, data := .fields #[.ref t1, .none, .none, .none, .bool false, .none] } C none := ⟨kk _ _ ho, rfl, rfl, trivial⟩
  have hf : PySem.W.alongIn X.K "__init__" (((Value.ref C :: bm).dropWhile (· != .ref C)).drop 1) = some (some (.builtin "ValueError.__init__")) := by
    have := T.sup
    unfold PySem.W.ks_superIn at this
    rw [hcls] at this
    exact this
  refine PySem.W.kxs_getMethod PySem.W.kxs_ValueError eso (PySem.W.looks_opaque KX1 T.opq) (l₀ := .ref C :: bm) (fun A Q E s k q => wpAny_bind ((PySem.W.looks_clsIn KX1 hcls) A _ E s k (wpAny_pure q))) rfl KX1 hf (ia1.type.andThen (PySem.W.looks_subIn KX1 T.subV)) ne (by decide +kernel) ?_
  have hu0 : (h1.push (PySem.W.kxs_mw "ValueError.__init__" a)).get? h1.objs.size = some (PySem.W.kxs_mw "ValueError.__init__" a) := Heap.get?_push_at rfl rfl
  have I2 : Inv X [] σ H ⟨h1.push (PySem.W.kxs_mw "ValueError.__init__" a), g, d, t + 1, os⟩ := I1.kept (t' := t + 1) fun b o e => Heap.get?_push_of_some _ e
  have fp : FpOk X [] H h1.objs.size := I1.fpOk (Nat.le_refl _) (I1.hok.fresh (Nat.le_refl _))
  have I3 := I2.pinned (fp := [h1.objs.size]) (fun b hb => by rw [List.mem_singleton.mp hb]; exact fp) (fun b hb => by rw [List.mem_singleton.mp hb]; exact ⟨_, hu0, fun v z => nomatch z⟩)
  have pin : (h1.objs.size, PySem.W.kxs_mw "ValueError.__init__" a) ∈ ([] ++ pinsAt [h1.objs.size] (h1.push (PySem.W.kxs_mw "ValueError.__init__" a)) : List (Addr × Obj)) := by
    rw [List.nil_append]
    exact mem_pinsAt (List.mem_singleton.mpr rfl) hu0
  have ap : PA X [.Constant (.str msg) j p3] (tCons (tC (.str msg)) tNil) := pa_cons pe_str pa_nil
  show wpAny (model X.prog X.w) X.A (callWith p4 (.ref h1.objs.size) [] (backTo p4 (starEach [.Constant (.str msg) j p3] X.env)) []) Q X.xe _
  refine PySem.W.kxs_callWith (i := "ValueError.__init__") (x := a) (by rfl) ?_
  show wpAny (model X.prog X.w) X.A (evalArgs (.ref h1.objs.size) true ((false, eval (.Constant (.str msg) j p3) X.env) :: []) []) _ X.xe _
  refine PySem.Calls.evalArgs_plain (wpAny_mono (ap.run p4 _ _ σ H (fun vs H1 => vs = [V.str msg] ∧ H1 = H) I3 ⟨rfl, rfl⟩) (fun us s4 hh => ?_) fun _ _ z => z)
  obtain ⟨vs4, H4, I4, r4, ev, eH⟩ := hh
  subst eH
  have hu4 := (I4.pin _ (List.mem_append_right _ pin)).1
  refine ⟨hu4, ?_⟩
  have I5 : Inv X [] σ H4 s4 := I4.unpinned (pl := pinsAt [h1.objs.size] (h1.push (PySem.W.kxs_mw "ValueError.__init__" a)))
  obtain ⟨t5, ho5⟩ := exo_at I5.hok ha
  obtain ⟨h5, g5, d5, tk5, os5⟩ := s4
  have few : us.length ≤ sizeLine := by
    rw [← r4.length, ev]
    show 1 ≤ sizeLine
    rw [sizeLine_eq]
    omega
  refine bound_init (I5.kIn _ _ hC) ho5 hu4 few fun h6 t6 k6 e6 => ?_
  have J := I5.write (t' := tk5) (x := a) (e := a) (o := exo a C none) (by rw [ha]; exact True.intro) (.inl rfl) k6 ⟨_, e6⟩ (exo_ok e6)
  have eu : upd H4 a (exo a C none) = H4 := by
    funext b
    by_cases hb : b = a
    · rw [hb, upd_same, ha]
    · rw [upd_ne hb]
  rw [eu] at J
  exact h _ J
end
/-- an own __init__ whose first line is super().__init__(text), as a def -/
theorem sup_fn {CX : CXT} {P : Program} {w : World} {K : PySem.W.Frag} {mg : Str → Option Value} {base : Heap} {C f cc cda : Addr} {F : NdefX.NF} {N ps : List Str} {rest : List Stmt} {k : Nat} {sp : Sp} {oc : Value} {od an : Option Addr} {dV kV doc pm ctv : Value} {osl : Array (Option Value)}
    {p0 p1 p2 p3 p4 p5 : Pos} {j : Nat} {msg : Str} {pl : Sem Bool}
    (lk : K.lookup f = some ⟨oc, od, .func (PySem.W.fnX F.name F.qual F.params F.body F.scope F.cl dV kV doc pm an (.ref F.c) ctv), osl⟩) (hcd : PySem.W.codeIn K (.ref F.c) F.qual = true)
    (T : SupC K mg P C f cc cda F) (S : NdefX.NScope N ps [("__class__" : Str)] F.scope) (hN : N[0]? = some ("self" : Str)) (len : ∀ vs H Q E, sp vs H Q E → vs.length = ps.length)
    (hF : F.body = .Expr (.Call (.Attribute (.Call (.Name "super" p0) [] [] p1) "__init__" p2) [.Constant (.str msg) j p3] [] p4) p5 :: rest)
    (he : ∀ L, eval (.Call (.Attribute (.Call (.Name "super" p0) [] [] p1) "__init__" p2) [.Constant (.str msg) j p3] [] p4) (NdefX.envF F f L) = (do
      let ov ← attributeBase (.Call (.Name "super" p0) [] [] p1) "__init__" (NdefX.envF F f L) (eval (.Call (.Name "super" p0) [] [] p1) (NdefX.envF F f L))
      standAt p2.atName
      let (f', first) ← holding [ov] (getMethod ov "__init__" pl)
      callWith p4 f' first (backTo p4 (starEach [.Constant (.str msg) j p3] (NdefX.envF F f L))) []))
    (hi : ∀ L, interactive (NdefX.envF F f L) = false) (hs : ∀ L, swapsWith (.Call (.Attribute (.Call (.Name "super" p0) [] [] p1) "__init__" p2) [.Constant (.str msg) j p3] [] p4) none p5.line (NdefX.envF F f L) = pure false)
    (hb : bootBuiltins "super" = some (.type "super"))
    (hbody : ∀ (A : Around) (outer : List Env) (s : Shared) (H : Hp) (vs : List V) (Q : VK) (E : XK), Room k (A.deeper (NdefX.envF F f s.heap.objs.size)) → sp vs H Q E →
      ∃ a, vs[0]? = some (.ref a) ∧ H a = some (exo a C none) ∧ ∃ t, PSs (NdefX.ncx CX P w K mg base N F f A outer s H E) rest t ∧ t { nx := fun _ H' => Q .non H', rt := Q } (NdefX.startF N vs [none]) H) :
    FnOk P w K mg base CX (k + 1) f (PySem.W.fnX F.name F.qual F.params F.body F.scope F.cl dV kV doc pm an (.ref F.c) ctv) ps sp := by
  refine ⟨len, fun A outer s H args us vs Q E hr e0 hbd r hsp => ?_⟩
  have hl := len _ _ _ _ hsp
  have KX : K.In s.heap := e0.mod.kin.keeps fun b o e => (e0.bs b o e).1
  have lim : s.heap.NoLimit := e0.mod.nolimit.keeps fun b o e => (e0.bs b o e).1
  obtain ⟨cl, cld, csl, lcell⟩ := T.cell
  have bcell := e0.bs _ _ (e0.mod.kin _ _ lcell)
  have cells : NdefX.CellsAt F.cl [("__class__" : Str)] [none] s.heap H := by
    have look : ∀ y c, F.cl.lookup y = some c → y = ("__class__" : Str) ∧ c = cc := fun y c e => by
      rw [T.cl] at e
      by_cases hy : y = ("__class__" : Str)
      · subst hy
        have : some cc = some c := e
        exact ⟨rfl, (Option.some.inj this).symm⟩
      · have : (y == ("__class__" : Str)) = false := by simpa using hy
        simp [List.lookup, this] at e
    refine ⟨rfl, fun y c e => ?_, fun x y c h1 h2 => (look x c h1).1.trans (look y c h2).1.symm, fun i y hy => ?_⟩
    · obtain ⟨_, rfl⟩ := look y c e
      exact ⟨bcell.2, _, _, bcell.1, rfl⟩
    · have hy' : y = ("__class__" : Str) := by
        cases i with
        | zero => exact (Option.some.inj hy).symm
        | succ i => simp at hy
      subst hy'
      refine ⟨cc, by rw [T.cl]; rfl, fun v hv => ?_⟩
      cases i with
      | zero => cases hv
      | succ i => simp at hv
  refine PySem.ks_codeAny_call_defAt (fd := PySem.W.fnX F.name F.qual F.params F.body F.scope F.cl dV kV doc pm an (.ref F.c) ctv) (body := F.body) (binds := ps.zip us) hr.depth (KX _ _ lk) rfl lim (PySem.W.codeRec_of KX hcd) rfl hbd S.nocell (fun ⟨n, _⟩ hy => S.par n (List.of_mem_zip hy).1) (fun h₁ hns kp => ?_) S.co S.gen S.kind
  have I : Inv (NdefX.ncx CX P w K mg base N F f A outer s H E) [] (NdefX.startF N vs [none]) H { s with heap := h₁, toks := s.toks + (ps.zip us).length } := NdefX.inv_startN S hr.hd e0 hl r cells hns kp
  obtain ⟨a, hv0, ha, t, ht, hq⟩ := hbody A outer s H vs Q E (hr.deeper _) hsp
  show _root_.PySem.wpAt (model P w) (A.deeper (NdefX.envF F f s.heap.objs.size)) (.func F.body (NdefX.envF F f s.heap.objs.size)) (execs F.body (NdefX.envF F f s.heap.objs.size)) _ _ _
  have hσ : (NdefX.startF N vs [none])[0]? = some (some (.ref a)) := by
    unfold NdefX.startF
    rw [List.getElem?_append_left (by rw [List.length_map]; exact (List.getElem?_eq_some_iff.mp hv0).1), List.getElem?_map, hv0]
    rfl
  rw [show execs F.body (NdefX.envF F f s.heap.objs.size) = execs (.Expr (.Call (.Attribute (.Call (.Name "super" p0) [] [] p1) "__init__" p2) [.Constant (.str msg) j p3] [] p4) p5 :: rest) (NdefX.envF F f s.heap.objs.size) by rw [hF]]
  refine PySem.ks_wpAt_execs_cons (PySem.ks_wpAt_Expr_any (sup_eval (X := NdefX.ncx CX P w K mg base N F f A outer s H E) (F := F) T rfl I hN hσ ha hb (he _) fun s' J => ?_) (hi _) (hs _))
  refine _root_.PySem.wpAt_of_wpAny ?_
  refine wpAny_mono (ht.run [] s' _ H _ J hq) (fun fl s'' hs => ?_) fun e s'' hs => hs
  have fin : ∀ {σ' : L2.St} {H' : Hp} {v : V} {u : Value}, Inv (NdefX.ncx CX P w K mg base N F f A outer s H E) [] σ' H' s'' → L2.RelV v u → Q v H' → CE outer P w H s Q u s'' :=
    fun {σ' H' v u} J rv q => ⟨v, H', J.os, J.bare, J.base, J.hok, rv, q⟩
  cases fl with
  | ret u =>
    obtain ⟨v, σ', H', J, rv, q⟩ := hs
    exact fin J rv q
  | next =>
    obtain ⟨σ', H', J, q⟩ := hs
    exact fin (v := V.non) (u := Value.none) J rfl q
  | brk =>
    obtain ⟨_, _, _, q⟩ := hs
    exact False.elim q
  | cont =>
    obtain ⟨_, _, _, q⟩ := hs
    exact False.elim q
/-! ### the errors made -/
/-- an error without a field is let go of: the heap is as it was -/
theorem let_go {X : Cx} {pins : List (Addr × Obj)} {σ : L2.St} {H : Hp} {Q : XK} {hp hp2 h2 : Heap} {g1 g2 : Array GenState} {d1 d2 : Drawn} {t1 t2 : Nat} {os1 os2 : OsState} {a C : Addr} (T : Raises X (.ref C)) (I : Inv X pins σ H ⟨hp, g1, d1, t1, os1⟩)
    (ha : hp.objs.size ≤ a) (k : ∀ b o, hp.get? b = some o → hp2.get? b = some o) (un : Un (frs X.stack) [] (upd H a (exo a C none)) (upd H a (exo a C none)) hp2 h2) (hok : HOk X.prog X.w (upd H a (exo a C none)) h2) (ho : os2 = os1) (hb : AllBare g2)
    (q : Q (.ref C) none H) : MkP X pins σ Q (.ref a) ⟨h2, g2, d2, t2, os2⟩ := by
  obtain ⟨t0, hoe⟩ := exo_at hok upd_same
  have hn : H a = none := I.hok.fresh ha
  obtain ⟨G, in1, in2⟩ := restrict h2 fun b => decide (b ≠ a)
  have there : ∀ b, b ≠ a → G.get? b = h2.get? b := fun b nb => in1 b (decide_eq_true nb)
  have gone : G.get? a = none := in2 a (by simp)
  have old : ∀ {b : Addr} {o : Obj}, hp.get? b = some o → b ≠ a := fun {b o} z => Nat.ne_of_lt (Nat.lt_of_lt_of_le (Heap.lt_size z) ha)
  have up : ∀ {b : Addr}, b ≠ a → upd H a (exo a C none) b = H b := fun {b} nb => upd_ne nb
  have U : Un (frs X.stack) [] H H hp G := {
    keep := fun b o z n hf hx => by
      rw [there b (old z)]
      exact un.keep b o (k b o z) (by rw [up (old z)]; exact n) hf hx
    slot := fun b o z n hf hx => by
      rw [there b (old z)]
      exact un.slot b o (k b o z) (by rw [up (old z)]; exact n) hf hx
    free := fun b o z n hx => n
    there := fun b o z hx => by
      rw [there b (old z)]
      exact un.there b o (k b o z) hx
    tups := fun b xs z => z
    frzs := fun b o u z => z
    tbls := fun b ps z => ⟨#[], by rw [z]; simp⟩ }
  have hok3 : HOk X.prog X.w H G := fun b o z => by
    have nb : b ≠ a := ne_of_none z hn
    refine (hok b o (by rw [up nb]; exact z)).stay (fun c v hc y => ?_) (fun c hc => ?_) (fun c xs hc => ?_)
    · have nc : c ≠ a := by
        rcases hc with hc | hc
        · rw [hc]
          exact nb
        · exact fun e => by
            rw [e, upd_same] at hc
            exact exo_own (Option.some.inj hc)
      rw [there c nc]
      exact y
    · have nc : c ≠ a := fun e => by
        rw [e, upd_same] at hc
        exact exo_own (Option.some.inj hc)
      rw [up nc] at hc
      exact hc
    · have nc : c ≠ a := fun e => by
        rw [e, upd_same] at hc
        exact exo_tup (Option.some.inj hc)
      rw [up nc] at hc
      exact hc
  have J : Inv X pins σ H ⟨G, g2, d2, t2, os2⟩ := I.call' (ch := []) ho U hok3 hb (fun b z => absurd z (by simp))
  refine ⟨a, _, _, ⟨G, g2, d2, t2, os2⟩, H, .ref C, none, rfl, J, fun b o z => ?_, gone, hoe, ⟨rfl, rfl⟩, rfl, rfl, hn, rfl, hb, T, q⟩
  by_cases hba : b = a
  · rw [hba, gone] at z
    cases z
  · exact (there b hba).symm.trans z
section
variable {X : Cx} {CX : CXT} {x : Str} {C fI : Addr} {k : Nat} {fd : FuncData} {ps : List Str} {p pos : Pos}
/-- what an __init__ of such an error promises -/
def sp_err (C : Addr) : Sp := fun vs H Q _ => ∃ a, vs = [.ref a] ∧ H a = some (exo a C none) ∧ Q .non H
def sp_errF (C : Addr) (fld : Str) : Sp := fun vs H Q _ => ∃ a v, vs = [.ref a, v] ∧ H a = some (exo a C none) ∧ ∀ dx, H dx = none → dx ≠ a → Q .non (upd (upd H dx (exd dx [(fld, v)])) a (exo a C (some dx)))
/-- X() -/
theorem pmk_n (T : OexC X.K C) (iC : PySem.W.findIn X.K (.ref C) "__init__" = some (some (.ref fI))) (tI : PySem.W.typeIn X.K (.ref fI) = some (.type "function"))
    (F1 : FnOk X.prog X.w X.K X.mg X.base CX k fI fd ps (sp_err C)) (hr : Room (k + 1) X.A) (hb : Binds X.K fd ps []) (hx : Passes CX X (fun _ _ _ => False)) (hg : Gl X x) (hm : X.mg x = some (.ref C))
    (hdb : (x == ("__debug__" : Str)) = false := by decide) : PMk X (.Call (.Name x p) [] [] pos) (fun _ H Q => Q (.ref C) none H) := by
  intro pins s σ H Q I h
  obtain ⟨nm, q, N, bs, bm, sn, sub, ab, col, dd, k0, k1, k2, k3, k5, hC, hbm⟩ := T.cls
  refine wpAny_Call_Name_kw (ld_glob I hg hm ?_ hdb)
  refine PySem.W.callWith_K0 I.kIn T.kC ?_
  show wpAny _ _ (call (.ref C) []) _ _ _
  obtain ⟨hp, g, dr, tk, os⟩ := s
  have up1 : hp.objs.size ≤ hp.objs.size + 1 := Nat.le_succ _
  have kk : ∀ b o, hp.get? b = some o → ((hp.push (PySem.W.kdv_tup [])).push (PySem.HandSPX.excO C hp.objs.size)).get? b = some o := fun b o e => Heap.get?_push_of_some _ (Heap.get?_push_of_some _ e)
  have here : ((hp.push (PySem.W.kdv_tup [])).push (PySem.HandSPX.excO C hp.objs.size)).get? (hp.objs.size + 1) = some (PySem.HandSPX.excO C hp.objs.size) := by heap_get
  have I2 : Inv X pins σ (upd H (hp.objs.size + 1) (exo (hp.objs.size + 1) C none)) ⟨(hp.push (PySem.W.kdv_tup [])).push (PySem.HandSPX.excO C hp.objs.size), g, dr, tk, os⟩ :=
    I.laid (t' := tk) (a := hp.objs.size + 1) (o := exo (hp.objs.size + 1) C none) (h' := (hp.push (PySem.W.kdv_tup [])).push (PySem.HandSPX.excO C hp.objs.size)) kk up1 (exo_ok here)
  have want : sp_err C [V.ref (hp.objs.size + 1)] (upd H (hp.objs.size + 1) (exo (hp.objs.size + 1) C none)) (fun v H2 => v = .non ∧ H2 = upd H (hp.objs.size + 1) (exo (hp.objs.size + 1) C none)) (fun _ _ _ => False) := ⟨_, rfl, upd_same, rfl, rfl⟩
  have r2 : Vals [V.ref (hp.objs.size + 1)] [Value.ref (hp.objs.size + 1)] := .cons rfl .nil
  have hl : ([Value.ref (hp.objs.size + 1)] ++ []).length = ps.length := (F1.len _ _ _ _ want).symm ▸ rfl
  refine wpAny_call (PySem.HandSPX.call_own F.excBase_ValueError (fun Y => PySem.HandSPX.refsVE_contains Y bm hbm) (I.kIn _ _ hC) (PySem.W.looks_findIn I.kIn iC) (fun self => PySem.W.bind_fn I.kIn self tI) (Nat.zero_le _)
    (codeAny_mono (F1.run _ X.stack _ _ ⟨[Value.ref (hp.objs.size + 1)], []⟩ [Value.ref (hp.objs.size + 1)] _ _ (fun _ _ _ => False) (hr.make C [] []) (I2.env0.make C [] []) (hb _ [Value.ref (hp.objs.size + 1)] I2.kIn hl) r2 want) fun r s' hq => ?_))
  cases r with
  | error er => exact hx pins σ _ _ er s' I2 hq
  | ok fl =>
    cases fl with
    | ret u =>
      obtain ⟨v, H2, os2, bare2, un2, hok2, rv, ev, eH⟩ := hq
      subst ev eH
      obtain ⟨h2, g2, d2, t2, os'⟩ := s'
      exact ⟨rv, let_go (raises_own T.exC T.tyC) I up1 kk un2 hok2 os2 bare2 h⟩
    | next => exact False.elim hq
    | brk => exact False.elim hq
    | cont => exact False.elim hq
/-- X(e): what is left to be shown behind e (by pmk_oex) -/
theorem errF_go {fld : Str} {v : V} {H1 : Hp} {Q : XK} (h : ∀ d, H1 d = none → Q (.ref C) (some d) (upd H1 d (.xd [(fld, v)]))) : ([v] : List V).length ≤ 1000 ∧ ∀ a, H1 a = none → sp_errF C fld (V.ref a :: ([v] ++ [])) (upd H1 a (exo a C none))
    (fun v H2 => v = .non ∧ ∃ (d : Addr) (fs : List (Str × V)), H2 a = some (exo a C (some d)) ∧ H2 d = some (exd d fs) ∧ H1 d = none ∧ Q (.ref C) (some d) (upd (del H2 a) d (.xd fs))) (fun _ _ _ => False) := by
  refine ⟨by show 1 ≤ 1000; decide, fun a na => ⟨a, v, rfl, upd_same, fun dx nd ne => ⟨rfl, dx, [(fld, v)], upd_same, ?_, ?_, ?_⟩⟩⟩
  · rw [upd_ne ne, upd_same]
  · rw [upd_ne ne] at nd
    exact nd
  · rw [upd_ne ne] at nd
    have e : upd (del (upd (upd (upd H1 a (exo a C none)) dx (exd dx [(fld, v)])) a (exo a C (some dx))) a) dx (.xd [(fld, v)]) = upd H1 dx (.xd [(fld, v)]) := by
      funext b
      by_cases h1 : b = dx
      · rw [h1, upd_same, upd_same]
      · rw [upd_ne h1, upd_ne h1]
        by_cases h2 : b = a
        · rw [h2, del_same, na]
        · rw [del_ne h2, upd_ne h2, upd_ne h1, upd_ne h2]
    rw [e]
    exact h dx nd
end
/-! ### an error class, its facts -/
def NFo (qual : Str) (st : Stmt) (cc cda : Addr) : NdefX.NF := ⟨"__init__", qual, defArgs st, defBody st, defScope st, [(("__class__" : Str), cc)], cda⟩
structure ErrC (P : Program) (K : PySem.W.Frag) (mg : Str → Option Value) (nm qual : Str) (st : Stmt) (ps : List Str) (C f : Addr) (fd : FuncData) : Prop where
  g : mg nm = some (.ref C)
  all : ∃ (cc cda : Addr) (oc : Value) (od : Option Addr) (dV kV doc pm : Value) (an : Option Addr) (ctv : Value) (osl : Array (Option Value)), fd = PySem.W.fnX "__init__" qual (defArgs st) (defBody st) (defScope st) [(("__class__" : Str), cc)] dV kV doc pm an (.ref cda) ctv ∧
    K.lookup f = some ⟨oc, od, .func fd, osl⟩ ∧ PySem.W.codeIn K (.ref cda) qual = true ∧ SupC K mg P C f cc cda (NFo qual st cc cda)
  ex : OexC K C
  ic : PySem.W.findIn K (.ref C) "__init__" = some (some (.ref f))
  ti : PySem.W.typeIn K (.ref f) = some (.type "function")
  bi : Binds K fd ps []
  xc : ExcC K C
theorem err_mk {P : Program} {K : PySem.W.Frag} {mg : Str → Option Value} {nm qual : Str} {st : Stmt} {ps : List Str} {C f cc cda N : Addr} {n0 q0 : Str} {bs bm sub : List Value} {sn : List Str} {ab : Bool} {col : Option Bool} {dd : Option Addr} {k0 k1 k2 k3 k5 : Option Value}
    {cl : Value} {cld : Option Addr} {csl : Array (Option Value)} {ccl : Value} {cdd : Option Addr} {vs : Array Value} {ccs : Array (Option Value)} {file : Str} {tf : Tok} {oc : Value} {od : Option Addr} {dV kV doc pm : Value} {an : Option Addr} {ctv : Value} {osl : Array (Option Value)}
    (g : mg nm = some (.ref C)) (lc : K.lookup C = some (excClassObj n0 q0 C N bs bm true sn sub ab col dd k0 k1 k2 k3 k5 "ValueError.__new__")) (rv : PySem.HandSPX.refsVE bm = true) (sa : PySem.W.findIn K (.ref C) "__setattr__" = some (some (.builtin "object.__setattr__")))
    (ex : PySem.W.subIn K (.ref C) (.type "BaseException") = some true) (ty : PySem.W.typeIn K (.ref C) = some (.type "type")) (kp : PySem.W.keepIn K (.ref C) = true) (op : PySem.W.nsIn K cStatics "thirdparty.any" = some none)
    (su : PySem.W.ks_superIn K C C "__init__" = some (some (.builtin "ValueError.__init__"))) (sv : PySem.W.subIn K (.ref C) (.type "ValueError") = some true) (mr : PySem.W.mroIn K C (.ref C) = some true)
    (ce : K.lookup cc = some ⟨cl, cld, .cell (some (.ref C)), csl⟩) (co : K.lookup cda = some ⟨ccl, cdd, .fields vs, ccs⟩) (vf : vs[2]? = some (.str file tf)) (ff : ((P.main.file : Str) == file) = true)
    (lf : K.lookup f = some ⟨oc, od, .func (PySem.W.fnX "__init__" qual (defArgs st) (defBody st) (defScope st) [(("__class__" : Str), cc)] dV kV doc pm an (.ref cda) ctv), osl⟩) (cd : PySem.W.codeIn K (.ref cda) qual = true)
    (a : PySem.W.findIn K (.ref C) "__init__" = some (some (.ref f))) (t : PySem.W.typeIn K (.ref f) = some (.type "function")) (tp : (P.main.scope.names.lookup ("super" : Str)).isSome = false) (ns : mg "super" = none)
    (kd : (defScope st).kind = .function) (ks : (defScope st).names.lookup ("super" : Str) = some .globalImplicit) (kc : (defScope st).names.lookup ("__class__" : Str) = some .free) (ksf : (defScope st).names.lookup ("self" : Str) = some .local)
    (fst : ∃ ar : Arg, ((defArgs st).posonlyargs ++ (defArgs st).args).head? = some ar ∧ ar.arg = ("self" : Str))
    (bi : ∀ (us : List Value), us.length = ps.length → bindArgs (PySem.W.fnX "__init__" qual (defArgs st) (defBody st) (defScope st) [(("__class__" : Str), cc)] dV kV doc pm an (.ref cda) ctv) ⟨us, []⟩ = pure (ps.zip us))
    (ga : PySem.W.findIn K (.ref C) "__getattribute__" = some (some (.builtin "BaseException.__getattribute__"))) (gk : PySem.W.findIn K (.ref C) "__getattr__" = some none) (hd : PySem.W.hasDictIn K C = true) (ha : PySem.W.findIn K (.ref C) "__class__" = some (some (.builtin "object.__class__")))
    (hn : PySem.W.specialIn K (.builtin "object.__class__") "__get__" = some (some (.builtin "getset_descriptor.__get__"))) (ht : PySem.W.takesIn K (.builtin "object.__class__") = some true) (hm : PySem.W.mroIn K C (.type "object") = some true) :
    ErrC P K mg nm qual st ps C f (PySem.W.fnX "__init__" qual (defArgs st) (defBody st) (defScope st) [(("__class__" : Str), cc)] dV kV doc pm an (.ref cda) ctv) := by
  have oex : OexC K C := ⟨⟨_, _, _, _, _, _, _, _, _, _, _, _, _, _, _, lc, rv⟩, sa, ex, ty, kp⟩
  exact ⟨g, ⟨cc, cda, oc, od, dV, kV, doc, pm, an, ctv, osl, rfl, lf, cd, ⟨oex, op, su, sv, mr, ⟨_, _, _, ce⟩, ⟨_, _, _, _, _, _, co, vf, ff⟩, ⟨_, _, _, _, _, _, _, _, _, lf⟩, tp, ns, rfl, rfl, kd, ks, kc, ksf, fst⟩⟩, oex, a, t, .all bi, ⟨ga, gk, ex, hd, ha, hn, ht, hm⟩⟩
/-- isinstance(e, c) in a suite, e of a class without fields -/
def rIsG (K : PySem.W.Frag) (a : Addr) (cls : Value) (d : Option Addr) : List V → Hp → VK → Prop := fun xs H Q => ∃ D, cls = .ref D ∧ d = none ∧ ExcC K D ∧ rIsE K D a xs H Q
theorem call_isG {X : Cx} {a : Addr} {oe : Obj} {cls : Value} {d : Option Addr} {pn : List (Addr × Obj)} (hz : Zc cls d oe) (hf : ∃ vs, oe.data = .fields vs) : CallR (X.suite a ((a, oe) :: pn)) (.builtin "isinstance") (rIsG X.K a cls d) := by
  rintro pins s σ H xs us Q I r ⟨D, rfl, rfl, C, h⟩
  exact call_isE C hz hf pins s σ H xs us Q I r h
end
/-! ### things of any kind -/
structure KitC (K : PySem.W.Frag) (C : Addr) : Prop where
  cl : Cls K C
  ty : InsT K C
  i : PySem.W.kitOne K (.ref C) (.type "int") = some false
  b : PySem.W.kitOne K (.ref C) (.type "bool") = some false
  t : PySem.W.kitOne K (.ref C) (.type "tuple") = some false
  l : PySem.W.kitOne K (.ref C) (.type "list") = some false
/-- a thing that is looked at so deep; its address is not z -/
inductive Th (C z : Addr) (H : Hp) : Nat → V → Prop
  | int (n : Nat) (i : Int) : Th C z H n (.int i)
  | bl (n : Nat) (b : Bool) : Th C z H n (.bl b)
  | non (n : Nat) : Th C z H n .non
  | str (n : Nat) (x : Str) : Th C z H n (.str x)
  | lst (n : Nat) (a : Addr) (xs : List V) : a ≠ z → H a = some (.lst xs) → Th C z H n (.ref a)
  | dK (n : Nat) (a : Addr) (xs : List (Key × V)) : a ≠ z → H a = some (.dK xs) → Th C z H n (.ref a)
  | ins (n : Nat) (a dx : Addr) (fs : List (Str × V)) : a ≠ z → H a = some (.ins C dx fs) → Th C z H n (.ref a)
  | tup0 (a : Addr) (xs : List V) : a ≠ z → H a = some (.tup xs) → Th C z H 0 (.ref a)
  | tup (n : Nat) (a : Addr) (xs : List V) : a ≠ z → H a = some (.tup xs) → xs.length ≤ 1000 → (∀ x ∈ xs, Th C z H n x) → Th C z H (n + 1) (.ref a)
section
variable {C z : Addr} {H H' : Hp} {K : PySem.W.Frag}
theorem Th.keep {n : Nat} {v : V} (h : Th C z H n v) (k : ∀ a o, a ≠ z → H a = some o → H' a = some o) : Th C z H' n v := by
  induction h with
  | int n i => exact .int n i
  | bl n b => exact .bl n b
  | non n => exact .non n
  | str n x => exact .str n x
  | lst n a xs h1 h2 => exact .lst n a xs h1 (k _ _ h1 h2)
  | dK n a xs h1 h2 => exact .dK n a xs h1 (k _ _ h1 h2)
  | ins n a dx fs h1 h2 => exact .ins n a dx fs h1 (k _ _ h1 h2)
  | tup0 a xs h1 h2 => exact .tup0 a xs h1 (k _ _ h1 h2)
  | tup n a xs h1 h2 h3 _ ih => exact .tup n a xs h1 (k _ _ h1 h2) h3 ih
theorem Th.same {n : Nat} {v : V} (h : Th C z H n v) (s : Same H H') : Th C z H' n v := h.keep fun a o _ e => s a o e
theorem Th.mv {τ : Tp} {n : Nat} {v : V} (h : Th C τ.t H n v) (m : Mv τ H H') : Th C τ.t H' n v := h.keep m.keep
theorem Th.down {n : Nat} {v : V} (h : Th C z H (n + 1) v) : Th C z H n v := by
  generalize e : n + 1 = m at h
  induction h generalizing n with
  | int _ i => exact .int n i
  | bl _ b => exact .bl n b
  | non _ => exact .non n
  | str _ x => exact .str n x
  | lst _ a xs h1 h2 => exact .lst n a xs h1 h2
  | dK _ a xs h1 h2 => exact .dK n a xs h1 h2
  | ins _ a dx fs h1 h2 => exact .ins n a dx fs h1 h2
  | tup0 a xs h1 h2 => cases e
  | tup m a xs h1 h2 h3 h4 ih =>
    obtain rfl : n = m := by omega
    cases n with
    | zero => exact .tup0 a xs h1 h2
    | succ n => exact .tup n a xs h1 h2 h3 fun x hx => ih x hx rfl
theorem Th.intK (kc : KitC K C) {n : Nat} {v : V} (h : Th C z H n v) : IntK K H v := by
  cases h with
  | int _ i => exact .int i
  | bl _ b => exact .bl b
  | non _ => exact .non
  | str _ x => exact .str x
  | lst _ a xs h1 h2 => exact .lst h2
  | dK _ a xs h1 h2 => exact .dK h2
  | ins _ a dx fs h1 h2 => exact ⟨_, false, false, .base (.ins h2 kc.cl kc.ty.ha kc.ty.hn kc.ty.htk kc.ty.hm), kc.i, kc.b, rfl⟩
  | tup0 a xs h1 h2 => exact .tup h2
  | tup m a xs h1 h2 h3 h4 => exact .tup h2
theorem Th.ty (kc : KitC K C) {n : Nat} {v : V} (h : Th C z H (n + 1) v) : ∃ (t : Value) (bt : Bool), TyX K H v t ∧ PySem.W.kitOne K t (.type "tuple") = some bt ∧
    ((bt = false ∧ ∀ a xs, v = .ref a → H a ≠ some (.tup xs)) ∨ ∃ a xs, v = .ref a ∧ H a = some (.tup xs) ∧ bt = true ∧ xs.length ≤ 1000 ∧ ∀ x ∈ xs, Th C z H n x) := by
  cases h with
  | int _ i => exact ⟨_, false, .base (.int i), kit_ty (by decide +kernel), .inl ⟨rfl, fun a xs e => by cases e⟩⟩
  | bl _ b => exact ⟨_, false, .base (.bl b), kit_ty (by decide +kernel), .inl ⟨rfl, fun a xs e => by cases e⟩⟩
  | non _ => exact ⟨_, false, .base .non, kit_ty (by decide +kernel), .inl ⟨rfl, fun a xs e => by cases e⟩⟩
  | str _ x => exact ⟨_, false, .base (.str x), kit_ty (by decide +kernel), .inl ⟨rfl, fun a xs e => by cases e⟩⟩
  | lst _ a xs h1 h2 => exact ⟨_, false, .base (.lst h2), kit_ty (by decide +kernel), .inl ⟨rfl, fun a xs e => by cases e; rw [h2]; intro z; cases z⟩⟩
  | dK _ a xs h1 h2 => exact ⟨_, false, .base (.dK h2), kit_ty (by decide +kernel), .inl ⟨rfl, fun a xs e => by cases e; rw [h2]; intro z; cases z⟩⟩
  | ins _ a dx fs h1 h2 => exact ⟨_, false, .base (.ins h2 kc.cl kc.ty.ha kc.ty.hn kc.ty.htk kc.ty.hm), kc.t, .inl ⟨rfl, fun a xs e => by cases e; rw [h2]; intro z; cases z⟩⟩
  | tup m a xs h1 h2 h3 h4 => exact ⟨_, true, .base (.tup h2), kit_ty (by decide +kernel), .inr ⟨a, xs, rfl, h2, rfl, h3, h4⟩⟩
end
/-! ### list.count(a flag), a call of an item of a list of defs -/
section
open PySem.Spec PyProof.Rows
variable {X : Cx}
def rCntB (K : PySem.W.Frag) : V → List V → Hp → VK → Prop := fun x xs H Q => ∃ (p : Addr) (bs : List Bool) (b : Bool), x = .ref p ∧ xs = [.bl b] ∧ SqL K H p (bs.map V.bl) ∧ bs.length ≤ 1000 ∧ Q (.int (bs.count b : Nat)) H
theorem dp_bools {K : PySem.W.Frag} {H : Hp} : ∀ bs : List Bool, DpAll K H (bs.map V.bl) (bs.map PyData.bool)
  | [] => .nil
  | b :: r => .cons (.bl b) (dp_bools r)
theorem mt_cntB (hu : X.A.units + 64 < cLine) : MtR X "list.count" (rCntB X.K) := by
  intro pins s σ H x xs v us Q I rx rxs h
  obtain ⟨p, bs, b, rfl, rfl, hs, hl, q⟩ := h
  cases rx
  obtain ⟨u, rfl, ru⟩ := rxs.one
  obtain ⟨its, rv, hl, hz⟩ := I.list hs
  obtain ⟨as, ra⟩ := Dp.readsAll I (bs.map PyData.bool) _ its (dp_bools bs) rv
  obtain ⟨cs, rb⟩ := Dp.reads I (.bool b) (.bl b) u (.bl b) ru
  refine PySem.W.count_list_datum (xs := bs) (x := b) hl.isList ⟨as, ra⟩ ⟨cs, rb⟩ (by show X.A.units + 1 + 0 < cLine; omega) ⟨.int (bs.count b : Nat), H, I.tok _, ⟨s.toks, ?_⟩, q⟩
  have e : (bs.countP fun y => decide (y = b)) = bs.count b := by
    unfold List.count
    congr 1
  rw [e]
theorem pe_bmK {K : PySem.W.Frag} {o e : Expr} {es : List Expr} {to : TE} {t : TA} {name : Str} {apos cpos : Pos} {T id : String} {r : V → List V → Hp → VK → Prop} (hK : X.K = K) (pa : PlainAttrs T) (slot : Slot T name id) (hty : typeOf (.builtin id) = pure (.type "method_descriptor")) (hm : MtR X id r) (ho : PE X o to) (ha : PA X (e :: es) t)
    (hbase : attributeBase o name X.env (eval o X.env) = eval o X.env := by rfl)
    (hfew : ((backTo cpos (starEach (e :: es) X.env)).all (fun x => !x.1) && (backToKw cpos (keywordEach [] X.env)).all (fun x => x.1.isSome)
      && decide ((e :: es).length + ([] : List Keyword).length + (if ([] : List Keyword).isEmpty then 0 else 1) < 30)) = true := by rfl)
    (hline : (apos.endLine == cpos.line) = true := by rfl) (hs : starEach (e :: es) X.env = (false, eval e X.env) :: starEach es X.env := by rfl) (hplain : (backTo cpos (starEach es X.env)).any (·.1) = false := by rfl) :
    PE X (.Call (.Attribute o name apos) (e :: es) [] cpos) (tBM K T r to t) := by
  subst hK
  exact pe_bm pa slot hty hm ho ha hbase hfew hline hs hplain
def tCallE (S : Addr → Sp → Prop) (E : L2.St → XK) (tf : TE) (t : TA) : TE := fun σ H Q => tf σ H fun y H1 => ∃ f sp, y = .ref f ∧ S f sp ∧ t σ H1 fun vs H2 => sp vs H2 Q (E σ)
theorem pe_callE {CX : CXT} {S : Addr → Sp → Prop} {E : L2.St → XK} {tf : TE} {t : TA} {fe e : Expr} {es : List Expr} {pos : Pos}
    (A : ∀ f sp, S f sp → ∃ (k : Nat) (fd : FuncData) (ps : List Str), FnOk X.prog X.w X.K X.mg X.base CX k f fd ps sp ∧ Room k X.A ∧ PySem.W.keepIn X.K (.ref f) = true ∧ Binds X.K fd ps []) (hx : ∀ σ, PassesAt CX X σ (E σ)) (hf : PE X fe tf) (ha : PA X (e :: es) t)
    (ht : eval (.Call fe (e :: es) [] pos) X.env = (do callWith pos (← eval fe X.env) [] (backTo pos (starEach (e :: es) X.env)) (backToKw pos (keywordEach [] X.env))) := by rfl)
    (he : starEach (e :: es) X.env = (false, eval e X.env) :: starEach es X.env := by rfl) (hpl : (backTo pos (starEach es X.env)).any (·.1) = false := by rfl) : PE X (.Call fe (e :: es) [] pos) (tCallE S E tf t) := by
  refine ⟨fun pins s σ H Q I h => ?_⟩
  refine Call_ (thn (hf.run pins s σ H _ I h) fun u s1 ⟨y, H1, I1, ry, f, sp, ey, hS, q⟩ => ?_) ht
  subst ey
  obtain rfl : u = Value.ref f := ry
  obtain ⟨k, fd, ps, F, hr, hk, hb⟩ := A f sp hS
  refine PySem.W.callWith_K (h₀ := X.base) I1.ok.mod.kin hk (thn (ha.run pos pins s1 σ H1 _ I1 q) fun us s2 ⟨vs, H2, I2, r, q2⟩ => ⟨I2.kIn, ?_⟩) he hpl
  exact run_fnS F hr hb (hx σ) I2 r q2
end
structure Top (P : Program) (K : PySem.W.Frag) (mg : Str → Option Value) where
  C_KindError : Addr
  g_KindError : mg "KindError" = some (.ref C_KindError)
  C_NoScheme : Addr
  f_NoScheme___init__ : Addr
  fd_NoScheme___init__ : FuncData
  er_NoScheme : ErrC P K mg "NoScheme" "NoScheme.__init__" s_NoScheme___init__ ["self"] C_NoScheme f_NoScheme___init__ fd_NoScheme___init__
  C_NoKind : Addr
  f_NoKind___init__ : Addr
  fd_NoKind___init__ : FuncData
  er_NoKind : ErrC P K mg "NoKind" "NoKind.__init__" s_NoKind___init__ ["self"] C_NoKind f_NoKind___init__ fd_NoKind___init__
  xm_NoScheme_KindError : PySem.W.exmOne K (.ref C_NoScheme) (.ref C_KindError) = some true
  xm_NoKind_KindError : PySem.W.exmOne K (.ref C_NoKind) (.ref C_KindError) = some true
  kt_NoScheme_NoScheme : PySem.W.kitOne K (.ref C_NoScheme) (.ref C_NoScheme) = some true
  kt_NoScheme_NoKind : PySem.W.kitOne K (.ref C_NoScheme) (.ref C_NoKind) = some false
  kt_NoKind_NoScheme : PySem.W.kitOne K (.ref C_NoKind) (.ref C_NoScheme) = some false
  kt_NoKind_NoKind : PySem.W.kitOne K (.ref C_NoKind) (.ref C_NoKind) = some true
  kt_NoScheme_ValueError : PySem.W.kitOne K (.ref C_NoScheme) (.type "ValueError") = some true
  kt_NoKind_ValueError : PySem.W.kitOne K (.ref C_NoKind) (.type "ValueError") = some true
  C_Book : Addr
  g_Book : mg "Book" = some (.ref C_Book)
  cl_Book : Cls K C_Book
  ty_Book : InsT K C_Book
  n_Book_parents : NoAttr K C_Book "parents"
  n_Book_bits : NoAttr K C_Book "bits"
  kt_Book_int : PySem.W.kitOne K (.ref C_Book) (.type "int") = some false
  kt_Book_bool : PySem.W.kitOne K (.ref C_Book) (.type "bool") = some false
  kt_Book_tuple : PySem.W.kitOne K (.ref C_Book) (.type "tuple") = some false
  kt_Book_list : PySem.W.kitOne K (.ref C_Book) (.type "list") = some false
  c_MOST_KINDS : ∃ t, mg "MOST_KINDS" = some (.int 400 t)
  c_MOST_PARENTS : ∃ t, mg "MOST_PARENTS" = some (.int 6 t)
  f_is_integer : Addr
  fd_is_integer : FuncData
  F_is_integer : Fun K "is_integer" "is_integer" s_is_integer f_is_integer fd_is_integer
  b_is_integer : Binds K fd_is_integer ["thing"] []
  g_is_integer : mg "is_integer" = some (.ref f_is_integer)
  f_is_within : Addr
  fd_is_within : FuncData
  F_is_within : Fun K "is_within" "is_within" s_is_within f_is_within fd_is_within
  b_is_within : Binds K fd_is_within ["thing", "least", "most"] []
  g_is_within : mg "is_within" = some (.ref f_is_within)
  f_is_lot : Addr
  fd_is_lot : FuncData
  F_is_lot : Fun K "is_lot" "is_lot" s_is_lot f_is_lot fd_is_lot
  b_is_lot : Binds K fd_is_lot ["thing", "many"] []
  g_is_lot : mg "is_lot" = some (.ref f_is_lot)
  f_are_parents : Addr
  fd_are_parents : FuncData
  F_are_parents : Fun K "are_parents" "are_parents" s_are_parents f_are_parents fd_are_parents
  b_are_parents : Binds K fd_are_parents ["thing", "number"] []
  g_are_parents : mg "are_parents" = some (.ref f_are_parents)
  f_Book_fill : Addr
  fd_Book_fill : FuncData
  F_Book_fill : Fun K "fill" "Book.fill" s_Book_fill f_Book_fill fd_Book_fill
  b_Book_fill : Binds K fd_Book_fill ["self", "parents"] []
  m_Book_fill : Meth K C_Book "fill" f_Book_fill
  f_Book___init__ : Addr
  fd_Book___init__ : FuncData
  F_Book___init__ : Fun K "__init__" "Book.__init__" s_Book___init__ f_Book___init__ fd_Book___init__
  b_Book___init__ : Binds K fd_Book___init__ ["self", "parents"] []
  m_Book___init__ : Meth K C_Book "__init__" f_Book___init__
  M_Book : Mk K C_Book f_Book___init__
  f_is_triple : Addr
  fd_is_triple : FuncData
  F_is_triple : Fun K "is_triple" "is_triple" s_is_triple f_is_triple fd_is_triple
  b_is_triple : Binds K fd_is_triple ["thing"] []
  g_is_triple : mg "is_triple" = some (.ref f_is_triple)
  f_check_kind_of : Addr
  fd_check_kind_of : FuncData
  F_check_kind_of : Fun K "check_kind_of" "check_kind_of" s_check_kind_of f_check_kind_of fd_check_kind_of
  b_check_kind_of : Binds K fd_check_kind_of ["thing", "many"] []
  g_check_kind_of : mg "check_kind_of" = some (.ref f_check_kind_of)
  f_is_given : Addr
  fd_is_given : FuncData
  F_is_given : Fun K "is_given" "is_given" s_is_given f_is_given fd_is_given
  b_is_given : Binds K fd_is_given ["thing"] []
  g_is_given : mg "is_given" = some (.ref f_is_given)
  f_has_form : Addr
  fd_has_form : FuncData
  F_has_form : Fun K "has_form" "has_form" s_has_form f_has_form fd_has_form
  b_has_form : Binds K fd_has_form ["thing"] []
  g_has_form : mg "has_form" = some (.ref f_has_form)
  f_check_scheme : Addr
  fd_check_scheme : FuncData
  F_check_scheme : Fun K "check_scheme" "check_scheme" s_check_scheme f_check_scheme fd_check_scheme
  b_check_scheme : Binds K fd_check_scheme ["thing"] []
  g_check_scheme : mg "check_scheme" = some (.ref f_check_scheme)
  f_told : Addr
  fd_told : FuncData
  F_told : Fun K "told" "told" s_told f_told fd_told
  b_told : Binds K fd_told ["scheme", "x", "p"] []
  g_told : mg "told" = some (.ref f_told)
  f_check_kinds : Addr
  fd_check_kinds : FuncData
  F_check_kinds : Fun K "check_kinds" "check_kinds" s_check_kinds f_check_kinds fd_check_kinds
  b_check_kinds : Binds K fd_check_kinds ["scheme", "some"] []
  g_check_kinds : mg "check_kinds" = some (.ref f_check_kinds)
  f_told_lot : Addr
  fd_told_lot : FuncData
  F_told_lot : Fun K "told_lot" "told_lot" s_told_lot f_told_lot fd_told_lot
  b_told_lot : Binds K fd_told_lot ["scheme", "some"] []
  g_told_lot : mg "told_lot" = some (.ref f_told_lot)
  f_lot_of : Addr
  fd_lot_of : FuncData
  F_lot_of : Fun K "lot_of" "lot_of" s_lot_of f_lot_of fd_lot_of
  b_lot_of : Binds K fd_lot_of ["scheme", "x"] []
  g_lot_of : mg "lot_of" = some (.ref f_lot_of)
  f_common : Addr
  fd_common : FuncData
  F_common : Fun K "common" "common" s_common f_common fd_common
  b_common : Binds K fd_common ["scheme", "x", "y"] []
  g_common : mg "common" = some (.ref f_common)
  f_meet : Addr
  fd_meet : FuncData
  F_meet : Fun K "meet" "meet" s_meet f_meet fd_meet
  b_meet : Binds K fd_meet ["scheme", "x", "y"] []
  g_meet : mg "meet" = some (.ref f_meet)
  f__law_hand : Addr
  fd__law_hand : FuncData
  F__law_hand : Fun K "_law_hand" "_law_hand" s__law_hand f__law_hand fd__law_hand
  b__law_hand : Binds K fd__law_hand ["_law_script"] []
  g__law_hand : mg "_law_hand" = some (.ref f__law_hand)
  f__law_draw : Addr
  fd__law_draw : FuncData
  F__law_draw : Fun K "_law_draw" "_law_draw" s__law_draw f__law_draw fd__law_draw
  b__law_draw : Binds K fd__law_draw ["_law_hand_here", "_law_many"] []
  g__law_draw : mg "_law_draw" = some (.ref f__law_draw)
  f__law_deep : Addr
  fd__law_deep : FuncData
  F__law_deep : Fun K "_law_deep" "_law_deep" s__law_deep f__law_deep fd__law_deep
  b__law_deep : Binds K fd__law_deep ["_law_hand_here"] []
  g__law_deep : mg "_law_deep" = some (.ref f__law_deep)
  f__law_word : Addr
  fd__law_word : FuncData
  F__law_word : Fun K "_law_word" "_law_word" s__law_word f__law_word fd__law_word
  b__law_word : Binds K fd__law_word ["_law_which", "_law_scheme", "_law_x", "_law_y"] []
  g__law_word : mg "_law_word" = some (.ref f__law_word)
  f__law_is_whole : Addr
  fd__law_is_whole : FuncData
  F__law_is_whole : Fun K "_law_is_whole" "_law_is_whole" s__law_is_whole f__law_is_whole fd__law_is_whole
  b__law_is_whole : Binds K fd__law_is_whole ["_law_thing"] []
  g__law_is_whole : mg "_law_is_whole" = some (.ref f__law_is_whole)
  f__law_has_form : Addr
  fd__law_has_form : FuncData
  F__law_has_form : Fun K "_law_has_form" "_law_has_form" s__law_has_form f__law_has_form fd__law_has_form
  b__law_has_form : Binds K fd__law_has_form ["_law_thing"] []
  g__law_has_form : mg "_law_has_form" = some (.ref f__law_has_form)
  f__law_odd : Addr
  fd__law_odd : FuncData
  F__law_odd : Fun K "_law_odd" "_law_odd" s__law_odd f__law_odd fd__law_odd
  b__law_odd : Binds K fd__law_odd ["_law_hand_here"] []
  g__law_odd : mg "_law_odd" = some (.ref f__law_odd)
  f__law_parents : Addr
  fd__law_parents : FuncData
  F__law_parents : Fun K "_law_parents" "_law_parents" s__law_parents f__law_parents fd__law_parents
  b__law_parents : Binds K fd__law_parents ["_law_hand_here", "_law_many", "_law_most"] []
  g__law_parents : mg "_law_parents" = some (.ref f__law_parents)
  f__law_any_scheme : Addr
  fd__law_any_scheme : FuncData
  F__law_any_scheme : Fun K "_law_any_scheme" "_law_any_scheme" s__law_any_scheme f__law_any_scheme fd__law_any_scheme
  b__law_any_scheme : Binds K fd__law_any_scheme ["_law_hand_here", "_law_many"] []
  g__law_any_scheme : mg "_law_any_scheme" = some (.ref f__law_any_scheme)
  f__law_sheet : Addr
  fd__law_sheet : FuncData
  F__law_sheet : Fun K "_law_sheet" "_law_sheet" s__law_sheet f__law_sheet fd__law_sheet
  b__law_sheet : Binds K fd__law_sheet ["_law_parents_here"] []
  g__law_sheet : mg "_law_sheet" = some (.ref f__law_sheet)
  f__law_dealt : Addr
  fd__law_dealt : FuncData
  F__law_dealt : Fun K "_law_dealt" "_law_dealt" s__law_dealt f__law_dealt fd__law_dealt
  b__law_dealt : Binds K fd__law_dealt ["_law_hand_here", "_law_sheet_here"] []
  g__law_dealt : mg "_law_dealt" = some (.ref f__law_dealt)
  f__law_right_scheme : Addr
  fd__law_right_scheme : FuncData
  F__law_right_scheme : Fun K "_law_right_scheme" "_law_right_scheme" s__law_right_scheme f__law_right_scheme fd__law_right_scheme
  b__law_right_scheme : Binds K fd__law_right_scheme ["_law_hand_here", "_law_sheet_here"] []
  g__law_right_scheme : mg "_law_right_scheme" = some (.ref f__law_right_scheme)
  f__law_bent : Addr
  fd__law_bent : FuncData
  F__law_bent : Fun K "_law_bent" "_law_bent" s__law_bent f__law_bent fd__law_bent
  b__law_bent : Binds K fd__law_bent ["_law_hand_here", "_law_scheme"] []
  g__law_bent : mg "_law_bent" = some (.ref f__law_bent)
  f_law : Addr
  fd_law : FuncData
  F_law : Fun K "law" "law" s_law f_law fd_law
  b_law : Binds K fd_law ["_law_script"] []
  g_law : mg "law" = some (.ref f_law)
  z_ValueError : mg "ValueError" = none
  z_abs : mg "abs" = none
  z_all : mg "all" = none
  z_bool : mg "bool" = none
  z_enumerate : mg "enumerate" = none
  z_int : mg "int" = none
  z_isinstance : mg "isinstance" = none
  z_len : mg "len" = none
  z_list : mg "list" = none
  z_min : mg "min" = none
  z_range : mg "range" = none
  z_set : mg "set" = none
  z_sorted : mg "sorted" = none
  z_tuple : mg "tuple" = none
  z_zip : mg "zip" = none
section
variable {P : Program} {w : World} {K : PySem.W.Frag} {mg : Str → Option Value} {base : Heap}
theorem ok_NoScheme___init__ (T : Top P K mg) : FnOk P w K mg base CX0 1 T.f_NoScheme___init__ T.fd_NoScheme___init__ ["self"] (sp_err T.C_NoScheme) := by
  obtain ⟨cc, cda, oc, od, dV, kV, doc, pm, an, ctv, osl, efd, lk, hcd, sup⟩ := T.er_NoScheme.all
  rw [efd] at lk ⊢
  exact sup_fn (k := 0) (N := ["self", "__class__"]) (F := NFo "NoScheme.__init__" s_NoScheme___init__ cc cda) lk hcd sup (NdefX.nscope_by (sc := defScope s_NoScheme___init__) (by decide +kernel)) rfl (fun vs H Q E h => by obtain ⟨a, rfl, _⟩ := h; rfl) rfl (fun L => rfl) (fun L => rfl) (fun L => rfl) (by kernel_rfl) (fun A outer s H vs Q E hr h => by
    obtain ⟨a, rfl, ha, k⟩ := h
    exact ⟨a, rfl, ha, _, pss_nil, k⟩)
theorem ok_NoKind___init__ (T : Top P K mg) : FnOk P w K mg base CX0 1 T.f_NoKind___init__ T.fd_NoKind___init__ ["self"] (sp_err T.C_NoKind) := by
  obtain ⟨cc, cda, oc, od, dV, kV, doc, pm, an, ctv, osl, efd, lk, hcd, sup⟩ := T.er_NoKind.all
  rw [efd] at lk ⊢
  exact sup_fn (k := 0) (N := ["self", "__class__"]) (F := NFo "NoKind.__init__" s_NoKind___init__ cc cda) lk hcd sup (NdefX.nscope_by (sc := defScope s_NoKind___init__) (by decide +kernel)) rfl (fun vs H Q E h => by obtain ⟨a, rfl, _⟩ := h; rfl) rfl (fun L => rfl) (fun L => rfl) (fun L => rfl) (by kernel_rfl) (fun A outer s H vs Q E hr h => by
    obtain ⟨a, rfl, ha, k⟩ := h
    exact ⟨a, rfl, ha, _, pss_nil, k⟩)
/-! is_integer -/
def sp_is_integer (K : PySem.W.Frag) : Sp := fun vs H Q _ => ∃ v, vs = [v] ∧ IntK K H v ∧ Q (.bl (isIntB v)) H
theorem sc_is_integer : FnScope ["thing"] ["thing"] (defScope s_is_integer) := ⟨rfl, rfl, rfl, by decide +kernel, rfl, by decide +kernel, by decide +kernel⟩
theorem ok_is_integer (T : Top P K mg) : FnOk P w K mg base CX0 1 T.f_is_integer T.fd_is_integer ["thing"] (sp_is_integer K) := by
  refine T.F_is_integer.ok sc_is_integer (fun vs H Q E h => ?_) (fun cdv A outer s H vs Q E hr h => ?_)
  · obtain ⟨v, rfl, _⟩ := h
    rfl
  · obtain ⟨v, rfl, ⟨t, bi, bb, ht, hi, hb, e⟩, k⟩ := h
    refine ⟨_, (pss_one (ps_ret (pe_and (pe_callB (r := rIsi K) (id := "isinstance") call_isi (by rfl) T.z_isinstance (by decide +kernel) (pa_cons (pv 0) (pa_cons (pe_bltn (v := .ty "int") (u := .type "int") (by rfl) T.z_int (by decide +kernel) rfl) pa_nil))) (pe_one (pe_not (pe_callB (r := rIsi K) (id := "isinstance") call_isi (by rfl) T.z_isinstance (by decide +kernel) (pa_cons (pv 0) (pa_cons (pe_bltn (v := .ty "bool") (u := .type "bool") (by rfl) T.z_bool (by decide +kernel) rfl) pa_nil)))))))), ?_⟩
    tm_at "w"
    cases bi with
    | false =>
      rw [← e] at k
      tm_at "w"
      exact k
    | true =>
      rw [← e] at k
      tm_at "w"
      exact k
/-! is_within -/
def sp_is_within (K : PySem.W.Frag) : Sp := fun vs H Q _ => ∃ (v : V) (lo hi : Int), vs = [v, .int lo, .int hi] ∧ IntK K H v ∧ Q (.bl (withinB v lo hi)) H
theorem sc_is_within : FnScope ["thing", "least", "most"] ["thing", "least", "most"] (defScope s_is_within) := ⟨rfl, rfl, rfl, by decide +kernel, rfl, by decide +kernel, by decide +kernel⟩
theorem ok_is_within (T : Top P K mg) : FnOk P w K mg base CX0 2 T.f_is_within T.fd_is_within ["thing", "least", "most"] (sp_is_within K) := by
  have G_is_integer := ok_is_integer (P := P) (w := w) (base := base) T
  refine T.F_is_within.ok sc_is_within (fun vs H Q E h => ?_) (fun cdv A outer s H vs Q E hr h => ?_)
  · obtain ⟨v, lo, hi, rfl, _⟩ := h
    rfl
  · obtain ⟨v, lo, hi, rfl, hk, k⟩ := h
    refine ⟨_, (pss_one (ps_ret (pe_and (pe_call G_is_integer hr (by rfl) T.g_is_integer T.F_is_integer.kp T.b_is_integer .nil pass0 (pa_cons (pv 0) pa_nil)) (pe_one (pe_chain op_le op_le (pv 1) (pv 0) (pv 2)))))), ?_⟩
    refine ⟨v, rfl, v, rfl, hk, _, rfl, ?_⟩
    cases v with
    | int i =>
      refine iteT ?_
      tm_at "w"
      refine iteD (fun h1 => ?_) (fun h1 => ?_)
      · tm_at "w"
        have e : withinB (.int i) lo hi = decide (i ≤ hi) := by
          show (decide (lo ≤ i) && decide (i ≤ hi)) = _
          rw [decide_eq_true h1, Bool.true_and]
        rw [e] at k
        exact k
      · have e : withinB (.int i) lo hi = false := by
          show (decide (lo ≤ i) && decide (i ≤ hi)) = _
          rw [decide_eq_false h1, Bool.false_and]
        rw [e] at k
        exact k
    | _ =>
      refine iteF ?_
      exact k
/-! is_lot -/
/-- an ascending run of whole numbers above last, below m -/
def lotFrom (m : Int) : Int → List V → Bool
  | _, [] => true
  | last, x :: r => withinB x (last + 1) (m - 1) && lotFrom m (match x with | .int i => i | _ => 0) r
def sp_is_lot (K : PySem.W.Frag) : Sp := fun vs H Q _ => ∃ (v : V) (t : Value) (bt : Bool) (m : Int), vs = [v, .int m] ∧ TyX K H v t ∧ PySem.W.kitOne K t (.type "tuple") = some bt ∧
  ((bt = false ∧ Q (.bl false) H) ∨ ∃ (a : Addr) (xs : List V), v = .ref a ∧ H a = some (.tup xs) ∧ bt = true ∧ (∀ x ∈ xs, IntK K H x) ∧ Q (.bl (lotFrom m (-1) xs)) H)
theorem sc_is_lot : FnScope ["thing", "many", "last", "item"] ["thing", "many"] (defScope s_is_lot) := ⟨rfl, rfl, rfl, by decide +kernel, rfl, by decide +kernel, by decide +kernel⟩
theorem ok_is_lot (T : Top P K mg) : FnOk P w K mg base CX0 3 T.f_is_lot T.fd_is_lot ["thing", "many"] (sp_is_lot K) := by
  have G_is_within := ok_is_within (P := P) (w := w) (base := base) T
  refine T.F_is_lot.ok sc_is_lot (fun vs H Q E h => ?_) (fun cdv A outer s H vs Q E hr h => ?_)
  · obtain ⟨v, t, bt, m, rfl, _⟩ := h
    rfl
  · obtain ⟨v, t, bt, m, rfl, ht, hb, hh⟩ := h
    refine ⟨_, (pss_cons (ps_if (pt_not (pt_val (pe_callB (r := rIsi K) (id := "isinstance") call_isi (by rfl) T.z_isinstance (by decide +kernel) (pa_cons (pv 0) (pa_cons (pe_bltn (v := .ty "tuple") (u := .type "tuple") (by rfl) T.z_tuple (by decide +kernel) rfl) pa_nil))))) (pss_one (ps_ret pe_bl)) pss_nil)
      (pss_cons (ps_set (i := 2) sc_is_lot.nd rfl (Or.inl rfl) (pe_un un_neg pe_int))
      (pss_cons (ps_for PassesOwn.never rfl (pi_tup (pv 0)) (pg_name (i := 3) sc_is_lot.nd rfl (Or.inl rfl))
      (pss_cons (ps_if (pt_not (pt_val (pe_call G_is_within hr (by rfl) T.g_is_within T.F_is_within.kp T.b_is_within .nil pass0 (pa_cons (pv 3) (pa_cons (pe_op op_add (pv 2) pe_int) (pa_cons (pe_op op_sub (pv 1) pe_int) pa_nil)))))) (pss_one (ps_ret pe_bl)) pss_nil)
      (pss_one (ps_set (i := 2) sc_is_lot.nd rfl (Or.inl rfl) (pv 3)))))
      (pss_one (ps_ret pe_bl))))), ?_⟩
    tm_at "w"
    rcases hh with ⟨rfl, k⟩ | ⟨a, xs, rfl, ha, rfl, hi, k⟩
    · tm_at "w"
      exact k
    · tm_at "w"
      refine ⟨⟨_, SqT.of ha⟩, for_tup (K := K) (a := a) (xs := xs) (fun i σ H' => ∃ (last : Int) (x : Option V), σ = [some (.ref a), some (.int m), some (.int last), x] ∧ H' = H ∧ lotFrom m last (xs.drop i) = lotFrom m (-1) xs) ?_ ?_ ?_ ?_⟩
      · exact ⟨-1, none, rfl, rfl, rfl⟩
      · rintro i σ H' _ ⟨_, _, _, rfl, _⟩
        exact SqT.of ha
      · rintro i x σ H' hx ⟨last, y, rfl, rfl, e⟩
        have il := (List.getElem?_eq_some_iff.mp hx).1
        have hd : xs.drop i = x :: xs.drop (i + 1) := by
          rw [List.drop_eq_getElem_cons il]
          rw [List.getElem?_eq_getElem il] at hx
          rw [Option.some.inj hx]
        rw [hd] at e
        tm_at "w"
        refine ⟨_, _, _, rfl, hi x (List.mem_of_getElem? hx), ?_⟩
        tm_at "w"
        refine iteB (fun h => ?_) (fun h => ?_)
        · have h2 : withinB x (last + 1) (m - 1) = false := by simpa using h
          have e2 : lotFrom m (-1) xs = false := by
            rw [← e]
            show (withinB x (last + 1) (m - 1) && _) = false
            rw [h2]
            rfl
          rw [e2] at k
          tm_at "w"
          exact k
        · have h2 : withinB x (last + 1) (m - 1) = true := by simpa using h
          cases x with
          | int z =>
            tm_at "w"
            rw [← e]
            show _ = (withinB (.int z) (last + 1) (m - 1) && lotFrom m z (xs.drop (i + 1)))
            rw [h2, Bool.true_and]
          | _ => cases h2
      · rintro σ H' ⟨last, y, rfl, rfl, e⟩
        rw [List.drop_length] at e
        rw [← e] at k
        tm_at "w"
        exact k
/-! are_parents -/
def sp_are_parents (K : PySem.W.Frag) : Sp := fun vs H Q _ => ∃ (v : V) (t : Value) (bt : Bool) (m : Int), vs = [v, .int m] ∧ TyX K H v t ∧ PySem.W.kitOne K t (.type "tuple") = some bt ∧
  ((bt = false ∧ Q (.bl false) H) ∨ ∃ (a : Addr) (xs : List V), v = .ref a ∧ H a = some (.tup xs) ∧ bt = true ∧ (∀ x ∈ xs, IntK K H x) ∧ Q (.bl (lotFrom m (-1) xs && decide (xs.length ≤ 6))) H)
theorem sc_are_parents : FnScope ["thing", "number"] ["thing", "number"] (defScope s_are_parents) := ⟨rfl, rfl, rfl, by decide +kernel, rfl, by decide +kernel, by decide +kernel⟩
theorem ok_are_parents (T : Top P K mg) : FnOk P w K mg base CX0 4 T.f_are_parents T.fd_are_parents ["thing", "number"] (sp_are_parents K) := by
  have G_is_lot := ok_is_lot (P := P) (w := w) (base := base) T
  refine T.F_are_parents.ok sc_are_parents (fun vs H Q E h => ?_) (fun cdv A outer s H vs Q E hr h => ?_)
  · obtain ⟨v, t, bt, m, rfl, _⟩ := h
    rfl
  · obtain ⟨v, t, bt, m, rfl, ht, hb, hh⟩ := h
    refine ⟨_, (pss_one (ps_ret (pe_and (pe_call G_is_lot hr (by rfl) T.g_is_lot T.F_is_lot.kp T.b_is_lot .nil pass0 (pa_cons (pv 0) (pa_cons (pv 1) pa_nil))) (pe_one (pe_cmpR op_le (pe_callB (r := rLenQ K) (id := "len") call_len_seq (by rfl) T.z_len (by decide +kernel) (pa_cons (pv 0) pa_nil)) (pe_glob (v := .int 6) (by rfl) T.c_MOST_PARENTS.choose_spec ⟨_, rfl⟩) (nomark _)))))), ?_⟩
    tm_at "w"
    rcases hh with ⟨rfl, k⟩ | ⟨a, xs, rfl, ha, rfl, hi, k⟩
    · exact ⟨v, t, false, m, rfl, ht, hb, .inl ⟨rfl, false, rfl, iteF k⟩⟩
    · refine ⟨_, t, true, m, rfl, ht, hb, .inr ⟨a, xs, rfl, ha, rfl, hi, _, rfl, ?_⟩⟩
      refine iteB (fun h => ?_) (fun h => ?_)
      · tm_at "w"
        rw [h, Bool.true_and] at k
        have e : decide ((xs.length : Int) ≤ 6) = decide (xs.length ≤ 6) := decide_eq_decide.mpr (by omega)
        rw [← e] at k
        exact k
      · rw [h] at k
        exact k
/-! Book.fill -/
theorem bitOr_nat (a b : Nat) : Builtin.bitOr (a : Int) (b : Int) = ((a ||| b : Nat) : Int) := by
  rw [Bits.bitOr_pp (by omega) (by omega), Int.toNat_natCast, Int.toNat_natCast]
def sp_Book_fill (C : Addr) (K : PySem.W.Frag) : Sp := fun vs H Q _ => ∃ (b dx pa : Addr) (fs : List (Str × V)) (P : List (List Nat)), vs = [.ref b, .ref pa] ∧ H b = some (.ins C dx fs) ∧ BkFs fs ∧ ParAt H pa P ∧ RtP P ∧ P.length ≤ 1000 ∧
  ∀ lb H', But b H H' → H lb = none → BookAt C H' ⟨b, dx, pa, lb⟩ P → Q .non H'
theorem sc_Book_fill : FnScope ["self", "parents", "number", "item", "found", "parent"] ["self", "parents"] (defScope s_Book_fill) := ⟨rfl, rfl, rfl, by decide +kernel, rfl, by decide +kernel, by decide +kernel⟩
theorem ok_Book_fill (T : Top P K mg) : FnOk P w K mg base CX0 1 T.f_Book_fill T.fd_Book_fill ["self", "parents"] (sp_Book_fill T.C_Book K) := by
  refine T.F_Book_fill.ok sc_Book_fill (fun vs H Q E h => ?_) (fun cdv A outer s H vs Q E hr h => ?_)
  · obtain ⟨b, dx, pa, fs, P, rfl, _⟩ := h
    rfl
  · obtain ⟨b, dx, pa, fs, P, rfl, hb, hf, hP, hR, hn, k⟩ := h
    refine ⟨_, (pss_cons (ps_fld (pv 0) (pv 1) rfl)
      (pss_cons (ps_fld (pv 0) (pe_lst pa_nil) rfl)
      (pss_one (ps_for PassesOwn.never rfl (pi_enumT (by rfl) T.z_enumerate (pa_cons (pv 1) pa_nil)) (pg_tup rfl (pgs_cons (pg_name (i := 2) sc_Book_fill.nd rfl (Or.inl rfl)) (pgs_cons (pg_name (i := 3) sc_Book_fill.nd rfl (Or.inl rfl)) pgs_nil)))
      (pss_cons (ps_set (i := 4) sc_Book_fill.nd rfl (Or.inl rfl) (pe_op op_shl pe_int (pv 2)))
      (pss_cons (ps_for PassesOwn.never rfl (pi_tup (pv 3)) (pg_name (i := 5) sc_Book_fill.nd rfl (Or.inl rfl))
      (pss_one (ps_aug (i := 4) sc_Book_fill.nd rfl (Or.inl rfl) (pe_ix (r := rIxL K) ix_list (pe_fld (pv 0) rfl) (pv 5) (fun _ _ => rfl)) ip_or)))
      (pss_one (ps_expr (pe_bm PySem.F.plainAttrs_list PySem.F.slot_list_append PySem.F.type_list_append mt_append (pe_fld (pv 0) rfl) (pa_cons (pv 4) pa_nil)))))))))), ?_⟩
    have cB := T.cl_Book
    have nB1 := T.n_Book_parents
    have nB2 := T.n_Book_bits
    have hlp := BkFs.len1 hf pa
    have wb : ∀ l, H l = none → b ≠ l := fun l e => ne_of_none hb e
    obtain ⟨vsP, hpa, hlen, hit⟩ := id hP
    have nap : ∀ a xs, H a = some (.tup xs) → a ≠ b := fun a xs e z => by rw [z, hb] at e; cases e
    refine ⟨_, rfl, _, rfl, b, T.C_Book, dx, fs, rfl, hb, T.cl_Book, T.n_Book_parents, Nat.lt_trans (m := 500) hf.len (by decide), ?_⟩
    tm_at "w"
    intro lb nlb0
    have nlb : H lb = none := by
      by_cases z : lb = b
      · rw [z, upd_same] at nlb0
        cases nlb0
      · rw [upd_ne z] at nlb0
        exact nlb0
    have nbl : b ≠ lb := wb lb nlb
    refine ⟨_, rfl, b, T.C_Book, dx, _, rfl, (upd_ne nbl).trans upd_same, T.cl_Book, T.n_Book_bits, hlp, ?_⟩
    rw [hf.put pa lb]
    refine ⟨_, rfl, _, _, rfl, SqT.of (xs := vsP) ((upd_ne (nap _ _ hpa)).trans ((upd_ne (ne_of_none hpa nlb)).trans ((upd_ne (nap _ _ hpa)).trans hpa))), for_enumT (K := K) (a := pa) (xs := vsP) (fun i σ H' => ∃ x y z w, σ = [some (.ref b), some (.ref pa), x, y, z, w] ∧ But b H H' ∧ H' b = some (.ins T.C_Book dx (bkF pa lb)) ∧ H' lb = some (.lst (natsV (bitsOf (P.take i))))) ?_ ?_ ?_ ?_⟩
    · refine ⟨none, none, none, none, rfl, fun a o n e => ?_, upd_same, ?_⟩
      · exact (upd_ne n).trans ((upd_ne (ne_of_none e nlb)).trans ((upd_ne n).trans e))
      · exact (upd_ne nbl.symm).trans upd_same
    · rintro i σ H' ⟨_, _, _, _, rfl, bt, _⟩
      exact SqT.of (bt _ _ (nap _ _ hpa) hpa)
    · rintro i x t σ H' hx ⟨x0, y0, z0, w0, rfl, bt, h1, h2⟩ nt
      obtain ⟨ai, p, rfl, hp, hai⟩ := ParL.here ⟨hlen, hit⟩ hx
      have il := (List.getElem?_eq_some_iff.mp hp).1
      have wt : Nw H' t := ⟨nt⟩
      have hai' : H' ai = some (.tup (natsV p)) := bt _ _ (nap _ _ hai) hai
      tm_at "w"
      have hai2 : upd H' t (.tup [V.int (i : Int), V.ref ai]) ai = some (.tup (natsV p)) := by tm_at "hp"
      have hb2 : upd H' t (.tup [V.int (i : Int), V.ref ai]) b = some (.ins T.C_Book dx (bkF pa lb)) := by tm_at "hp"
      have hl2 : upd H' t (.tup [V.int (i : Int), V.ref ai]) lb = some (.lst (natsV (bitsOf (P.take i)))) := by tm_at "hp"
      have hbl : (bitsOf (P.take i)).length = i := by rw [bitsOf_len, List.length_take]; omega
      refine ⟨⟨_, SqT.of hai2⟩, for_tup (K := K) (a := ai) (xs := natsV p) (fun j σ H2 => ∃ z, σ = [some (.ref b), some (.ref pa), some (.int (i : Int)), some (.ref ai), some (.int (((p.take j).foldl (fun f q => f ||| (bitsOf (P.take i)).getD q 0) (2 ^ i) : Nat) : Int)), z] ∧ H2 = upd H' t (.tup [V.int (i : Int), V.ref ai])) ?_ ?_ ?_ ?_⟩
      · refine ⟨w0, ?_, rfl⟩
        show _ = [some (.ref b), some (.ref pa), some (.int (i : Int)), some (.ref ai), some (.int ((2 ^ i : Nat) : Int)), w0]
        have e : (1 : Int) * 2 ^ ((i : Int)).toNat = ((2 ^ i : Nat) : Int) := by rw [Int.one_mul, Int.toNat_natCast, Int.natCast_pow]; rfl
        rw [← e]
        rfl
      · rintro j σ H2 _ ⟨_, rfl, rfl⟩
        exact SqT.of hai2
      · rintro j y σ H2 hy ⟨z, rfl, rfl⟩
        obtain ⟨q, hq, rfl, _⟩ := natsV_here hy
        have ql : q < i := hR i p hp q (List.mem_of_getElem? hq)
        have hq2 : (natsV (bitsOf (P.take i)))[q]? = some (.int (((bitsOf (P.take i)).getD q 0 : Nat) : Int)) := by
          refine natsV_at ?_
          rw [List.getD_eq_getElem?_getD, List.getElem?_eq_getElem (by omega)]
          rfl
        tm_at "w"
        refine ⟨some (.int (q : Int)), ?_, rfl⟩
        show ([some (.ref b), some (.ref pa), some (.int (i : Int)), some (.ref ai), some (.int (Builtin.bitOr _ _)), some (.int (q : Int))] : L2.St) = _
        rw [bitOr_nat, List.take_add_one, hq, List.foldl_append]
        rfl
      · rintro σ H2 ⟨z, rfl, rfl⟩
        rw [natsV_len, List.take_length]
        tm_at "w"
        refine ⟨_, _, _, rfl, rfl, hl2, lt_line (by rw [natsV_len, hbl]; omega), ?_⟩
        have nlt : lb ≠ t := ne_of_none h2 nt
        refine ⟨_, _, _, _, rfl, fun a o n e => ?_, (upd_ne nbl).trans hb2, ?_⟩
        · have e2 := bt a o n e
          exact (upd_ne (ne_of_none e nlb)).trans ((upd_ne (ne_of_none e2 nt)).trans e2)
        · rw [upd_same, natsV_snoc, List.take_add_one, hp]
          show _ = some (HO.lst (natsV (bitsOf (P.take i ++ [p]))))
          rw [bitsOf_snoc, hbl]
          rfl
    · rintro σ H' ⟨x0, y0, z0, w0, rfl, bt, h1, h2⟩
      rw [hlen, List.take_length] at h2
      exact k lb H' bt nlb ⟨h1, ⟨vsP, bt _ _ (nap _ _ hpa) hpa, hlen, fun j p e => by
        obtain ⟨a, e1, e2⟩ := hit j p e
        exact ⟨a, e1, bt _ _ (nap _ _ e2) e2⟩⟩, h2⟩
/-! Book.__init__ -/
theorem lot_from {m : Int} : ∀ {q : List Nat} {last : Int}, q.Pairwise (· < ·) → (∀ x ∈ q, last < (x : Int) ∧ (x : Int) < m) → lotFrom m last (natsV q) = true
  | [], _, _, _ => rfl
  | x :: r, last, hp, hm => by
    obtain ⟨h1, h2⟩ := List.pairwise_cons.mp hp
    have hx := hm x List.mem_cons_self
    have ih := lot_from (m := m) (q := r) (last := (x : Int)) h2 fun y hy => ⟨by have := h1 y hy; omega, (hm y (List.mem_cons_of_mem _ hy)).2⟩
    show (withinB (.int (x : Int)) (last + 1) (m - 1) && lotFrom m (x : Int) (natsV r)) = true
    rw [ih]
    show ((decide (last + 1 ≤ (x : Int)) && decide ((x : Int) ≤ m - 1)) && true) = true
    rw [decide_eq_true (show last + 1 ≤ (x : Int) by omega), decide_eq_true (show (x : Int) ≤ m - 1 by omega)]
    rfl
theorem OkL.lot {q : List Nat} {m : Nat} (h : OkL q m) : (lotFrom (m : Int) (-1) (natsV q) && decide ((natsV q).length ≤ 6)) = true := by
  rw [lot_from h.asc fun x hx => ⟨by omega, by have := h.lt x hx; omega⟩, natsV_len, decide_eq_true h.few]
  rfl
def sp_Book___init__ (C : Addr) (K : PySem.W.Frag) : Sp := fun vs H Q _ => ∃ (b dx pa : Addr) (P : List (List Nat)), vs = [.ref b, .ref pa] ∧ H b = some (.ins C dx []) ∧ ParAt H pa P ∧ OkP P ∧
  ∀ lb H', But b H H' → H lb = none → BookAt C H' ⟨b, dx, pa, lb⟩ P → Q .non H'
theorem sc_Book___init__ : FnScope ["self", "parents", "number", "item"] ["self", "parents"] (defScope s_Book___init__) := ⟨rfl, rfl, rfl, by decide +kernel, rfl, by decide +kernel, by decide +kernel⟩
theorem ok_Book___init__ (T : Top P K mg) : FnOk P w K mg base CX0 5 T.f_Book___init__ T.fd_Book___init__ ["self", "parents"] (sp_Book___init__ T.C_Book K) := by
  have G_Book_fill := ok_Book_fill (P := P) (w := w) (base := base) T
  have G_are_parents := ok_are_parents (P := P) (w := w) (base := base) T
  refine T.F_Book___init__.ok sc_Book___init__ (fun vs H Q E h => ?_) (fun cdv A outer s H vs Q E hr h => ?_)
  · obtain ⟨b, dx, pa, P, rfl, _⟩ := h
    rfl
  · obtain ⟨b, dx, pa, P, rfl, hb, hP, ok, k⟩ := h
    refine ⟨_, (pss_cons (ps_if (PW.pt (pw_or (pt_not (pt_val (pe_callB (r := rIsi K) (id := "isinstance") call_isi (by rfl) T.z_isinstance (by decide +kernel) (pa_cons (pv 1) (pa_cons (pe_bltn (v := .ty "tuple") (u := .type "tuple") (by rfl) T.z_tuple (by decide +kernel) rfl) pa_nil))))) (pw_or1 (pt_cmpR op_gt (pe_callB (r := rLenQ K) (id := "len") call_len_seq (by rfl) T.z_len (by decide +kernel) (pa_cons (pv 1) pa_nil)) (pe_glob (v := .int 400) (by rfl) T.c_MOST_KINDS.choose_spec ⟨_, rfl⟩) (nomark _))))) (pss_one ps_never) pss_nil)
      (pss_cons (ps_for PassesOwn.never rfl (pi_enumT (by rfl) T.z_enumerate (pa_cons (pv 1) pa_nil)) (pg_tup rfl (pgs_cons (pg_name (i := 2) sc_Book___init__.nd rfl (Or.inl rfl)) (pgs_cons (pg_name (i := 3) sc_Book___init__.nd rfl (Or.inl rfl)) pgs_nil)))
      (pss_one (ps_if (pt_not (pt_val (pe_call G_are_parents hr (by rfl) T.g_are_parents T.F_are_parents.kp T.b_are_parents .nil pass0 (pa_cons (pv 3) (pa_cons (pv 2) pa_nil))))) (pss_one ps_never) pss_nil)))
      (pss_one (ps_expr (pe_meth (pv 0) T.cl_Book T.m_Book_fill G_Book_fill (hr.mono (by decide)) T.b_Book_fill .nil pass0 (pa_cons (pv 1) pa_nil)))))), ?_⟩
    have cB := T.cl_Book
    have nB1 := T.n_Book_parents
    have nB2 := T.n_Book_bits
    obtain ⟨vsP, hpa, hlen, hit⟩ := id hP
    have few := ok.few
    have ty := ty_tup (K := K) hpa
    have tt := tup_tup (K := K)
    tm_at "w"
    refine ⟨_, _, rfl, SqT.of hpa, for_enumT (K := K) (a := pa) (xs := vsP) (fun i σ H' => ∃ x y, σ = [some (.ref b), some (.ref pa), x, y] ∧ Same H H') ?_ ?_ ?_ ?_⟩
    · exact ⟨none, none, rfl, Same.refl H⟩
    · rintro i σ H' ⟨_, _, rfl, s1⟩
      exact SqT.of (s1 _ _ hpa)
    · rintro i x t σ H' hx ⟨x0, y0, rfl, s1⟩ nt
      obtain ⟨ai, p, rfl, hp, hai⟩ := ParL.here ⟨hlen, hit⟩ hx
      have s2 : Same H (upd H' t (.tup [V.int (i : Int), V.ref ai])) := Same.new s1 nt
      have hai2 := s2 _ _ hai
      tm_at "w"
      refine ⟨_, _, true, _, rfl, ty_tup hai2, tup_tup, .inr ⟨ai, natsV p, rfl, hai2, rfl, natsV_int p, ?_⟩⟩
      rw [(ok.ok i p hp).lot]
      refine ⟨_, rfl, iteF ?_⟩
      exact ⟨_, _, rfl, s2⟩
    · rintro σ H' ⟨x0, y0, rfl, s1⟩
      tm_at "w"
      refine ⟨b, dx, [], rfl, s1 _ _ hb, rfl, ?_⟩
      tm_at "w"
      refine ⟨b, dx, pa, [], P, rfl, s1 _ _ hb, .inl rfl, hP.tk (Same.tk s1), ok.rt, by omega, fun lb H2 bt nl at' => ?_⟩
      tm_at "w"
      exact k lb H2 (But.same s1 bt) (Same.free s1 nl) at'
/-- the book that is made of parents -/
theorem mk_book {C : Addr} {K : PySem.W.Frag} {H : Hp} {pa : Addr} {P : List (List Nat)} {Q : Addr → Hp → Prop} {E : XK} (hP : ParAt H pa P) (ok : OkP P)
    (k : ∀ b H', Made C H H' b P → b.pa = pa → Q b.b H') : ∀ x dx, H x = none → H dx = none → dx ≠ x → sp_Book___init__ C K [.ref x, .ref pa] (upd (upd H dx (.own x)) x (.ins C dx [])) (fun v H2 => v = .non ∧ Q x H2) E := by
  intro x dx hx hd ne
  have s1 : Same H (upd (upd H dx (.own x)) x (.ins C dx [])) := Same.mut (Same.new (Same.refl H) hd) hx
  refine ⟨x, dx, pa, P, rfl, upd_same, hP.tk (Same.tk s1), ok, fun lb H' bt nl at' => ⟨rfl, ?_⟩⟩
  exact k ⟨x, dx, pa, lb⟩ H' ⟨But.new s1 hx bt, at', ⟨hx⟩, ⟨Same.free s1 nl⟩⟩ rfl
/-! is_triple -/
theorem within_nat {v : V} {n : Nat} (h : withinB v 0 ((n : Int) - 1) = true) : ∃ x : Nat, v = .int (x : Int) ∧ x < n := by
  cases v with
  | int i =>
    have h : (decide (0 ≤ i) && decide (i ≤ (n : Int) - 1)) = true := h
    rw [Bool.and_eq_true, decide_eq_true_eq, decide_eq_true_eq] at h
    exact ⟨i.toNat, by rw [show ((i.toNat : Nat) : Int) = i by omega], by omega⟩
  | _ => cases h
theorem within_le {v : V} {n : Nat} (h : withinB v 0 (n : Int) = true) : ∃ x : Nat, v = .int (x : Int) ∧ x ≤ n := by
  obtain ⟨x, e, hx⟩ := within_nat (n := n + 1) (v := v) (by rw [show (((n + 1 : Nat) : Int) - 1) = (n : Int) by omega]; exact h)
  exact ⟨x, e, by omega⟩
theorem lot_nats {m : Int} : ∀ {xs : List V} {last : Int}, -1 ≤ last → lotFrom m last xs = true → ∃ q : List Nat, xs = natsV q ∧ q.Pairwise (· < ·) ∧ ∀ x ∈ q, last < (x : Int) ∧ (x : Int) < m
  | [], _, _, _ => ⟨[], rfl, List.Pairwise.nil, fun x hx => by cases hx⟩
  | .int i :: r, last, hl, h => by
    have h : (withinB (.int i) (last + 1) (m - 1) && lotFrom m i r) = true := h
    rw [Bool.and_eq_true] at h
    have h1 : (decide (last + 1 ≤ i) && decide (i ≤ m - 1)) = true := h.1
    rw [Bool.and_eq_true, decide_eq_true_eq, decide_eq_true_eq] at h1
    obtain ⟨q, e, hp, hq⟩ := lot_nats (xs := r) (last := i) (by omega) h.2
    refine ⟨i.toNat :: q, ?_, List.pairwise_cons.mpr ⟨fun y hy => by have := hq y hy; omega, hp⟩, fun x hx => ?_⟩
    · rw [e]
      show _ = V.int ((i.toNat : Nat) : Int) :: natsV q
      rw [show ((i.toNat : Nat) : Int) = i by omega]
    · rcases List.mem_cons.mp hx with e | e
      · rw [e]
        omega
      · have := hq x e
        omega
  | .bl _ :: _, _, _, h => by cases h
  | .non :: _, _, _, h => by cases h
  | .str _ :: _, _, _, h => by cases h
  | .ref _ :: _, _, _, h => by cases h
  | .ty _ :: _, _, _, h => by cases h
  | .flt _ :: _, _, _, h => by cases h
  | .byt _ :: _, _, _, h => by cases h
/-- whether a thing is the parents of a kind with a number -/
def parB (H : Hp) (v : V) (m : Int) : Bool := match v with
  | .ref a => match H a with
    | some (.tup xs) => lotFrom m (-1) xs && decide (xs.length ≤ 6)
    | _ => false
  | _ => false
theorem parB_tup {H : Hp} {a : Addr} {xs : List V} {m : Int} (h : H a = some (.tup xs)) : parB H (.ref a) m = (lotFrom m (-1) xs && decide (xs.length ≤ 6)) := by
  simp only [parB, h]
theorem parB_no {H : Hp} {v : V} {m : Int} (h : ∀ a xs, v = .ref a → H a ≠ some (.tup xs)) : parB H v m = false := by
  unfold parB
  split
  · split
    · rename_i a _ xs e
      exact absurd e (h a xs rfl)
    · rfl
  · rfl
/-- whether a thing is what a kind can be given, and whether one has the form of a scheme -/
def threeB (H : Hp) (x : V) : Bool := match x with
  | .ref a => match H a with
    | some (.tup xs) => decide (xs.length = 3)
    | _ => false
  | _ => false
def nonB : V → Bool
  | .int i => decide (0 ≤ i)
  | _ => false
def rowIB (H : Hp) (x : V) : Bool := match x with
  | .ref a => match H a with
    | some (.tup xs) => xs.all isIntB
    | _ => false
  | _ => false
def givB (H : Hp) (x : V) : Bool := match x with
  | .ref a => match H a with
    | some (.tup [s, n, r]) => nonB s && isIntB n && rowIB H r
    | _ => false
  | _ => false
def schB (H : Hp) (v : V) : Bool := match v with
  | .ref a => match H a with
    | some (.tup xs) => xs.all (givB H)
    | _ => false
  | _ => false
theorem threeB_tup {H : Hp} {a : Addr} {xs : List V} (h : H a = some (.tup xs)) : threeB H (.ref a) = decide (xs.length = 3) := by
  simp only [threeB, h]
theorem threeB_no {H : Hp} {v : V} (h : ∀ a xs, v = .ref a → H a ≠ some (.tup xs)) : threeB H v = false := by
  unfold threeB
  split
  · split
    · rename_i a _ xs e
      exact absurd e (h a xs rfl)
    · rfl
  · rfl
theorem rowIB_tup {H : Hp} {a : Addr} {xs : List V} (h : H a = some (.tup xs)) : rowIB H (.ref a) = xs.all isIntB := by
  simp only [rowIB, h]
theorem rowIB_no {H : Hp} {v : V} (h : ∀ a xs, v = .ref a → H a ≠ some (.tup xs)) : rowIB H v = false := by
  unfold rowIB
  split
  · split
    · rename_i a _ xs e
      exact absurd e (h a xs rfl)
    · rfl
  · rfl
theorem schB_tup {H : Hp} {a : Addr} {xs : List V} (h : H a = some (.tup xs)) : schB H (.ref a) = xs.all (givB H) := by
  simp only [schB, h]
theorem schB_no {H : Hp} {v : V} (h : ∀ a xs, v = .ref a → H a ≠ some (.tup xs)) : schB H v = false := by
  unfold schB
  split
  · split
    · rename_i a _ xs e
      exact absurd e (h a xs rfl)
    · rfl
  · rfl
theorem three_of {H : Hp} {v : V} (h : threeB H v = true) : ∃ a s n r, v = .ref a ∧ H a = some (.tup [s, n, r]) := by
  unfold threeB at h
  split at h
  · split at h
    · rename_i a _ xs e
      match xs, e, of_decide_eq_true h with
      | [s, n, r], e, _ => exact ⟨a, s, n, r, rfl, e⟩
    · cases h
  · cases h
theorem givB_three {H : Hp} {a : Addr} {s n r : V} (h : H a = some (.tup [s, n, r])) : givB H (.ref a) = (nonB s && isIntB n && rowIB H r) := by
  simp only [givB, h]
theorem givB_not {H : Hp} {v : V} (h : threeB H v = false) : givB H v = false := by
  unfold givB
  split
  · split
    · rename_i a _ s n r e
      rw [threeB_tup e] at h
      cases h
    · rfl
  · rfl
theorem intsB_of : ∀ {xs : List V}, xs.all isIntB = true → ∃ r : List Int, xs = r.map V.int
  | [], _ => ⟨[], rfl⟩
  | .int i :: t, h => by
    rw [List.all_cons, Bool.and_eq_true] at h
    obtain ⟨r, e⟩ := intsB_of h.2
    exact ⟨i :: r, by rw [e]; rfl⟩
  | .bl _ :: _, h => by cases h
  | .non :: _, h => by cases h
  | .str _ :: _, h => by cases h
  | .ref _ :: _, h => by cases h
  | .ty _ :: _, h => by cases h
  | .flt _ :: _, h => by cases h
  | .byt _ :: _, h => by cases h
theorem giv_of {H : Hp} {v : V} (h : givB H v = true) : ∃ e : Tr, Trip H v e ∧ 0 ≤ e.1 := by
  have t : threeB H v = true := by
    cases e : threeB H v with
    | true => rfl
    | false =>
      rw [givB_not e] at h
      cases h
  obtain ⟨a, s, n, r, rfl, ha⟩ := three_of t
  rw [givB_three ha, Bool.and_eq_true, Bool.and_eq_true] at h
  obtain ⟨⟨h1, h2⟩, h3⟩ := h
  cases s with
  | int i =>
    cases n with
    | int j =>
      unfold rowIB at h3
      split at h3
      · split at h3
        · rename_i q _ xs e
          obtain ⟨l, rfl⟩ := intsB_of h3
          exact ⟨(i, j, l), ⟨a, q, rfl, ha, e⟩, of_decide_eq_true h1⟩
        · cases h3
      · cases h3
    | _ => cases h2
  | _ => cases h1
section
variable {C z : Addr} {H H' : Hp} {k : Nat} {v : V}
theorem threeB_keep (h : Th C z H k v) (s : ∀ a o, a ≠ z → H a = some o → H' a = some o) : threeB H' v = threeB H v := by
  cases h with
  | int _ i => rfl
  | bl _ b => rfl
  | non _ => rfl
  | str _ x => rfl
  | lst _ a xs h1 h2 => simp only [threeB, h2, s _ _ h1 h2]
  | dK _ a xs h1 h2 => simp only [threeB, h2, s _ _ h1 h2]
  | ins _ a dx fs h1 h2 => simp only [threeB, h2, s _ _ h1 h2]
  | tup0 a xs h1 h2 => simp only [threeB, h2, s _ _ h1 h2]
  | tup m a xs h1 h2 h3 h4 => simp only [threeB, h2, s _ _ h1 h2]
theorem rowIB_keep (h : Th C z H k v) (s : ∀ a o, a ≠ z → H a = some o → H' a = some o) : rowIB H' v = rowIB H v := by
  cases h with
  | int _ i => rfl
  | bl _ b => rfl
  | non _ => rfl
  | str _ x => rfl
  | lst _ a xs h1 h2 => simp only [rowIB, h2, s _ _ h1 h2]
  | dK _ a xs h1 h2 => simp only [rowIB, h2, s _ _ h1 h2]
  | ins _ a dx fs h1 h2 => simp only [rowIB, h2, s _ _ h1 h2]
  | tup0 a xs h1 h2 => simp only [rowIB, h2, s _ _ h1 h2]
  | tup m a xs h1 h2 h3 h4 => simp only [rowIB, h2, s _ _ h1 h2]
theorem givB_keep (h : Th C z H (k + 1) v) (s : ∀ a o, a ≠ z → H a = some o → H' a = some o) : givB H' v = givB H v := by
  cases h with
  | int _ i => rfl
  | bl _ b => rfl
  | non _ => rfl
  | str _ x => rfl
  | lst _ a xs h1 h2 => simp only [givB, h2, s _ _ h1 h2]
  | dK _ a xs h1 h2 => simp only [givB, h2, s _ _ h1 h2]
  | ins _ a dx fs h1 h2 => simp only [givB, h2, s _ _ h1 h2]
  | tup m a xs h1 h2 h3 h4 =>
    by_cases l : xs.length = 3
    · match xs, l, h2, h4 with
      | [x, y, r], _, h2, h4 =>
        rw [givB_three h2, givB_three (s _ _ h1 h2), rowIB_keep (h4 r (by simp)) s]
    · rw [givB_not (H := H') (by rw [threeB_tup (s _ _ h1 h2)]; exact decide_eq_false l), givB_not (H := H) (by rw [threeB_tup h2]; exact decide_eq_false l)]
theorem alike_all {xs : List V} {f g : V → Bool} (h : ∀ x ∈ xs, f x = g x) : xs.all f = xs.all g := by
  induction xs with
  | nil => rfl
  | cons x r ih => rw [List.all_cons, List.all_cons, h x List.mem_cons_self, ih fun y hy => h y (List.mem_cons_of_mem _ hy)]
theorem schB_keep (h : Th C z H (k + 2) v) (s : ∀ a o, a ≠ z → H a = some o → H' a = some o) : schB H' v = schB H v := by
  cases h with
  | int _ i => rfl
  | bl _ b => rfl
  | non _ => rfl
  | str _ x => rfl
  | lst _ a xs h1 h2 => simp only [schB, h2, s _ _ h1 h2]
  | dK _ a xs h1 h2 => simp only [schB, h2, s _ _ h1 h2]
  | ins _ a dx fs h1 h2 => simp only [schB, h2, s _ _ h1 h2]
  | tup m a xs h1 h2 h3 h4 =>
    rw [schB_tup h2, schB_tup (s _ _ h1 h2)]
    exact alike_all fun x hx => givB_keep (h4 x hx) s
theorem Th.row (h : Th C z H 1 v) {e : List Int} {a : Addr} (ev : v = .ref a) (ha : H a = some (.tup (e.map V.int))) : e.length ≤ 1000 := by
  cases h with
  | lst _ b xs h1 h2 => cases ev; rw [ha] at h2; cases h2
  | dK _ b xs h1 h2 => cases ev; rw [ha] at h2; cases h2
  | ins _ b dx fs h1 h2 => cases ev; rw [ha] at h2; cases h2
  | tup m b xs h1 h2 h3 h4 =>
    cases ev
    rw [ha] at h2
    obtain rfl := HO.tup.inj (Option.some.inj h2)
    rw [List.length_map] at h3
    exact h3
  | _ => cases ev
theorem Th.trip (h : Th C z H 2 v) {e : Tr} (ht : Trip H v e) : e.2.2.length ≤ 1000 := by
  obtain ⟨p, q, rfl, hp, hq⟩ := ht
  cases h with
  | lst _ b xs h1 h2 => rw [hp] at h2; cases h2
  | dK _ b xs h1 h2 => rw [hp] at h2; cases h2
  | ins _ b dx fs h1 h2 => rw [hp] at h2; cases h2
  | tup m b xs h1 h2 h3 h4 =>
    rw [hp] at h2
    obtain rfl := HO.tup.inj (Option.some.inj h2)
    exact (h4 (.ref q) (by simp)).row rfl hq
theorem schB_list : ∀ {xs : List V}, xs.all (givB H) = true → (∀ x ∈ xs, Th C z H 2 x) → ∃ S : List Tr, xs.length = S.length ∧ (∀ (i : Nat) (e : Tr), S[i]? = some e → ∃ v, xs[i]? = some v ∧ Trip H v e) ∧ ∀ e ∈ S, 0 ≤ e.1 ∧ e.2.2.length ≤ 1000
  | [], _, _ => ⟨[], rfl, fun i e h => by simp at h, fun e h => by cases h⟩
  | x :: r, h, ht => by
    rw [List.all_cons, Bool.and_eq_true] at h
    obtain ⟨e, h1, h2⟩ := giv_of h.1
    obtain ⟨S, g1, g2, g3⟩ := schB_list h.2 fun y hy => ht y (List.mem_cons_of_mem _ hy)
    refine ⟨e :: S, by rw [List.length_cons, List.length_cons, g1], fun i d hd => ?_, fun d hd => ?_⟩
    · cases i with
      | zero => exact ⟨x, rfl, by rw [← Option.some.inj hd]; exact h1⟩
      | succ i => exact g2 i d hd
    · rcases List.mem_cons.mp hd with q | q
      · rw [q]
        exact ⟨h2, (ht x List.mem_cons_self).trip h1⟩
      · exact g3 d q
theorem schB_of (h : schB H v = true) (ht : Th C z H 3 v) : ∃ a S, v = .ref a ∧ SchAt H a S ∧ (∀ e ∈ S, 0 ≤ e.1 ∧ e.2.2.length ≤ 1000) ∧ S.length ≤ 1000 := by
  cases ht with
  | int _ i => cases h
  | bl _ b => cases h
  | non _ => cases h
  | str _ x => cases h
  | lst _ a xs h1 h2 => simp only [schB, h2] at h; cases h
  | dK _ a xs h1 h2 => simp only [schB, h2] at h; cases h
  | ins _ a dx fs h1 h2 => simp only [schB, h2] at h; cases h
  | tup m a xs h1 h2 h3 h4 =>
    rw [schB_tup h2] at h
    obtain ⟨S, g1, g2, g3⟩ := schB_list h h4
    exact ⟨a, S, rfl, ⟨xs, h2, g1, g2⟩, g3, by omega⟩
end
def sp_is_triple (C : Addr) (K : PySem.W.Frag) : Sp := fun vs H Q _ => ∃ (v : V) (z : Addr), vs = [v] ∧ KitC K C ∧ Th C z H 1 v ∧ Q (.bl (threeB H v)) H
theorem sc_is_triple : FnScope ["thing"] ["thing"] (defScope s_is_triple) := ⟨rfl, rfl, rfl, by decide +kernel, rfl, by decide +kernel, by decide +kernel⟩
theorem ok_is_triple (T : Top P K mg) : FnOk P w K mg base CX0 1 T.f_is_triple T.fd_is_triple ["thing"] (sp_is_triple T.C_Book K) := by
  refine T.F_is_triple.ok sc_is_triple (fun vs H Q E h => ?_) (fun cdv A outer s H vs Q E hr h => ?_)
  · obtain ⟨v, z, rfl, _⟩ := h
    rfl
  · obtain ⟨v, z, rfl, kc, ht, k⟩ := h
    refine ⟨_, (pss_one (ps_ret (pe_and (pe_callB (r := rIsi K) (id := "isinstance") call_isi (by rfl) T.z_isinstance (by decide +kernel) (pa_cons (pv 0) (pa_cons (pe_bltn (v := .ty "tuple") (u := .type "tuple") (by rfl) T.z_tuple (by decide +kernel) rfl) pa_nil))) (pe_one (pe_cmpR op_eq (pe_callB (r := rLenQ K) (id := "len") call_len_seq (by rfl) T.z_len (by decide +kernel) (pa_cons (pv 0) pa_nil)) pe_int (nomark _)))))), ?_⟩
    obtain ⟨t, bt, ty, tt, hh⟩ := ht.ty kc
    rcases hh with ⟨rfl, no⟩ | ⟨a, xs, rfl, ha, rfl, hx, hi⟩
    · rw [threeB_no no] at k
      tm_at "w"
      exact k
    · rw [threeB_tup ha] at k
      tm_at "w"
      have e : decide (V.int (xs.length : Int) = V.int 3) = decide (xs.length = 3) := dec_nat (a := xs.length) (b := 3)
      rw [← e] at k
      exact k
/-! check_kind_of -/
def sp_check_kind_of (C_NoKind : Addr) (K : PySem.W.Frag) : Sp := fun vs H Q E => ∃ (v : V) (m : Int), vs = [v, .int m] ∧ IntK K H v ∧ (withinB v 0 (m - 1) = true → Q .non H) ∧ (withinB v 0 (m - 1) = false → E (.ref C_NoKind) none H)
theorem sc_check_kind_of : FnScope ["thing", "many"] ["thing", "many"] (defScope s_check_kind_of) := ⟨rfl, rfl, rfl, by decide +kernel, rfl, by decide +kernel, by decide +kernel⟩
theorem ok_check_kind_of (T : Top P K mg) : FnOk P w K mg base (L2.CX P w) 3 T.f_check_kind_of T.fd_check_kind_of ["thing", "many"] (sp_check_kind_of T.C_NoKind K) := by
  have G_NoKind___init__ := ok_NoKind___init__ (P := P) (w := w) (base := base) T
  have G_is_within := ok_is_within (P := P) (w := w) (base := base) T
  refine T.F_check_kind_of.okX sc_check_kind_of (fun vs H Q E h => ?_) (fun cdv A outer s H vs Q E hr h => ?_)
  · obtain ⟨v, m, rfl, _⟩ := h
    rfl
  · obtain ⟨v, m, rfl, hv, k, ke⟩ := h
    refine ⟨_, (pss_one (ps_if (pt_not (pt_val (pe_call G_is_within hr (by rfl) T.g_is_within T.F_is_within.kp T.b_is_within .nil pass0 (pa_cons (pv 0) (pa_cons pe_int (pa_cons (pe_op op_sub (pv 1) pe_int) pa_nil)))))) (pss_one (ps_raise rfl (takes_of rfl rfl rfl rfl) (pmk_n T.er_NoKind.ex T.er_NoKind.ic T.er_NoKind.ti G_NoKind___init__ (hr.mono (by decide)) T.er_NoKind.bi pass0 (by rfl) T.er_NoKind.g))) pss_nil)), ?_⟩
    tm_at "w"
    refine ⟨v, 0, m - 1, rfl, hv, ?_⟩
    refine ⟨_, rfl, ?_⟩
    cases e : withinB v 0 (m - 1) with
    | true =>
      refine iteEF (by rfl) ?_
      exact k e
    | false =>
      refine iteET (by rfl) ?_
      exact ke e
/-! is_given -/
theorem nonB_not {v : V} (h : isIntB v = false) : nonB v = false := by
  cases v with
  | int i => cases h
  | _ => rfl
def sp_is_given (C : Addr) (K : PySem.W.Frag) : Sp := fun vs H Q _ => ∃ (v : V) (z : Addr), vs = [v] ∧ KitC K C ∧ Th C z H 2 v ∧ ∀ H', Same H H' → Q (.bl (givB H v)) H'
theorem sc_is_given : FnScope ["thing", "entry"] ["thing"] (defScope s_is_given) := ⟨rfl, rfl, rfl, by decide +kernel, rfl, by decide +kernel, by decide +kernel⟩
theorem ok_is_given (T : Top P K mg) : FnOk P w K mg base CX0 2 T.f_is_given T.fd_is_given ["thing"] (sp_is_given T.C_Book K) := by
  have G_is_integer := ok_is_integer (P := P) (w := w) (base := base) T
  have G_is_triple := ok_is_triple (P := P) (w := w) (base := base) T
  refine T.F_is_given.ok sc_is_given (fun vs H Q E h => ?_) (fun cdv A outer s H vs Q E hr h => ?_)
  · obtain ⟨v, z, rfl, _⟩ := h
    rfl
  · obtain ⟨v, z, rfl, kc, ht, k⟩ := h
    refine ⟨_, (pss_cons (ps_if (PW.pt (pw_or (pt_not (pt_val (pe_call G_is_triple hr (by rfl) T.g_is_triple T.F_is_triple.kp T.b_is_triple .nil pass0 (pa_cons (pv 0) pa_nil)))) (pw_or (pt_not (pt_val (pe_call G_is_integer hr (by rfl) T.g_is_integer T.F_is_integer.kp T.b_is_integer .nil pass0 (pa_cons (pe_ix (r := rIxT K) ix_tup (pv 0) pe_int (fun _ _ => rfl)) pa_nil)))) (pw_or (pt_cmpR op_lt (pe_ix (r := rIxT K) ix_tup (pv 0) pe_int (fun _ _ => rfl)) pe_int (nomark _)) (pw_or1 (pt_not (pt_val (pe_call G_is_integer hr (by rfl) T.g_is_integer T.F_is_integer.kp T.b_is_integer .nil pass0 (pa_cons (pe_ix (r := rIxT K) ix_tup (pv 0) pe_int (fun _ _ => rfl)) pa_nil))))))))) (pss_one (ps_ret pe_bl)) pss_nil)
      (pss_one (ps_ret (pe_and (pe_callB (r := rIsi K) (id := "isinstance") call_isi (by rfl) T.z_isinstance (by decide +kernel) (pa_cons (pe_ix (r := rIxT K) ix_tup (pv 0) pe_int (fun _ _ => rfl)) (pa_cons (pe_bltn (v := .ty "tuple") (u := .type "tuple") (by rfl) T.z_tuple (by decide +kernel) rfl) pa_nil))) (pe_one (pe_callB (r := rAll K) (id := "all") (cr_all rfl) (by rfl) T.z_all (by decide +kernel) (pa_cons (pe_lc (own := [("entry", 1)]) (g := gName 1) (tt := tYes) rfl sc_is_given.nd (pi_tup (pe_ix (r := rIxT K) ix_tup (pv 0) pe_int (fun _ _ => rfl))) (blkOk_by (own := [("entry", 1)]) (N := ["thing", "entry"]) (sc := defScope s_is_given) (by decide +kernel)) (fun _ _ _ _ _ => (pg_name (i := 1) sc_is_given.nd rfl (Or.inl rfl))) (fun _ _ _ _ _ => pts_nil) (fun _ _ _ _ _ => (pe_call G_is_integer hr (by rfl) T.g_is_integer T.F_is_integer.kp T.b_is_integer .nil pass0 (pa_cons (pv 1) pa_nil)))) pa_nil))))))), ?_⟩
    tm_at "w"
    refine ⟨v, z, rfl, kc, ht.down, ?_⟩
    refine ⟨_, rfl, ?_⟩
    cases et : threeB H v with
    | false =>
      rw [givB_not et] at k
      refine iteET (by rfl) ?_
      exact k _ (Same.refl H)
    | true =>
      refine iteEF (by rfl) ?_
      obtain ⟨a, sl, nu, ro, rfl, ha⟩ := three_of et
      rw [givB_three ha] at k
      have inn : ∀ x ∈ [sl, nu, ro], Th T.C_Book z H 1 x := by
        cases ht with
        | lst _ b xs h1 h2 => rw [ha] at h2; cases h2
        | dK _ b xs h1 h2 => rw [ha] at h2; cases h2
        | ins _ b dx fs h1 h2 => rw [ha] at h2; cases h2
        | tup m b xs h1 h2 h3 h4 =>
          rw [ha] at h2
          obtain rfl := HO.tup.inj (Option.some.inj h2)
          exact h4
      have i1 := (inn sl (by simp)).intK kc
      have i2 := (inn nu (by simp)).intK kc
      have f1 : nonB sl = false → ∀ H', Same H H' → Q (.bl false) H' := fun e H' sm => by
        have k := k H' sm
        rw [e] at k
        exact k
      tm_at "w"
      cases e1 : isIntB sl with
      | false =>
        refine iteET (by rfl) ?_
        tm_at "w"
        exact f1 (nonB_not e1) _ (Same.refl H)
      | true =>
        refine iteEF (by rfl) ?_
        cases sl with
        | int i =>
          tm_at "w"
          refine iteD (fun g => ?_) (fun g => ?_)
          · tm_at "w"
            exact f1 (decide_eq_false (by omega)) _ (Same.refl H)
          have e0 : nonB (.int i) = true := decide_eq_true (by omega)
          rw [e0, Bool.true_and] at k
          tm_at "w"
          cases e2 : isIntB nu with
          | false =>
            rw [e2] at k
            refine iteET (by rfl) ?_
            tm_at "w"
            exact k _ (Same.refl H)
          | true =>
            rw [e2, Bool.true_and] at k
            refine iteEF (by rfl) ?_
            obtain ⟨t, bt, ty, tt, hh⟩ := (inn ro (by simp)).ty kc
            rcases hh with ⟨rfl, no⟩ | ⟨q, xs, rfl, hq, rfl, hx, hi⟩
            · rw [rowIB_no no] at k
              tm_at "w"
              exact k _ (Same.refl H)
            · rw [rowIB_tup hq] at k
              tm_at "w"
              refine ⟨⟨_, SqT.of hq⟩, fun D nD => lc_tupF (fun i => xs[i]?.map fun x => V.bl (isIntB x)) hq nD (by omega) ?_ ?_⟩
              · intro i x H1 N M hx s1 kN kM
                have hix := ((hi x (List.mem_of_getElem? hx)).same s1).intK kc
                tm_at "w"
                refine kN _ _ ?_ (Same.refl H1)
                rw [hx]
                rfl
              · intro H1 s1 hD
                rw [range_items] at hD
                tm_at "w"
                refine ⟨_, xs.map fun x => isIntB x, rfl, SqL.of (by rw [List.map_map]; exact hD), ?_⟩
                rw [List.all_map]
                exact k _ s1
        | _ => cases e1
/-! has_form -/
def sp_has_form (C : Addr) (K : PySem.W.Frag) : Sp := fun vs H Q _ => ∃ (v : V) (z : Addr), vs = [v] ∧ KitC K C ∧ Th C z H 3 v ∧ ∀ H', Same H H' → Q (.bl (schB H v)) H'
theorem sc_has_form : FnScope ["thing", "item"] ["thing"] (defScope s_has_form) := ⟨rfl, rfl, rfl, by decide +kernel, rfl, by decide +kernel, by decide +kernel⟩
theorem ok_has_form (T : Top P K mg) : FnOk P w K mg base CX0 3 T.f_has_form T.fd_has_form ["thing"] (sp_has_form T.C_Book K) := by
  have G_is_given := ok_is_given (P := P) (w := w) (base := base) T
  refine T.F_has_form.ok sc_has_form (fun vs H Q E h => ?_) (fun cdv A outer s H vs Q E hr h => ?_)
  · obtain ⟨v, z, rfl, _⟩ := h
    rfl
  · obtain ⟨v, z, rfl, kc, ht, k⟩ := h
    refine ⟨_, (pss_one (ps_ret (pe_and (pe_callB (r := rIsi K) (id := "isinstance") call_isi (by rfl) T.z_isinstance (by decide +kernel) (pa_cons (pv 0) (pa_cons (pe_bltn (v := .ty "tuple") (u := .type "tuple") (by rfl) T.z_tuple (by decide +kernel) rfl) pa_nil))) (pe_one (pe_callB (r := rAll K) (id := "all") (cr_all rfl) (by rfl) T.z_all (by decide +kernel) (pa_cons (pe_lc (own := [("item", 1)]) (g := gName 1) (tt := tYes) rfl sc_has_form.nd (pi_tup (pv 0)) (blkOk_by (own := [("item", 1)]) (N := ["thing", "item"]) (sc := defScope s_has_form) (by decide +kernel)) (fun _ _ _ _ _ => (pg_name (i := 1) sc_has_form.nd rfl (Or.inl rfl))) (fun _ _ _ _ _ => pts_nil) (fun _ _ _ _ _ => (pe_call G_is_given hr (by rfl) T.g_is_given T.F_is_given.kp T.b_is_given .nil pass0 (pa_cons (pv 1) pa_nil)))) pa_nil)))))), ?_⟩
    obtain ⟨t, bt, ty, tt, hh⟩ := ht.ty kc
    rcases hh with ⟨rfl, no⟩ | ⟨a, xs, rfl, ha, rfl, hx, hi⟩
    · rw [schB_no no] at k
      tm_at "w"
      exact k _ (Same.refl H)
    · rw [schB_tup ha] at k
      tm_at "w"
      refine ⟨⟨_, SqT.of ha⟩, fun D nD => lc_tupF (fun i => xs[i]?.map fun x => V.bl (givB H x)) ha nD (by omega) ?_ ?_⟩
      · intro i x H1 N M hx s1 kN kM
        have hix := hi x (List.mem_of_getElem? hx)
        tm_at "w"
        refine ⟨x, z, rfl, kc, hix.same s1, fun H2 s2 => ?_⟩
        refine kN _ _ ?_ s2
        rw [hx]
        exact congrArg (fun b => some (V.bl b)) (givB_keep hix fun a o _ e => s1 a o e).symm
      · intro H1 s1 hD
        rw [range_items] at hD
        tm_at "w"
        refine ⟨_, xs.map fun x => givB H x, rfl, SqL.of (by rw [List.map_map]; exact hD), ?_⟩
        rw [List.all_map]
        exact k _ s1
/-! check_scheme -/
def sp_check_scheme (C : Addr) (C_NoScheme : Addr) (K : PySem.W.Frag) : Sp := fun vs H Q E => ∃ (v : V) (z : Addr), vs = [v] ∧ KitC K C ∧ Th C z H 3 v ∧
  (schB H v = true → ∀ H', Same H H' → Q .non H') ∧ (schB H v = false → ∀ H', Same H H' → E (.ref C_NoScheme) none H')
theorem sc_check_scheme : FnScope ["thing"] ["thing"] (defScope s_check_scheme) := ⟨rfl, rfl, rfl, by decide +kernel, rfl, by decide +kernel, by decide +kernel⟩
theorem ok_check_scheme (T : Top P K mg) : FnOk P w K mg base (L2.CX P w) 4 T.f_check_scheme T.fd_check_scheme ["thing"] (sp_check_scheme T.C_Book T.C_NoScheme K) := by
  have G_NoScheme___init__ := ok_NoScheme___init__ (P := P) (w := w) (base := base) T
  have G_has_form := ok_has_form (P := P) (w := w) (base := base) T
  refine T.F_check_scheme.okX sc_check_scheme (fun vs H Q E h => ?_) (fun cdv A outer s H vs Q E hr h => ?_)
  · obtain ⟨v, z, rfl, _⟩ := h
    rfl
  · obtain ⟨v, z, rfl, kc, ht, k, ke⟩ := h
    refine ⟨_, (pss_one (ps_if (pt_not (pt_val (pe_call G_has_form hr (by rfl) T.g_has_form T.F_has_form.kp T.b_has_form .nil pass0 (pa_cons (pv 0) pa_nil)))) (pss_one (ps_raise rfl (takes_of rfl rfl rfl rfl) (pmk_n T.er_NoScheme.ex T.er_NoScheme.ic T.er_NoScheme.ti G_NoScheme___init__ (hr.mono (by decide)) T.er_NoScheme.bi pass0 (by rfl) T.er_NoScheme.g))) pss_nil)), ?_⟩
    tm_at "w"
    refine ⟨v, z, rfl, kc, ht, fun H1 s1 => ?_⟩
    refine ⟨_, rfl, ?_⟩
    cases e : schB H v with
    | true =>
      refine iteEF (by rfl) ?_
      exact k e _ s1
    | false =>
      refine iteET (by rfl) ?_
      exact ke e _ s1
/-! told -/
def sp_told (K : PySem.W.Frag) : Sp := fun vs H Q _ => ∃ (a : Addr) (S : List Tr) (x p : Nat) (ex ep : Tr), vs = [.ref a, .int x, .int p] ∧ SchAt H a S ∧ S[x]? = some ex ∧ S[p]? = some ep ∧ 0 ≤ ep.1 ∧ Q (.bl (saysB ex ep)) H
theorem sc_told : FnScope ["scheme", "x", "p", "entries", "slot", "number", "row"] ["scheme", "x", "p"] (defScope s_told) := ⟨rfl, rfl, rfl, by decide +kernel, rfl, by decide +kernel, by decide +kernel⟩
theorem ok_told (T : Top P K mg) : FnOk P w K mg base CX0 1 T.f_told T.fd_told ["scheme", "x", "p"] (sp_told K) := by
  refine T.F_told.ok sc_told (fun vs H Q E h => ?_) (fun cdv A outer s H vs Q E hr h => ?_)
  · obtain ⟨a, S, x, p, ex, ep, rfl, _⟩ := h
    rfl
  · obtain ⟨a, S, x, p, ⟨s1, n1, r1⟩, ⟨s2, n2, r2⟩, rfl, hS, hx, hp, h0, k⟩ := h
    obtain ⟨vs, px, qx, ha, hl, hvx, hpx, hqx⟩ := hS.at hx
    obtain ⟨vs', pp, qp, ha', hl', hvp, hpp, hqp⟩ := hS.at hp
    have ev : vs = vs' := HO.tup.inj (Option.some.inj (ha.symm.trans ha'))
    subst ev
    refine ⟨_, (pss_cons (ps_asg (pe_ix (r := rIxT K) ix_tup (pv 0) (pv 2) (fun _ _ => rfl)) (pg_tup rfl (pgs_cons (pg_name (i := 4) sc_told.nd rfl (Or.inl rfl)) (pgs_cons (pg_name (i := 5) sc_told.nd rfl (Or.inl rfl)) (pgs_cons (pg_name (i := 6) sc_told.nd rfl (Or.inl rfl)) pgs_nil)))))
      (pss_cons (ps_set (i := 3) sc_told.nd rfl (Or.inl rfl) (pe_ix (r := rIxT K) ix_tup (pe_ix (r := rIxT K) ix_tup (pv 0) (pv 1) (fun _ _ => rfl)) pe_int (fun _ _ => rfl)))
      (pss_one (ps_ret (pe_and (pe_cmpR op_lt (pv 4) (pe_callB (r := rLenQ K) (id := "len") call_len_seq (by rfl) T.z_len (by decide +kernel) (pa_cons (pv 3) pa_nil)) (nomark _)) (pe_one (pe_cmpR op_ge (pe_ix (r := rIxT K) ix_tup (pv 3) (pv 4) (fun _ _ => rfl)) (pv 5) (nomark _)))))))), ?_⟩
    tm_at "w"
    refine iteD (fun h1 => ?_) (fun h1 => ?_)
    · rw [List.length_map] at h1
      tm_at "w"
      refine ⟨_, _, _, _, rfl, rfl, by tm_at "sqt", at_map h0 h1, ?_⟩
      tm_at "w"
      have e : saysB (s1, n1, r1) (s2, n2, r2) = decide (n2 ≤ r1.getD s2.toNat 0) := by
        show (decide (s2 < (r1.length : Int)) && decide (n2 ≤ r1.getD s2.toNat 0)) = _
        rw [decide_eq_true h1, Bool.true_and]
      rw [e] at k
      exact k
    · rw [List.length_map] at h1
      have e : saysB (s1, n1, r1) (s2, n2, r2) = false := by
        show (decide (s2 < (r1.length : Int)) && decide (n2 ≤ r1.getD s2.toNat 0)) = _
        rw [decide_eq_false h1, Bool.false_and]
      rw [e] at k
      exact k
/-! check_kinds -/
/-- the length of a thing that is a tuple, and whether some things are kinds below it -/
def lenB (H : Hp) (v : V) : Nat := match v with
  | .ref a => match H a with
    | some (.tup xs) => xs.length
    | _ => 0
  | _ => 0
def kinB (H : Hp) (v : V) (xs : List V) : Bool := xs.all fun x => withinB x 0 ((lenB H v : Int) - 1)
theorem lenB_tup {H : Hp} {a : Addr} {xs : List V} (h : H a = some (.tup xs)) : lenB H (.ref a) = xs.length := by
  simp only [lenB, h]
theorem lenB_keep {C z : Addr} {H H' : Hp} {k : Nat} {v : V} (h : Th C z H k v) (s : ∀ a o, a ≠ z → H a = some o → H' a = some o) : lenB H' v = lenB H v := by
  cases h with
  | int _ i => rfl
  | bl _ b => rfl
  | non _ => rfl
  | str _ x => rfl
  | lst _ a xs h1 h2 => simp only [lenB, h2, s _ _ h1 h2]
  | dK _ a xs h1 h2 => simp only [lenB, h2, s _ _ h1 h2]
  | ins _ a dx fs h1 h2 => simp only [lenB, h2, s _ _ h1 h2]
  | tup0 a xs h1 h2 => simp only [lenB, h2, s _ _ h1 h2]
  | tup m a xs h1 h2 h3 h4 => simp only [lenB, h2, s _ _ h1 h2]
theorem kinB_keep {C z : Addr} {H H' : Hp} {k : Nat} {v : V} {xs : List V} (h : Th C z H k v) (s : ∀ a o, a ≠ z → H a = some o → H' a = some o) : kinB H' v xs = kinB H v xs := by
  unfold kinB
  rw [lenB_keep h s]
def sp_check_kinds (C : Addr) (C_NoScheme : Addr) (C_NoKind : Addr) (K : PySem.W.Frag) : Sp := fun vs H Q E => ∃ (v : V) (z s : Addr) (xs : List V), vs = [v, .ref s] ∧ KitC K C ∧ Th C z H 3 v ∧ H s = some (.tup xs) ∧ (∀ x ∈ xs, Th C z H 1 x) ∧
  (schB H v = true → kinB H v xs = true → ∀ H', Same H H' → Q .non H') ∧ (schB H v = false → ∀ H', Same H H' → E (.ref C_NoScheme) none H') ∧ (schB H v = true → kinB H v xs = false → ∀ H', Same H H' → E (.ref C_NoKind) none H')
theorem sc_check_kinds : FnScope ["scheme", "some", "thing"] ["scheme", "some"] (defScope s_check_kinds) := ⟨rfl, rfl, rfl, by decide +kernel, rfl, by decide +kernel, by decide +kernel⟩
theorem ok_check_kinds (T : Top P K mg) : FnOk P w K mg base (L2.CX P w) 5 T.f_check_kinds T.fd_check_kinds ["scheme", "some"] (sp_check_kinds T.C_Book T.C_NoScheme T.C_NoKind K) := by
  have G_check_kind_of := ok_check_kind_of (P := P) (w := w) (base := base) T
  have G_check_scheme := ok_check_scheme (P := P) (w := w) (base := base) T
  refine T.F_check_kinds.okX sc_check_kinds (fun vs H Q E h => ?_) (fun cdv A outer s H vs Q E hr h => ?_)
  · obtain ⟨v, z, s, xs, rfl, _⟩ := h
    rfl
  · obtain ⟨v, z, s, xs, rfl, kc, ht, hs, hx, k, ke, kk⟩ := h
    refine ⟨_, (pss_cons (ps_expr (pe_callS G_check_scheme hr (by rfl) T.g_check_scheme T.F_check_scheme.kp T.b_check_scheme (fun σ => passAt (takes_of rfl rfl rfl rfl) σ) (by exact (pa_cons (pv 0) pa_nil))))
      (pss_one (ps_for (passes_of rfl) rfl (pi_tup (pv 1)) (pg_name (i := 2) sc_check_kinds.nd rfl (Or.inl rfl))
      (pss_one (ps_expr (pe_callS G_check_kind_of (hr.mono (by decide)) (by rfl) T.g_check_kind_of T.F_check_kind_of.kp T.b_check_kind_of (fun σ => passAt (takes_of rfl rfl rfl rfl) σ) (by exact (pa_cons (pv 2) (pa_cons (pe_callB (r := rLenQ K) (id := "len") call_len_seq (by rfl) T.z_len (by decide +kernel) (pa_cons (pv 0) pa_nil)) pa_nil))))))))), ?_⟩
    tm_at "w"
    refine ⟨v, z, rfl, kc, ht, fun e H1 s1 => ?_, fun e H1 s1 => ke e H1 s1⟩
    have k := k e
    have kk := kk e
    obtain ⟨a, S, rfl, hS, h0, hn⟩ := schB_of e ht
    obtain ⟨ws, hws, hwl, _⟩ := id hS
    have hs1 := s1 _ _ hs
    have hws1 := s1 _ _ hws
    have el : lenB H (.ref a) = ws.length := lenB_tup hws
    tm_at "w"
    refine ⟨⟨_, SqT.of hs1⟩, for_tup (K := K) (a := s) (xs := xs) (fun j σ H2 => ∃ u, σ = [some (.ref a), some (.ref s), u] ∧ H2 = H1 ∧ ((xs.take j).all fun x => withinB x 0 ((ws.length : Int) - 1)) = true) ⟨none, rfl, rfl, rfl⟩ ?_ ?_ ?_⟩
    · rintro j σ H2 _ ⟨_, rfl, rfl, _⟩
      exact SqT.of hs1
    · rintro j x σ H2 hv ⟨u0, rfl, rfl, hp⟩
      have hix := ((hx x (List.mem_of_getElem? hv)).same s1).intK kc
      tm_at "w"
      refine ⟨x, (ws.length : Int), rfl, hix, fun e2 => ?_, fun e2 => ?_⟩
      · refine ⟨_, rfl, rfl, ?_⟩
        rw [List.take_succ, hv, List.all_append, hp]
        show (withinB x 0 ((ws.length : Int) - 1) && true) = true
        rw [e2]
        rfl
      · refine kk ?_ _ s1
        cases e3 : kinB H (.ref a) xs with
        | false => rfl
        | true =>
          have q := List.all_eq_true.mp e3 x (List.mem_of_getElem? hv)
          rw [el, e2] at q
          cases q
    · rintro σ H2 ⟨u0, rfl, rfl, hp⟩
      rw [List.take_length] at hp
      refine k ?_ _ s1
      unfold kinB
      rw [el]
      exact hp
/-! told_lot -/
def saysI (S : List Tr) (x p : Nat) : Bool := match S[x]?, S[p]? with
  | some ex, some ep => saysB ex ep
  | _, _ => false
theorem saysI_at {S : List Tr} {x p : Nat} {ex ep : Tr} (h1 : S[x]? = some ex) (h2 : S[p]? = some ep) : saysI S x p = saysB ex ep := by
  unfold saysI
  rw [h1, h2]
/-- the lot of the kinds that a scheme says all of some are -/
def lotS (S : List Tr) (xs : List Nat) : List Nat := (List.range S.length).filter fun p => xs.all fun x => saysI S x p
theorem lotS_len (S : List Tr) (xs : List Nat) : (lotS S xs).length ≤ S.length := by
  have := List.length_filter_le (fun p => xs.all fun x => saysI S x p) (List.range S.length)
  rw [List.length_range] at this
  exact this
theorem range_bls (xs : List Nat) (f : Nat → Bool) : ((List.range xs.length).filterMap fun j => xs[j]?.map fun x => V.bl (f x)) = (xs.map f).map V.bl := by
  rw [List.map_map]
  exact range_items xs fun x => V.bl (f x)
def sp_told_lot (K : PySem.W.Frag) : Sp := fun vs H Q _ => ∃ (a s : Addr) (S : List Tr) (xs : List Nat), vs = [.ref a, .ref s] ∧ SchAt H a S ∧ (∀ e ∈ S, 0 ≤ e.1 ∧ e.2.2.length ≤ 1000) ∧ S.length ≤ 1000 ∧ H s = some (.tup (natsV xs)) ∧ (∀ x ∈ xs, x < S.length) ∧ xs.length ≤ 1000 ∧ ∀ t H', Same H H' → H' t = some (.tup (natsV (lotS S xs))) → Q (.ref t) H'
theorem sc_told_lot : FnScope ["scheme", "some", "p", "x"] ["scheme", "some"] (defScope s_told_lot) := ⟨rfl, rfl, rfl, by decide +kernel, rfl, by decide +kernel, by decide +kernel⟩
theorem ok_told_lot (T : Top P K mg) : FnOk P w K mg base CX0 2 T.f_told_lot T.fd_told_lot ["scheme", "some"] (sp_told_lot K) := by
  have G_told := ok_told (P := P) (w := w) (base := base) T
  refine T.F_told_lot.ok sc_told_lot (fun vs H Q E h => ?_) (fun cdv A outer s H vs Q E hr h => ?_)
  · obtain ⟨a, s, S, xs, rfl, _⟩ := h
    rfl
  · obtain ⟨a, s, S, xs, rfl, hS, h0, hn, hs, hx, hxl, k⟩ := h
    refine ⟨_, (pss_one (ps_ret (pe_callTy (r := rTupQ K) (T := "tuple") call_tuple_of (by rfl) T.z_tuple (by decide +kernel) (pa_cons (pe_lc (own := [("p", 2)]) (g := gName 2) rfl sc_told_lot.nd (pi_range1 rfl T.z_range (pa_cons (pe_callB (r := rLenQ K) (id := "len") call_len_seq (by rfl) T.z_len (by decide +kernel) (pa_cons (pv 0) pa_nil)) pa_nil)) (blkOk_by (own := [("p", 2)]) (N := ["scheme", "some", "p", "x"]) (sc := defScope s_told_lot) (by decide +kernel)) (fun _ _ _ _ _ => (pg_name (i := 2) sc_told_lot.nd rfl (Or.inr rfl))) (fun _ _ _ _ _ => (pts_one (pt_val (pe_callB (r := rAll K) (id := "all") (cr_all rfl) (by rfl) T.z_all (by decide +kernel) (pa_cons (by exact (pe_lc (own := [("x", 3)]) (g := gName 3) (tt := tYes) rfl sc_told_lot.nd (pi_tupK (K := K) rfl (pv 1)) (blk_in (own := [("x", 3)]) (N := ["scheme", "some", "p", "x"]) (sc1 := defScope s_told_lot) rfl rfl (by decide +kernel)) (fun _ _ _ _ _ => (pg_name (i := 3) sc_told_lot.nd rfl (Or.inl rfl))) (fun _ _ _ _ _ => pts_nil) (fun _ _ _ _ _ => (pe_call G_told hr (by rfl) T.g_told T.F_told.kp T.b_told .nil pass0 (pa_cons (pv 0) (pa_cons (pv 3) (pa_cons (pv 2) pa_nil))))))) pa_nil))))) (fun _ _ _ _ _ => (pv 2))) pa_nil)))), ?_⟩
    obtain ⟨ws, hws, hwl, _⟩ := id hS
    tm_at "w"
    intro D nD
    refine lc_rangeF (fun p => if (xs.all fun x => saysI S x p) = true then some (V.int (p : Int)) else none) nD (by omega) ?_ ?_
    · intro p H1 N M hp s1 kN kM
      have pl : p < S.length := by omega
      rw [Int.zero_add]
      have hs1 := s1 _ _ hs
      have hS1 := hS.tk (Same.tk s1)
      tm_at "w"
      refine ⟨⟨_, SqT.of hs1⟩, fun E nE => lc_tupF (fun j => xs[j]?.map fun x => V.bl (saysI S x p)) hs1 nE (by rw [natsV_len]; omega) ?_ ?_⟩
      · intro j y H2 N2 M2 hy s2 kN2 kM2
        obtain ⟨x, hx2, rfl, _⟩ := natsV_here hy
        have xl := hx x (List.mem_of_getElem? hx2)
        tm_at "w"
        refine ⟨a, S, x, p, _, _, rfl, hS1.tk (Same.tk s2), List.getElem?_eq_getElem xl, List.getElem?_eq_getElem pl, (h0 _ (List.getElem_mem pl)).1, ?_⟩
        exact kN2 _ _ (by rw [hx2, ← saysI_at (List.getElem?_eq_getElem xl) (List.getElem?_eq_getElem pl)]; rfl) (Same.refl H2)
      · intro H2 s2 hE
        rw [natsV_len, range_bls] at hE
        tm_at "w"
        refine ⟨_, _, rfl, SqL.of hE, ?_⟩
        have ea : (xs.map fun x => saysI S x p).all id = xs.all fun x => saysI S x p := by rw [List.all_map]; rfl
        rw [ea]
        refine ⟨_, rfl, ?_⟩
        refine iteB (fun e => ?_) (fun e => ?_)
        · tm_at "w"
          exact kN _ _ (by rw [e]; rfl) s2
        · exact kM _ (by rw [e]; rfl) s2
    · intro H1 s1 hD
      rw [Int.toNat_natCast, hwl, filter_nats] at hD
      tm_at "w"
      intro t nt
      exact k t _ (Same.new s1 nt) (by rw [upd_same]; rfl)
/-! lot_of -/
theorem new_hide {H X : Hp} {t : Addr} {o : HO} (s : Same H (upd X t o)) : ∃ H9, upd X t o = H9 ∧ Same H H9 ∧ H9 t = some o := ⟨_, rfl, s, upd_same⟩
theorem alloc_hide {H : Hp} {p : Addr} {o : HO} {R : Hp → Prop} (n : H p = none) (k : ∀ J, Same H J → J p = some o → R J) : R (upd H p o) := k _ (Same.new (Same.refl H) n) upd_same
def sp_lot_of (C : Addr) (C_NoScheme : Addr) (C_NoKind : Addr) (K : PySem.W.Frag) : Sp := fun vs H Q E => ∃ (v x : V) (z : Addr), vs = [v, x] ∧ KitC K C ∧ Th C z H 3 v ∧ Th C z H 1 x ∧
  (schB H v = true → kinB H v [x] = true → ∀ u H', Same H H' → Q u H') ∧ (schB H v = false → ∀ H', Same H H' → E (.ref C_NoScheme) none H') ∧ (schB H v = true → kinB H v [x] = false → ∀ H', Same H H' → E (.ref C_NoKind) none H')
theorem sc_lot_of : FnScope ["scheme", "x"] ["scheme", "x"] (defScope s_lot_of) := ⟨rfl, rfl, rfl, by decide +kernel, rfl, by decide +kernel, by decide +kernel⟩
theorem ok_lot_of (T : Top P K mg) : FnOk P w K mg base (L2.CX P w) 6 T.f_lot_of T.fd_lot_of ["scheme", "x"] (sp_lot_of T.C_Book T.C_NoScheme T.C_NoKind K) := by
  have G_check_kinds := ok_check_kinds (P := P) (w := w) (base := base) T
  have G_told_lot := ok_told_lot (P := P) (w := w) (base := base) T
  refine T.F_lot_of.okX sc_lot_of (fun vs H Q E h => ?_) (fun cdv A outer s H vs Q E hr h => ?_)
  · obtain ⟨v, x, z, rfl, _⟩ := h
    rfl
  · obtain ⟨v, x, z, rfl, kc, ht, hx, k, ke, kk⟩ := h
    refine ⟨_, (pss_cons (ps_expr (pe_callS G_check_kinds hr (by rfl) T.g_check_kinds T.F_check_kinds.kp T.b_check_kinds (fun σ => passAt (takes_of rfl rfl rfl rfl) σ) (by exact (pa_cons (pv 0) (pa_cons (pe_tup (pa_cons (pv 1) pa_nil)) pa_nil)))))
      (pss_one (ps_ret (pe_call G_told_lot (hr.mono (by decide)) (by rfl) T.g_told_lot T.F_told_lot.kp T.b_told_lot .nil pass0 (pa_cons (pv 0) (pa_cons (pe_tup (pa_cons (pv 1) pa_nil)) pa_nil)))))), ?_⟩
    tm_at "w"
    intro p np
    obtain ⟨H1, e1, s1, hp⟩ := new_hide (Same.new (o := .tup [x]) (Same.refl H) np)
    rw [e1]
    have es : schB H1 v = schB H v := schB_keep ht fun a o _ e => s1 a o e
    have ek : kinB H1 v [x] = kinB H v [x] := kinB_keep ht fun a o _ e => s1 a o e
    have hi : ∀ w ∈ [x], Th T.C_Book z H1 1 w := fun w hw => by
      rw [List.mem_singleton.mp hw]
      exact hx.same s1
    tm_at "w"
    refine ⟨v, z, p, [x], rfl, kc, ht.same s1, hp, hi, fun e e2 H2 s2 => ?_, fun e H2 s2 => ke (es ▸ e) _ (Same.trans s1 s2), fun e e2 H2 s2 => kk (es ▸ e) (ek ▸ e2) _ (Same.trans s1 s2)⟩
    rw [es] at e
    rw [ek] at e2
    have kq := k e e2
    have s12 := Same.trans s1 s2
    obtain ⟨a, S, rfl, hS, h0, hn⟩ := schB_of e ht
    obtain ⟨ws, hws, hwl, _⟩ := id hS
    have el : lenB H (.ref a) = S.length := (lenB_tup hws).trans hwl
    unfold kinB at e2
    rw [el] at e2
    obtain ⟨x, rfl, xl⟩ := within_nat (List.all_eq_true.mp e2 x (by simp))
    tm_at "w"
    intro p2 np2
    have s3 := Same.new (o := .tup [V.int (x : Int)]) s12 np2
    tm_at "w"
    refine ⟨a, p2, S, [x], rfl, hS.tk (Same.tk s3), h0, hn, upd_same, (fun w hw => by rw [List.mem_singleton.mp hw]; exact xl), by simp, fun t H4 s4 ht => ?_⟩
    exact kq _ _ (Same.trans s3 s4)
/-! common -/
def sp_common (C : Addr) (C_NoScheme : Addr) (C_NoKind : Addr) (K : PySem.W.Frag) : Sp := fun vs H Q E => ∃ (v x y : V) (z : Addr), vs = [v, x, y] ∧ KitC K C ∧ Th C z H 3 v ∧ Th C z H 1 x ∧ Th C z H 1 y ∧
  (schB H v = true → kinB H v [x, y] = true → ∀ u H', Same H H' → Q u H') ∧ (schB H v = false → ∀ H', Same H H' → E (.ref C_NoScheme) none H') ∧ (schB H v = true → kinB H v [x, y] = false → ∀ H', Same H H' → E (.ref C_NoKind) none H')
theorem sc_common : FnScope ["scheme", "x", "y"] ["scheme", "x", "y"] (defScope s_common) := ⟨rfl, rfl, rfl, by decide +kernel, rfl, by decide +kernel, by decide +kernel⟩
theorem ok_common (T : Top P K mg) : FnOk P w K mg base (L2.CX P w) 6 T.f_common T.fd_common ["scheme", "x", "y"] (sp_common T.C_Book T.C_NoScheme T.C_NoKind K) := by
  have G_check_kinds := ok_check_kinds (P := P) (w := w) (base := base) T
  have G_told_lot := ok_told_lot (P := P) (w := w) (base := base) T
  refine T.F_common.okX sc_common (fun vs H Q E h => ?_) (fun cdv A outer s H vs Q E hr h => ?_)
  · obtain ⟨v, x, y, z, rfl, _⟩ := h
    rfl
  · obtain ⟨v, x, y, z, rfl, kc, ht, hx, hy, k, ke, kk⟩ := h
    refine ⟨_, (pss_cons (ps_expr (pe_callS G_check_kinds hr (by rfl) T.g_check_kinds T.F_check_kinds.kp T.b_check_kinds (fun σ => passAt (takes_of rfl rfl rfl rfl) σ) (by exact (pa_cons (pv 0) (pa_cons (pe_tup (pa_cons (pv 1) (pa_cons (pv 2) pa_nil))) pa_nil)))))
      (pss_one (ps_ret (pe_call G_told_lot (hr.mono (by decide)) (by rfl) T.g_told_lot T.F_told_lot.kp T.b_told_lot .nil pass0 (pa_cons (pv 0) (pa_cons (pe_tup (pa_cons (pv 1) (pa_cons (pv 2) pa_nil))) pa_nil)))))), ?_⟩
    tm_at "w"
    intro p np
    obtain ⟨H1, e1, s1, hp⟩ := new_hide (Same.new (o := .tup [x, y]) (Same.refl H) np)
    rw [e1]
    have es : schB H1 v = schB H v := schB_keep ht fun a o _ e => s1 a o e
    have ek : kinB H1 v [x, y] = kinB H v [x, y] := kinB_keep ht fun a o _ e => s1 a o e
    have hi : ∀ w ∈ [x, y], Th T.C_Book z H1 1 w := fun w hw => by
      rcases List.mem_cons.mp hw with e | hw
      · rw [e]; exact hx.same s1
      · rw [List.mem_singleton.mp hw]; exact hy.same s1
    tm_at "w"
    refine ⟨v, z, p, [x, y], rfl, kc, ht.same s1, hp, hi, fun e e2 H2 s2 => ?_, fun e H2 s2 => ke (es ▸ e) _ (Same.trans s1 s2), fun e e2 H2 s2 => kk (es ▸ e) (ek ▸ e2) _ (Same.trans s1 s2)⟩
    rw [es] at e
    rw [ek] at e2
    have kq := k e e2
    have s12 := Same.trans s1 s2
    obtain ⟨a, S, rfl, hS, h0, hn⟩ := schB_of e ht
    obtain ⟨ws, hws, hwl, _⟩ := id hS
    have el : lenB H (.ref a) = S.length := (lenB_tup hws).trans hwl
    unfold kinB at e2
    rw [el] at e2
    obtain ⟨x, rfl, xl⟩ := within_nat (List.all_eq_true.mp e2 x (by simp))
    obtain ⟨y, rfl, yl⟩ := within_nat (List.all_eq_true.mp e2 y (by simp))
    tm_at "w"
    intro p2 np2
    have s3 := Same.new (o := .tup [V.int (x : Int), V.int (y : Int)]) s12 np2
    tm_at "w"
    refine ⟨a, p2, S, [x, y], rfl, hS.tk (Same.tk s3), h0, hn, upd_same, (fun w hw => by simp only [List.mem_cons, List.not_mem_nil, or_false] at hw; rcases hw with rfl | rfl <;> assumption), by simp, fun t H4 s4 ht => ?_⟩
    exact kq _ _ (Same.trans s3 s4)
/-! meet -/
/-! ### zip of two tuples of any lengths -/
theorem lc_zipTM {K : PySem.W.Frag} {a b : Addr} {xs ys : List V} {g : TG} {tt : TT} {te : TE} {vs : List Nat} {σ : St} {H1 : Hp} {D : Addr} {Qd : Hp → Prop} {n : Nat} (f : Nat → Option V) (hx : H1 a = some (.tup xs)) (hy : H1 b = some (.tup ys)) (hl : min xs.length ys.length = n) (nD : H1 D = none) (hn : n ≤ 100000)
    (hs : ∀ (i : Nat) (x y : V) (Z : Addr) (H : Hp) (N : V → Hp → Prop) (M : Hp → Prop), xs[i]? = some x → ys[i]? = some y → Same H1 H → H Z = some (.tup [x, y]) → (∀ v H4, f i = some v → Same H H4 → N v H4) → (∀ H4, f i = none → Same H H4 → M H4) → g (.ref Z) (wipe σ vs) H fun σ2 H2 => wipe σ2 vs = wipe σ vs ∧ tt σ2 H2 fun b H3 => if b = true then te σ2 H3 N else M H3)
    (hd : ∀ H, Same H1 H → H D = some (.lst ((List.range n).filterMap f)) → Qd H) : ∃ W : Nat → Nat → Hp → Prop, (∃ m, W 0 m (upd H1 D (.lst []))) ∧ ∀ i m H, W i m H →
      ((RZ.ItzT K a b).stop i H ∧ Qd H) ∨ ((RZ.ItzT K a b).go i H ∧ ∃ Nx : Hp → Prop, (∀ H', Nx H' → ∃ m', m' < m ∧ W (i + 1) m' H') ∧ ∀ x H', (RZ.ItzT K a b).yld i H x H' → g x (wipe σ vs) H' fun σ2 H2 => wipe σ2 vs = wipe σ vs ∧ tt σ2 H2 fun b H3 =>
        if b = true then te σ2 H3 fun y H4 => ∃ acc, H4 D = some (.lst acc) ∧ acc.length < sizeLine ∧ Nx (upd H4 D (.lst (acc ++ [y]))) else Nx H3) := by
  refine ⟨fun i m H => m = n - i ∧ i ≤ n ∧ Same H1 H ∧ H D = some (.lst ((List.range i).filterMap f)), ⟨n, rfl, Nat.zero_le _, Same.new (Same.refl H1) nD, upd_same⟩, ?_⟩
  rintro i m H ⟨rfl, hi, s, hD⟩
  have qx : SqT K H a xs := SqT.of (s _ _ hx)
  have qy : SqT K H b ys := SqT.of (s _ _ hy)
  have hz := filterMap_range_len f i
  by_cases hlt : i < n
  · have ex : xs[i]? = some (xs[i]'(by omega)) := List.getElem?_eq_getElem (by omega)
    have ey : ys[i]? = some (ys[i]'(by omega)) := List.getElem?_eq_getElem (by omega)
    refine .inr ⟨⟨xs, ys, _, _, qx, qy, ex, ey⟩, fun H => i < n ∧ Same H1 H ∧ H D = some (.lst ((List.range (i + 1)).filterMap f)), fun H' p' => ⟨n - (i + 1), by omega, rfl, hlt, p'.2⟩, fun v H' y => ?_⟩
    obtain ⟨Z, x', y', rfl, hZ, rfl, f1, f2⟩ := y
    have s1 : Same H (upd H Z (.tup [x', y'])) := Same.new (Same.refl H) hZ
    refine hs i x' y' Z _ _ _ (f1 xs qx) (f2 ys qy) (s.trans s1) upd_same (fun v H4 e s4 => ⟨_, s4 _ _ (s1 _ _ hD), lt_line (by omega), hlt, ?_, ?_⟩) (fun H4 e s4 => ⟨hlt, ?_, ?_⟩)
    · exact Same.mut ((s.trans s1).trans s4) nD
    · rw [filterMap_range_succ, e]
      exact upd_same
    · exact (s.trans s1).trans s4
    · rw [filterMap_range_succ, e, s4 _ _ (s1 _ _ hD)]
      simp
  · have e : i = n := by omega
    subst e
    exact .inl ⟨⟨xs, ys, qx, qy, by omega⟩, hd H s hD⟩
def minZ (i j : Int) : Int := if j < i then j else i
theorem minZ_comm (i j : Int) : minZ i j = minZ j i := by
  unfold minZ
  split <;> split <;> omega
/-- the lesser ones of two rows -/
def minsB (a b : List Int) : List Int := List.zipWith minZ a b
theorem minsB_comm (a b : List Int) : minsB a b = minsB b a := by
  unfold minsB
  rw [List.zipWith_comm]
  congr 1
  funext i j
  exact minZ_comm j i
theorem minsB_len (a b : List Int) : (minsB a b).length = min a.length b.length := List.length_zipWith
theorem minsB_at {a b : List Int} {i : Nat} {x y : Int} (hx : a[i]? = some x) (hy : b[i]? = some y) : (minsB a b)[i]? = some (minZ x y) := by
  unfold minsB
  rw [List.getElem?_zipWith, hx, hy]
theorem mins_list (a b : List Int) : ((List.range (min a.length b.length)).filterMap fun i => (minsB a b)[i]?.map V.int) = (minsB a b).map V.int := by
  rw [← minsB_len]
  exact range_items _ _
def sp_meet (C : Addr) (C_NoScheme : Addr) (C_NoKind : Addr) (K : PySem.W.Frag) : Sp := fun vs H Q E => ∃ (v x y : V) (z : Addr), vs = [v, x, y] ∧ KitC K C ∧ Th C z H 3 v ∧ Th C z H 1 x ∧ Th C z H 1 y ∧
  (schB H v = true → kinB H v [x, y] = true → ∀ u H', Same H H' → Q u H') ∧ (schB H v = false → ∀ H', Same H H' → E (.ref C_NoScheme) none H') ∧ (schB H v = true → kinB H v [x, y] = false → ∀ H', Same H H' → E (.ref C_NoKind) none H')
theorem sc_meet : FnScope ["scheme", "x", "y", "one", "other"] ["scheme", "x", "y"] (defScope s_meet) := ⟨rfl, rfl, rfl, by decide +kernel, rfl, by decide +kernel, by decide +kernel⟩
theorem ok_meet (T : Top P K mg) : FnOk P w K mg base (L2.CX P w) 6 T.f_meet T.fd_meet ["scheme", "x", "y"] (sp_meet T.C_Book T.C_NoScheme T.C_NoKind K) := by
  have G_check_kinds := ok_check_kinds (P := P) (w := w) (base := base) T
  refine T.F_meet.okX sc_meet (fun vs H Q E h => ?_) (fun cdv A outer s H vs Q E hr h => ?_)
  · obtain ⟨v, x, y, z, rfl, _⟩ := h
    rfl
  · obtain ⟨v, x, y, z, rfl, kc, ht, hx, hy, k, ke, kk⟩ := h
    refine ⟨_, (pss_cons (ps_expr (pe_callS G_check_kinds hr (by rfl) T.g_check_kinds T.F_check_kinds.kp T.b_check_kinds (fun σ => passAt (takes_of rfl rfl rfl rfl) σ) (by exact (pa_cons (pv 0) (pa_cons (pe_tup (pa_cons (pv 1) (pa_cons (pv 2) pa_nil))) pa_nil)))))
      (pss_one (ps_ret (pe_callTy (r := rTupQ K) (T := "tuple") call_tuple_of (by rfl) T.z_tuple (by decide +kernel) (pa_cons (pe_lc (own := [("one", 3), ("other", 4)]) (tt := tYes) rfl sc_meet.nd (RZ.pi_zipA (by rfl) T.z_zip (pa_cons (pe_ix (r := rIxT K) ix_tup (pe_ix (r := rIxT K) ix_tup (pv 0) (pv 1) (fun _ _ => rfl)) pe_int (fun _ _ => rfl)) (pa_cons (pe_ix (r := rIxT K) ix_tup (pe_ix (r := rIxT K) ix_tup (pv 0) (pv 2) (fun _ _ => rfl)) pe_int (fun _ _ => rfl)) pa_nil))) (blkOk_by (own := [("one", 3), ("other", 4)]) (N := ["scheme", "x", "y", "one", "other"]) (sc := defScope s_meet) (by decide +kernel)) (fun _ _ _ _ _ => (pg_tupK (K := K) 2 rfl rfl (pgs_cons (pg_name (i := 3) sc_meet.nd rfl (Or.inl rfl)) (pgs_cons (pg_name (i := 4) sc_meet.nd rfl (Or.inl rfl)) pgs_nil)))) (fun _ _ _ _ _ => pts_nil) (fun _ _ _ _ _ => (pe_callB (id := "min") (call_min2 rfl) (by rfl) T.z_min (by decide +kernel) (pa_cons (pv 3) (pa_cons (pv 4) pa_nil))))) pa_nil))))), ?_⟩
    tm_at "w"
    intro p np
    obtain ⟨H1, e1, s1, hp⟩ := new_hide (Same.new (o := .tup [x, y]) (Same.refl H) np)
    rw [e1]
    have es : schB H1 v = schB H v := schB_keep ht fun a o _ e => s1 a o e
    have ek : kinB H1 v [x, y] = kinB H v [x, y] := kinB_keep ht fun a o _ e => s1 a o e
    have hi : ∀ w ∈ [x, y], Th T.C_Book z H1 1 w := fun w hw => by
      rcases List.mem_cons.mp hw with e | hw
      · rw [e]; exact hx.same s1
      · rw [List.mem_singleton.mp hw]; exact hy.same s1
    tm_at "w"
    refine ⟨v, z, p, [x, y], rfl, kc, ht.same s1, hp, hi, fun e e2 H2 s2 => ?_, fun e H2 s2 => ke (es ▸ e) _ (Same.trans s1 s2), fun e e2 H2 s2 => kk (es ▸ e) (ek ▸ e2) _ (Same.trans s1 s2)⟩
    rw [es] at e
    rw [ek] at e2
    have kq := k e e2
    have s12 := Same.trans s1 s2
    obtain ⟨a, S, rfl, hS, h0, hn⟩ := schB_of e ht
    obtain ⟨ws, hws, hwl, _⟩ := id hS
    have el : lenB H (.ref a) = S.length := (lenB_tup hws).trans hwl
    unfold kinB at e2
    rw [el] at e2
    obtain ⟨x, rfl, xl⟩ := within_nat (List.all_eq_true.mp e2 x (by simp))
    obtain ⟨y, rfl, yl⟩ := within_nat (List.all_eq_true.mp e2 y (by simp))
    have hx := List.getElem?_eq_getElem xl
    have hy := List.getElem?_eq_getElem yl
    obtain ⟨vs, px, qx, ha, hl, hvx, hpx, hqx⟩ := (hS.tk (Same.tk s12)).at hx
    obtain ⟨vs', py, qy, ha', hl', hvy, hpy, hqy⟩ := (hS.tk (Same.tk s12)).at hy
    have ev : vs = vs' := HO.tup.inj (Option.some.inj (ha.symm.trans ha'))
    subst ev
    have rx := (h0 _ (List.mem_of_getElem? hx)).2
    tm_at "w"
    refine ⟨_, _, _, _, rfl, .inr ⟨SqT.of hqx, SqT.of hqy, fun D nD => lc_zipTM (n := min S[x].2.2.length S[y].2.2.length) (fun i => (minsB S[x].2.2 S[y].2.2)[i]?.map V.int) hqx hqy (by rw [List.length_map, List.length_map]) nD (by omega) ?_ ?_⟩⟩
    · intro i u v Z H3 N M hu hv s3 hZ kN kM
      obtain ⟨z1, e1, rfl, _⟩ := int_here hu
      obtain ⟨z2, e2, rfl, _⟩ := int_here hv
      tm_at "w"
      exact ⟨_, _, rfl, kN (V.int (minZ z1 z2)) _ (by rw [minsB_at e1 e2]; rfl) (Same.refl H3)⟩
    · intro H3 s3 hD
      rw [mins_list] at hD
      tm_at "w"
      intro t nt
      exact kq _ _ (Same.new (Same.trans s12 s3) nt)
/-! _law_hand -/
def sp__law_hand (K : PySem.W.Frag) : Sp := fun vs H Q _ => ∃ (a : Addr) (ns : List Int), vs = [.ref a] ∧ SqL K H a (ns.map V.int) ∧ ns.length ≤ 63 ∧ ∀ (τ : Tp) (H' : Hp), Same H H' → H τ.t = none → Tape τ H' → Q (.ref τ.t) H'
theorem sc__law_hand : FnScope ["_law_script", "_law_cells", "_law_cell"] ["_law_script"] (defScope s__law_hand) := ⟨rfl, rfl, rfl, by decide +kernel, rfl, by decide +kernel, by decide +kernel⟩
theorem ok__law_hand (T : Top P K mg) : FnOk P w K mg base CX0 1 T.f__law_hand T.fd__law_hand ["_law_script"] (sp__law_hand K) := by
  refine T.F__law_hand.ok sc__law_hand (fun vs H Q E h => ?_) (fun cdv A outer s H vs Q E hr h => ?_)
  · obtain ⟨a, ns, rfl, _⟩ := h
    rfl
  · obtain ⟨a, ns, rfl, hS, h63, k⟩ := h
    refine ⟨_, (pss_cons (ps_setLc (i := 1) (own := [("_law_cell", 2)]) (g := gName 2) (tt := tYes) rfl sc__law_hand.nd rfl rfl (sw_true rfl rfl rfl (by decide +kernel)) (pi_list (pe_slice sl_list (pv 0) po_none (po_some pe_int))) (blkOk_by (own := [("_law_cell", 2)]) (N := ["_law_script", "_law_cells", "_law_cell"]) (sc := defScope s__law_hand) (by decide +kernel)) (fun _ _ _ _ _ => (pg_name (i := 2) sc__law_hand.nd rfl (Or.inl rfl))) (fun _ _ _ _ _ => pts_nil) (fun _ _ _ _ _ => (pe_callB (id := "abs") call_abs (by rfl) T.z_abs (by decide +kernel) (pa_cons (pe_callTy (T := "int") call_int1 (by rfl) T.z_int (by decide +kernel) (pa_cons (pv 2) pa_nil)) pa_nil))))
      (pss_one (ps_ret (pe_lst (pa_cons (pv 1) (pa_cons pe_int (pa_cons pe_int (pa_cons (pe_op op_add pe_int (pe_callB (r := rLenQ K) (id := "len") call_len_seq (by rfl) T.z_len (by decide +kernel) (pa_cons (pv 1) pa_nil))) (pa_cons pe_int pa_nil))))))))), ?_⟩
    tm_at "w"
    refine ⟨_, _, rfl, hS, fun p np => ?_⟩
    have e63 : cutV (ns.map V.int) none (some 63) = ns.map V.int := by
      unfold cutV
      rw [show HT.sIx (ns.map V.int).length 0 none = 0 from rfl, show (some 63 : Option Int) = some ((63 : Nat) : Int) from rfl, HT.sIx_nat, List.length_map, List.drop_zero]
      exact List.take_of_length_le (by rw [List.length_map]; omega)
    rw [e63]
    refine ⟨p, rfl, ⟨_, SqL.of upd_same⟩, fun D nD => lc_listR (fun _ v _ => IsI v) (fun _ _ _ _ h _ => h) upd_same nD (by rw [List.length_map]; omega) ?_ ?_⟩
    · intro i x H1 N M hx s1 kN
      obtain ⟨z, _, rfl, _⟩ := int_here hx
      tm_at "w"
      exact kN _ _ (Same.refl H1) ⟨_, rfl⟩
    · intro H1 acc s1 hD hlen hI
      obtain ⟨ms, rfl⟩ := ints_at hI
      tm_at "w"
      intro t nt
      have wt : Nw _ t := ⟨nt⟩
      have ntl : D ≠ t := ne_of_none hD nt
      have s2 : Same H (upd H1 t (.lst [.ref D, .int 0, .int 0, .int (1 + ((ms.map V.int).length : Int)), .int 0])) := Same.new (Same.trans (Same.new (Same.refl H) np) s1) nt
      exact k ⟨t, D, ms⟩ _ s2 (Same.free (Same.trans (Same.new (Same.refl H) np) s1) nt) ⟨(upd_ne ntl).trans hD, ntl, 0, 0, _, 0, upd_same, by decide⟩
/-! _law_draw -/
def sp__law_draw (K : PySem.W.Frag) : Sp := fun vs H Q _ => ∃ (τ : Tp) (m : Int), vs = [.ref τ.t, .int m] ∧ Tape τ H ∧ 0 < m ∧ m < 1073741824 ∧ ∀ (r : Int) (H' : Hp), Mv τ H H' → 0 ≤ r → r < m → Q (.int r) H'
theorem sc__law_draw : FnScope ["_law_hand_here", "_law_many", "_law_number", "_law_cell", "_law_digit"] ["_law_hand_here", "_law_many"] (defScope s__law_draw) := ⟨rfl, rfl, rfl, by decide +kernel, rfl, by decide +kernel, by decide +kernel⟩
theorem ok__law_draw (T : Top P K mg) : FnOk P w K mg base CX0 1 T.f__law_draw T.fd__law_draw ["_law_hand_here", "_law_many"] (sp__law_draw K) := by
  refine T.F__law_draw.ok sc__law_draw (fun vs H Q E h => ?_) (fun cdv A outer s H vs Q E hr h => ?_)
  · obtain ⟨τ, m, rfl, _⟩ := h
    rfl
  · obtain ⟨τ, m, rfl, m0, hm, hm2, k⟩ := h
    refine ⟨_, (C8.pss_cut (ps_if (PW.pt (pw_and (pt_cmpR op_eq (pe_ix (r := rIxL K) ix_list (pv 0) pe_int (fun _ _ => rfl)) pe_int (nomark _)) (pw_and1 (pt_cmpR op_lt (pe_ix (r := rIxL K) ix_list (pv 0) pe_int (fun _ _ => rfl)) (pe_callB (r := rLenQ K) (id := "len") call_len_seq (by rfl) T.z_len (by decide +kernel) (pa_cons (pe_ix (r := rIxL K) ix_list (pv 0) pe_int (fun _ _ => rfl)) pa_nil)) (nomark _))))) (pss_cons (ps_set (i := 3) sc__law_draw.nd rfl (Or.inl rfl) (pe_ix (r := rIxL K) ix_list (pe_ix (r := rIxL K) ix_list (pv 0) pe_int (fun _ _ => rfl)) (pe_ix (r := rIxL K) ix_list (pv 0) pe_int (fun _ _ => rfl)) (fun _ _ => rfl)))
      (pss_cons (ps_asg (pe_op op_add (pe_ix (r := rIxL K) ix_list (pv 0) pe_int (fun _ _ => rfl)) pe_int) (pg_sub (pv 0) pe_int set_list))
      (pss_cons (ps_asg (pe_op op_modN (pe_callTy (T := "int") call_int1 (by rfl) T.z_int (by decide +kernel) (pa_cons (pe_op op_add (pe_op op_add (pe_op op_mul (pe_ix (r := rIxL K) ix_list (pv 0) pe_int (fun _ _ => rfl)) pe_int) (pv 3)) pe_int) pa_nil)) pe_int) (pg_sub (pv 0) pe_int set_list))
      (pss_one (ps_if (pt_cmpR op_ge (pv 3) (pe_op op_pow pe_int pe_int) (nomark _)) (pss_one (ps_asg (pv 3) (pg_sub (pv 0) pe_int set_list))) pss_nil))))) pss_nil)
      (pss_cons (ps_if (pt_cmpR op_gt (pe_ix (r := rIxL K) ix_list (pv 0) pe_int (fun _ _ => rfl)) pe_int (nomark _)) (pss_cons (ps_set (i := 4) sc__law_draw.nd rfl (Or.inl rfl) (pe_op op_modN (pe_callTy (T := "int") call_int1 (by rfl) T.z_int (by decide +kernel) (pa_cons (pe_ix (r := rIxL K) ix_list (pv 0) pe_int (fun _ _ => rfl)) pa_nil)) (pv 1)))
      (pss_cons (ps_asg (pe_op op_fdivN (pe_ix (r := rIxL K) ix_list (pv 0) pe_int (fun _ _ => rfl)) (pv 1)) (pg_sub (pv 0) pe_int set_list))
      (pss_one (ps_ret (pv 4))))) pss_nil)
      (pss_cons (ps_asg (pe_op op_add (pe_ix (r := rIxL K) ix_list (pv 0) pe_int (fun _ _ => rfl)) pe_int) (pg_sub (pv 0) pe_int set_list))
      (pss_cons (ps_set (i := 2) sc__law_draw.nd rfl (Or.inl rfl) (pe_op op_modN (pe_callTy (T := "int") call_int1 (by rfl) T.z_int (by decide +kernel) (pa_cons (pe_op op_mul (pe_callTy (T := "int") call_int1 (by rfl) T.z_int (by decide +kernel) (pa_cons (pe_op op_add (pe_ix (r := rIxL K) ix_list (pv 0) pe_int (fun _ _ => rfl)) (pe_op op_mul pe_int (pe_ix (r := rIxL K) ix_list (pv 0) pe_int (fun _ _ => rfl)))) pa_nil)) pe_int) pa_nil)) pe_int))
      (pss_cons (ps_set (i := 2) sc__law_draw.nd rfl (Or.inl rfl) (pe_op op_modN (pe_callTy (T := "int") call_int1 (by rfl) T.z_int (by decide +kernel) (pa_cons (pe_op op_mul (pv 2) (pe_op op_add (pe_op op_fdivN (pv 2) pe_int) pe_int)) pa_nil)) pe_int))
      (pss_cons (ps_set (i := 2) sc__law_draw.nd rfl (Or.inl rfl) (pe_op op_modN (pe_callTy (T := "int") call_int1 (by rfl) T.z_int (by decide +kernel) (pa_cons (pe_op op_mul (pv 2) (pe_op op_add (pe_op op_fdivN (pv 2) pe_int) pe_int)) pa_nil)) pe_int))
      (pss_one (ps_ret (pe_op op_modN (pe_callTy (T := "int") call_int1 (by rfl) T.z_int (by decide +kernel) (pa_cons (pe_op op_fdivN (pv 2) pe_int) pa_nil)) (pv 1)))))))))), ?_⟩
    obtain ⟨hl, nlt, i, c, s, n, ht, hi⟩ := id m0
    tm_at "w"
    refine ⟨fun σ H' => ∃ (x : Option V), σ = [some (.ref τ.t), some (.int m), none, x, none] ∧ Mv τ H H', ?_, ?_⟩
    · tm_at "w"
      refine iteI (fun hc => ?_) (fun hc => ?_)
      · tm_at "w"
        refine iteD (fun hc => ?_) (fun hc => ?_)
        · tm_at "w"
          obtain ⟨v, hv⟩ := at_ints hi hc
          refine ⟨_, _, _, _, rfl, rfl, by tm_at "sq", hv, ?_⟩
          tm_at "w"
          refine iteD (fun hd => ?_) (fun hd => ?_)
          · tm_at "w"
            exact ((m0.mv.put rfl (by omega)).put rfl (by omega)).put rfl (by omega)
          · exact ⟨_, rfl, (m0.mv.put rfl (by omega)).put rfl (by omega)⟩
        · exact ⟨none, rfl, m0.mv⟩
      · exact ⟨none, rfl, m0.mv⟩
    · rintro σ H' ⟨x, rfl, m1⟩
      obtain ⟨hl, nlt, i, c, s, n, ht, hi⟩ := m1.now
      tm_at "w"
      refine iteD (fun hc => ?_) (fun hc => ?_)
      · tm_at "w"
        exact k _ _ (m1.put rfl hi) (fmod_in hm).1 (fmod_in hm).2
      · tm_at "w"
        exact k _ _ (m1.put rfl hi) (fmod_in hm).1 (fmod_in hm).2
/-! _law_deep -/
def sp__law_deep (C : Addr) (K : PySem.W.Frag) : Sp := fun vs H Q _ => ∃ (τ : Tp), vs = [.ref τ.t] ∧ Tape τ H ∧ ∀ v H', Mv τ H H' → (∀ n, Th C τ.t H' n v) → Q v H'
theorem sc__law_deep : FnScope ["_law_hand_here", "_law_found", "_law_turn"] ["_law_hand_here"] (defScope s__law_deep) := ⟨rfl, rfl, rfl, by decide +kernel, rfl, by decide +kernel, by decide +kernel⟩
theorem ok__law_deep (T : Top P K mg) : FnOk P w K mg base CX0 2 T.f__law_deep T.fd__law_deep ["_law_hand_here"] (sp__law_deep T.C_Book K) := by
  have G__law_draw := ok__law_draw (P := P) (w := w) (base := base) T
  refine T.F__law_deep.ok sc__law_deep (fun vs H Q E h => ?_) (fun cdv A outer s H vs Q E hr h => ?_)
  · obtain ⟨τ, rfl, _⟩ := h
    rfl
  · obtain ⟨τ, rfl, m0, k⟩ := h
    refine ⟨_, (pss_cons (ps_set (i := 1) sc__law_deep.nd rfl (Or.inl rfl) (pe_ix (r := rIxL K) ix_list (pe_lst (pa_cons pe_non (pa_cons pe_str (pa_cons (pe_un un_neg pe_int) (pa_cons pe_dnewK pa_nil))))) (pe_call G__law_draw hr (by rfl) T.g__law_draw T.F__law_draw.kp T.b__law_draw .nil pass0 (pa_cons (pv 0) (pa_cons pe_int pa_nil))) (fun _ _ => rfl)))
      (pss_cons (ps_for PassesOwn.never rfl (pi_range1 rfl T.z_range (pa_cons (pe_op op_add pe_int (pe_call G__law_draw hr (by rfl) T.g__law_draw T.F__law_draw.kp T.b__law_draw .nil pass0 (pa_cons (pv 0) (pa_cons pe_int pa_nil)))) pa_nil)) (pg_name (i := 2) sc__law_deep.nd rfl (Or.inl rfl))
      (pss_one (ps_set (i := 1) sc__law_deep.nd rfl (Or.inl rfl) (pe_ix (r := rIxL K) ix_list (pe_lst (pa_cons (pe_tup (pa_cons (pv 1) pa_nil)) (pa_cons (pe_lst (pa_cons (pv 1) pa_nil)) (pa_cons (pe_slice sl_tupA (pe_tup (pa_cons (pv 1) (pa_cons (pv 1) pa_nil))) po_none (po_some pe_int)) (pa_cons (pe_disp (pps_cons pe_int (pv 1) pps_nil) rfl rfl (fun z => nomatch z) (by decide)) pa_nil))))) (pe_call G__law_draw hr (by rfl) T.g__law_draw T.F__law_draw.kp T.b__law_draw .nil pass0 (pa_cons (pv 0) (pa_cons pe_int pa_nil))) (fun _ _ => rfl)))))
      (pss_one (ps_ret (pv 1))))), ?_⟩
    tm_at "w"
    intro pd npd
    have hpd := upd_same (H := H) (a := pd) (o := .dK [])
    have m1 : Mv τ H (upd H pd (.dK [])) := m0.mv.new npd
    have pdt := m0.mv.neN npd
    tm_at "w"
    intro pl npl
    have plt := m1.neN npl
    have m2 := m1.new (o := .lst [.non, .str "a", .int (-1), .ref pd]) npl
    have hpd2 := (Same.new (o := .lst [.non, .str "a", .int (-1), .ref pd]) (Same.refl _) npl) _ _ hpd
    tm_at "w"
    refine ⟨τ, _, rfl, m2.now, by decide, by decide, fun r H3 m3 r0 r1 => ?_⟩
    have hpl3 := m3.keep _ _ plt upd_same
    have hpd3 := m3.keep _ _ pdt hpd2
    obtain ⟨v, ev, hv⟩ : ∃ v, atI [V.non, .str "a", .int (-1), .ref pd] r = some v ∧ ∀ n, Th T.C_Book τ.t H3 n v := by
      rcases (show r = 0 ∨ r = 1 ∨ r = 2 ∨ r = 3 by omega) with rfl | rfl | rfl | rfl
      · exact ⟨_, rfl, fun n => .non n⟩
      · exact ⟨_, rfl, fun n => .str n _⟩
      · exact ⟨_, rfl, fun n => .int n _⟩
      · exact ⟨_, rfl, fun n => .dK n pd [] pdt hpd3⟩
    refine ⟨_, _, _, _, rfl, rfl, SqL.of hpl3, ev, ?_⟩
    have m03 := m2.trans m3
    tm_at "w"
    refine ⟨τ, _, rfl, m3.now, by decide, by decide, fun r2 H4 m4 _ _ => ?_⟩
    tm_at "w"
    refine for_range (lo := 0) (n := (1 + r2).toNat) (fun i σ H' => ∃ v u, σ = [some (.ref τ.t), some v, u] ∧ Mv τ H H' ∧ ∀ n, Th T.C_Book τ.t H' n v) ⟨v, _, rfl, m03.trans m4, fun n => (hv n).mv m4⟩ ?_ ?_
    · rintro i σ H5 hi ⟨v, u, rfl, m5, hv⟩
      tm_at "w"
      intro t1 nt1
      have t1t := m5.neN nt1
      have m6 := m5.new (o := .tup [v]) nt1
      obtain ⟨H6, e6, s6, ht1⟩ := new_hide (Same.new (o := .tup [v]) (Same.refl H5) nt1)
      rw [e6] at m6 ⊢
      tm_at "w"
      intro l1 nl1
      have l1t := m6.neN nl1
      have m7 := m6.new (o := .lst [v]) nl1
      obtain ⟨H7, e7, s7, hl1⟩ := new_hide (Same.new (o := .lst [v]) (Same.refl H6) nl1)
      rw [e7] at m7 ⊢
      tm_at "w"
      intro t2 nt2
      have m8 := m7.new (o := .tup [v, v]) nt2
      obtain ⟨H8, e8, s8, ht2⟩ := new_hide (Same.new (o := .tup [v, v]) (Same.refl H7) nt2)
      rw [e8] at m8 ⊢
      unfold tNoPart
      tm_at "w"
      refine slice_any (m := 1) ht2 (by show 1 ≤ 2; decide) fun p3 H9 s9 hp3 => ?_
      have m9 := m8.same s9
      have p3t := m9.now.mv.neT hp3
      tm_at "w"
      intro pd npd
      have pdt := m9.neN npd
      have m10 := m9.new (o := .dK []) npd
      obtain ⟨H10, e10, s10, hpd⟩ := new_hide (Same.new (o := .dK []) (Same.refl H9) npd)
      rw [e10] at m10 ⊢
      tm_at "w"
      refine ⟨[(.inl 0, v)], rfl, by show 1 ≤ 15; decide, ?_⟩
      have m11 : Mv τ H (upd H10 pd (.dK (mergeK [] [(.inl 0, v)]))) := m10.mut (m9.free npd)
      have old : ∀ a o, H9 a = some o → upd H10 pd (.dK (mergeK [] [(.inl 0, v)])) a = some o := fun a o e => (upd_ne (ne_of_none e npd)).trans (s10 _ _ e)
      have t1e := old _ _ (s9 _ _ (s8 _ _ (s7 _ _ ht1)))
      have l1e := old _ _ (s9 _ _ (s8 _ _ hl1))
      have p3e := old _ _ hp3
      have hve : ∀ n, Th T.C_Book τ.t (upd H10 pd (.dK (mergeK [] [(.inl 0, v)]))) n v := fun n => (hv n).keep fun a o _ e => old a o (s9 _ _ (s8 _ _ (s7 _ _ (s6 _ _ e))))
      have pde := upd_same (H := H10) (a := pd) (o := .dK (mergeK [] [(.inl 0, v)]))
      generalize upd H10 pd (.dK (mergeK [] [(.inl 0, v)])) = H11 at *
      tm_at "w"
      intro pl npl
      have plt := m11.neN npl
      have m12 := m11.new (o := .lst [.ref t1, .ref l1, .ref p3, .ref pd]) npl
      obtain ⟨H12, e12, s12, hpl⟩ := new_hide (Same.new (o := .lst [.ref t1, .ref l1, .ref p3, .ref pd]) (Same.refl H11) npl)
      rw [e12] at m12 ⊢
      tm_at "w"
      refine ⟨τ, _, rfl, m12.now, by decide, by decide, fun r H13 m13 r0 r1 => ?_⟩
      have hpl3 := m13.keep _ _ plt hpl
      have hv13 : ∀ n, Th T.C_Book τ.t H13 n v := fun n => ((hve n).same s12).mv m13
      have hx1 : ∀ n, ∀ x ∈ [v], Th T.C_Book τ.t H13 n x := fun n x hx => by
        rw [List.mem_singleton.mp hx]
        exact hv13 n
      have one : ∀ (p : Addr), p ≠ τ.t → H13 p = some (.tup [v]) → ∀ n, Th T.C_Book τ.t H13 n (.ref p) := by
        intro p h1 h2 n
        cases n with
        | zero => exact .tup0 p _ h1 h2
        | succ n => exact .tup n p _ h1 h2 (by show 1 ≤ 1000; decide) (hx1 n)
      obtain ⟨v2, ev2, hv2⟩ : ∃ v2, atI [V.ref t1, .ref l1, .ref p3, .ref pd] r = some v2 ∧ ∀ n, Th T.C_Book τ.t H13 n v2 := by
        rcases (show r = 0 ∨ r = 1 ∨ r = 2 ∨ r = 3 by omega) with rfl | rfl | rfl | rfl
        · exact ⟨_, rfl, one t1 t1t (m13.keep _ _ t1t (s12 _ _ t1e))⟩
        · exact ⟨_, rfl, fun n => .lst n l1 _ l1t (m13.keep _ _ l1t (s12 _ _ l1e))⟩
        · exact ⟨_, rfl, one p3 p3t (m13.keep _ _ p3t (s12 _ _ p3e))⟩
        · exact ⟨_, rfl, fun n => .dK n pd _ pdt (m13.keep _ _ pdt (s12 _ _ pde))⟩
      refine ⟨_, _, _, _, rfl, rfl, SqL.of hpl3, ev2, ?_⟩
      exact ⟨v2, _, rfl, m12.trans m13, hv2⟩
    · rintro σ H5 ⟨v, u, rfl, m5, hv⟩
      tm_at "w"
      exact k v H5 m5 hv
/-! _law_word -/
def wordT (H : Hp) (w : Nat) (v x y : V) : Str :=
  if schB H v = true then (if kinB H v (if w = 0 then [x] else [x, y]) = true then "let" else "kind") else "scheme"
def sp__law_word (C : Addr) (K : PySem.W.Frag) : Sp := fun vs H Q _ => ∃ (w : Nat) (z : Addr) (v x y : V), vs = [.int w, v, x, y] ∧ KitC K C ∧ Th C z H 3 v ∧ Th C z H 1 x ∧ Th C z H 1 y ∧ w < 3 ∧
  ∀ H', Same H H' → Q (.str (wordT H w v x y)) H'
theorem sc__law_word : FnScope ["_law_which", "_law_scheme", "_law_x", "_law_y", "_law_word_here", "e", "_law_flags"] ["_law_which", "_law_scheme", "_law_x", "_law_y"] (defScope s__law_word) := ⟨rfl, rfl, rfl, by decide +kernel, rfl, by decide +kernel, by decide +kernel⟩
theorem ok__law_word (T : Top P K mg) : FnOk P w K mg base CX0 7 T.f__law_word T.fd__law_word ["_law_which", "_law_scheme", "_law_x", "_law_y"] (sp__law_word T.C_Book K) := by
  have G_common := ok_common (P := P) (w := w) (base := base) T
  have G_lot_of := ok_lot_of (P := P) (w := w) (base := base) T
  have G_meet := ok_meet (P := P) (w := w) (base := base) T
  refine T.F__law_word.ok sc__law_word (fun vs H Q E h => ?_) (fun cdv A outer s H vs Q E hr h => ?_)
  · obtain ⟨w, z, v, x, y, rfl, _⟩ := h
    rfl
  · obtain ⟨w, z, v, x, y, rfl, kc, hv, hx, hy, w3, k⟩ := h
    refine ⟨_, (pss_cons (ps_set (i := 4) sc__law_word.nd rfl (Or.inl rfl) pe_str)
      (pss_cons (ps_try_as (i := 5) (Wout := fun _ _ _ _ => False) rfl rfl sc__law_word.nd rfl rfl ⟨rfl, by decide, .inl T.g_KindError⟩ takes0 (fun W pn xe tk _ => (pss_one (ps_if (pt_cmpR op_eq (pv 0) pe_int (nomark _)) (pss_one (ps_expr (pe_callS G_lot_of hr (by rfl) T.g_lot_of T.F_lot_of.kp T.b_lot_of (fun σ => passAt tk σ) (by exact (pa_cons (pv 1) (pa_cons (pv 2) pa_nil)))))) (pss_one (ps_if (pt_cmpR op_eq (pv 0) pe_int (nomark _)) (pss_one (ps_expr (pe_callS G_common hr (by rfl) T.g_common T.F_common.kp T.b_common (fun σ => passAt tk σ) (by exact (pa_cons (pv 1) (pa_cons (pv 2) (pa_cons (pv 3) pa_nil))))))) (pss_one (ps_expr (pe_callS G_meet hr (by rfl) T.g_meet T.F_meet.kp T.b_meet (fun σ => passAt tk σ) (by exact (pa_cons (pv 1) (pa_cons (pv 2) (pa_cons (pv 3) pa_nil)))))))))))) (fun xa xo xc xd pn hz hf => (by exact (pss_cons (ps_set (i := 6) sc__law_word.nd rfl (Or.inl rfl) (pe_lst (pa_cons (pe_callB (r := rIsG K xa xc xd) (id := "isinstance") (call_isG hz hf) (by rfl) T.z_isinstance (by decide +kernel) (pa_cons (pv 5) (pa_cons (pe_glob (v := .ref T.C_NoScheme) (by rfl) T.er_NoScheme.g rfl) pa_nil))) (pa_cons (pe_callB (r := rIsG K xa xc xd) (id := "isinstance") (call_isG hz hf) (by rfl) T.z_isinstance (by decide +kernel) (pa_cons (pv 5) (pa_cons (pe_glob (v := .ref T.C_NoKind) (by rfl) T.er_NoKind.g rfl) pa_nil))) pa_nil))))
      (pss_cons (ps_set (i := 4) sc__law_word.nd rfl (Or.inl rfl) pe_str)
      (pss_one (ps_if (PW.pt (pw_and (pt_cmpR op_eq (pe_bmK (K := K) (r := rCntB K) rfl PySem.F.plainAttrs_list PySem.F.slot_list_count PySem.F.type_list_count (mt_cntB (by exact hr.units)) (pv 6) (pa_cons pe_bl pa_nil)) pe_int (nomark _)) (pw_and1 (pt_val (pe_callB (r := rIsG K xa xc xd) (id := "isinstance") (call_isG hz hf) (by rfl) T.z_isinstance (by decide +kernel) (pa_cons (pv 5) (pa_cons (pe_bltn (v := .ty "ValueError") (u := .type "ValueError") (by rfl) T.z_ValueError (by decide +kernel) rfl) pa_nil))))))) (pss_one (ps_set (i := 4) sc__law_word.nd rfl (Or.inl rfl) (pe_ix (r := rIxL K) ix_list (pe_lst (pa_cons pe_str (pa_cons pe_str pa_nil))) (pe_bmK (K := K) (r := rIndex K) rfl PySem.F.plainAttrs_list PySem.F.slot_list_index PySem.F.type_list_index mt_index (pv 6) (pa_cons pe_bl pa_nil)) (fun _ _ => rfl)))) pss_nil)))))))
      (pss_one (ps_ret (pv 4))))), ?_⟩
    rcases (show w = 0 ∨ w = 1 ∨ w = 2 by omega) with rfl | rfl | rfl
    · have ew : wordT H 0 v x y = (if schB H v = true then (if kinB H v [x] = true then ("let" : Str) else ("kind" : Str)) else ("scheme" : Str)) := rfl
      rw [ew] at k
      tm_at "w"
      refine ⟨v, x, z, rfl, kc, hv, hx, fun e e2 u H1 s1 => ?_, fun e H1 s1 => ?_, fun e e2 H1 s1 => ?_⟩
      · rw [e, e2, if_pos rfl, if_pos rfl] at k
        tm_at "w"
        exact k _ s1
      · rw [e, if_neg (by decide)] at k
        refine ⟨true, T.xm_NoScheme_KindError, fun _ xa hxa => ?_, fun q => nomatch q⟩
        tm_at "w"
        refine ⟨T.er_NoScheme.xc, _, _, true, rfl, (fun u r => r), T.kt_NoScheme_NoScheme, ?_⟩
        tm_at "w"
        refine ⟨T.er_NoScheme.xc, _, _, false, rfl, (fun u r => r), T.kt_NoScheme_NoKind, ?_⟩
        tm_at "w"
        intro pf npf
        obtain ⟨H2, e2, s2, hpf⟩ := new_hide (Same.new (o := .lst (([true, false] : List Bool).map V.bl)) (Same.refl H1) npf)
        show gName 6 _ _ (upd H1 pf (.lst (([true, false] : List Bool).map V.bl))) _
        rw [e2]
        tm_at "w"
        refine ⟨_, [true, false], true, rfl, rfl, SqL.of hpf, by decide, ?_⟩
        tm_at "w"
        refine ⟨T.er_NoScheme.xc, _, _, true, rfl, (fun u r => r), T.kt_NoScheme_ValueError, ?_⟩
        tm_at "w"
        intro pw npw
        obtain ⟨H3, e3, s3, hpw⟩ := new_hide (Same.new (o := .lst [.str "scheme", .str "kind"]) (Same.refl H2) npw)
        rw [e3]
        have hpf3 := s3 _ _ hpf
        tm_at "w"
        refine ⟨_, _, _, 0, _, rfl, rfl, SqL.of hpf3, rfl, rfl, rfl, rfl, (fun m z hm => absurd hm (Nat.not_lt_zero m)), ?_⟩
        refine ⟨_, _, _, _, rfl, rfl, SqL.of hpw, rfl, ?_⟩
        tm_at "w"
        exact k _ (Same.trans s1 (Same.trans s2 s3))
      · rw [e, e2, if_pos rfl, if_neg (by decide)] at k
        refine ⟨true, T.xm_NoKind_KindError, fun _ xa hxa => ?_, fun q => nomatch q⟩
        tm_at "w"
        refine ⟨T.er_NoKind.xc, _, _, false, rfl, (fun u r => r), T.kt_NoKind_NoScheme, ?_⟩
        tm_at "w"
        refine ⟨T.er_NoKind.xc, _, _, true, rfl, (fun u r => r), T.kt_NoKind_NoKind, ?_⟩
        tm_at "w"
        intro pf npf
        obtain ⟨H2, e2, s2, hpf⟩ := new_hide (Same.new (o := .lst (([false, true] : List Bool).map V.bl)) (Same.refl H1) npf)
        show gName 6 _ _ (upd H1 pf (.lst (([false, true] : List Bool).map V.bl))) _
        rw [e2]
        tm_at "w"
        refine ⟨_, [false, true], true, rfl, rfl, SqL.of hpf, by decide, ?_⟩
        tm_at "w"
        refine ⟨T.er_NoKind.xc, _, _, true, rfl, (fun u r => r), T.kt_NoKind_ValueError, ?_⟩
        tm_at "w"
        intro pw npw
        obtain ⟨H3, e3, s3, hpw⟩ := new_hide (Same.new (o := .lst [.str "scheme", .str "kind"]) (Same.refl H2) npw)
        rw [e3]
        have hpf3 := s3 _ _ hpf
        tm_at "w"
        refine ⟨_, _, _, 1, _, rfl, rfl, SqL.of hpf3, rfl, rfl, rfl, rfl, (by intro m z hm e; rcases (show m = 0 by omega) with rfl; cases e; rfl), ?_⟩
        refine ⟨_, _, _, _, rfl, rfl, SqL.of hpw, rfl, ?_⟩
        tm_at "w"
        exact k _ (Same.trans s1 (Same.trans s2 s3))
    · have ew : wordT H 1 v x y = (if schB H v = true then (if kinB H v [x, y] = true then ("let" : Str) else ("kind" : Str)) else ("scheme" : Str)) := rfl
      rw [ew] at k
      tm_at "w"
      refine ⟨v, x, y, z, rfl, kc, hv, hx, hy, fun e e2 u H1 s1 => ?_, fun e H1 s1 => ?_, fun e e2 H1 s1 => ?_⟩
      · rw [e, e2, if_pos rfl, if_pos rfl] at k
        tm_at "w"
        exact k _ s1
      · rw [e, if_neg (by decide)] at k
        refine ⟨true, T.xm_NoScheme_KindError, fun _ xa hxa => ?_, fun q => nomatch q⟩
        tm_at "w"
        refine ⟨T.er_NoScheme.xc, _, _, true, rfl, (fun u r => r), T.kt_NoScheme_NoScheme, ?_⟩
        tm_at "w"
        refine ⟨T.er_NoScheme.xc, _, _, false, rfl, (fun u r => r), T.kt_NoScheme_NoKind, ?_⟩
        tm_at "w"
        intro pf npf
        obtain ⟨H2, e2, s2, hpf⟩ := new_hide (Same.new (o := .lst (([true, false] : List Bool).map V.bl)) (Same.refl H1) npf)
        show gName 6 _ _ (upd H1 pf (.lst (([true, false] : List Bool).map V.bl))) _
        rw [e2]
        tm_at "w"
        refine ⟨_, [true, false], true, rfl, rfl, SqL.of hpf, by decide, ?_⟩
        tm_at "w"
        refine ⟨T.er_NoScheme.xc, _, _, true, rfl, (fun u r => r), T.kt_NoScheme_ValueError, ?_⟩
        tm_at "w"
        intro pw npw
        obtain ⟨H3, e3, s3, hpw⟩ := new_hide (Same.new (o := .lst [.str "scheme", .str "kind"]) (Same.refl H2) npw)
        rw [e3]
        have hpf3 := s3 _ _ hpf
        tm_at "w"
        refine ⟨_, _, _, 0, _, rfl, rfl, SqL.of hpf3, rfl, rfl, rfl, rfl, (fun m z hm => absurd hm (Nat.not_lt_zero m)), ?_⟩
        refine ⟨_, _, _, _, rfl, rfl, SqL.of hpw, rfl, ?_⟩
        tm_at "w"
        exact k _ (Same.trans s1 (Same.trans s2 s3))
      · rw [e, e2, if_pos rfl, if_neg (by decide)] at k
        refine ⟨true, T.xm_NoKind_KindError, fun _ xa hxa => ?_, fun q => nomatch q⟩
        tm_at "w"
        refine ⟨T.er_NoKind.xc, _, _, false, rfl, (fun u r => r), T.kt_NoKind_NoScheme, ?_⟩
        tm_at "w"
        refine ⟨T.er_NoKind.xc, _, _, true, rfl, (fun u r => r), T.kt_NoKind_NoKind, ?_⟩
        tm_at "w"
        intro pf npf
        obtain ⟨H2, e2, s2, hpf⟩ := new_hide (Same.new (o := .lst (([false, true] : List Bool).map V.bl)) (Same.refl H1) npf)
        show gName 6 _ _ (upd H1 pf (.lst (([false, true] : List Bool).map V.bl))) _
        rw [e2]
        tm_at "w"
        refine ⟨_, [false, true], true, rfl, rfl, SqL.of hpf, by decide, ?_⟩
        tm_at "w"
        refine ⟨T.er_NoKind.xc, _, _, true, rfl, (fun u r => r), T.kt_NoKind_ValueError, ?_⟩
        tm_at "w"
        intro pw npw
        obtain ⟨H3, e3, s3, hpw⟩ := new_hide (Same.new (o := .lst [.str "scheme", .str "kind"]) (Same.refl H2) npw)
        rw [e3]
        have hpf3 := s3 _ _ hpf
        tm_at "w"
        refine ⟨_, _, _, 1, _, rfl, rfl, SqL.of hpf3, rfl, rfl, rfl, rfl, (by intro m z hm e; rcases (show m = 0 by omega) with rfl; cases e; rfl), ?_⟩
        refine ⟨_, _, _, _, rfl, rfl, SqL.of hpw, rfl, ?_⟩
        tm_at "w"
        exact k _ (Same.trans s1 (Same.trans s2 s3))
    · have ew : wordT H 2 v x y = (if schB H v = true then (if kinB H v [x, y] = true then ("let" : Str) else ("kind" : Str)) else ("scheme" : Str)) := rfl
      rw [ew] at k
      tm_at "w"
      refine ⟨v, x, y, z, rfl, kc, hv, hx, hy, fun e e2 u H1 s1 => ?_, fun e H1 s1 => ?_, fun e e2 H1 s1 => ?_⟩
      · rw [e, e2, if_pos rfl, if_pos rfl] at k
        tm_at "w"
        exact k _ s1
      · rw [e, if_neg (by decide)] at k
        refine ⟨true, T.xm_NoScheme_KindError, fun _ xa hxa => ?_, fun q => nomatch q⟩
        tm_at "w"
        refine ⟨T.er_NoScheme.xc, _, _, true, rfl, (fun u r => r), T.kt_NoScheme_NoScheme, ?_⟩
        tm_at "w"
        refine ⟨T.er_NoScheme.xc, _, _, false, rfl, (fun u r => r), T.kt_NoScheme_NoKind, ?_⟩
        tm_at "w"
        intro pf npf
        obtain ⟨H2, e2, s2, hpf⟩ := new_hide (Same.new (o := .lst (([true, false] : List Bool).map V.bl)) (Same.refl H1) npf)
        show gName 6 _ _ (upd H1 pf (.lst (([true, false] : List Bool).map V.bl))) _
        rw [e2]
        tm_at "w"
        refine ⟨_, [true, false], true, rfl, rfl, SqL.of hpf, by decide, ?_⟩
        tm_at "w"
        refine ⟨T.er_NoScheme.xc, _, _, true, rfl, (fun u r => r), T.kt_NoScheme_ValueError, ?_⟩
        tm_at "w"
        intro pw npw
        obtain ⟨H3, e3, s3, hpw⟩ := new_hide (Same.new (o := .lst [.str "scheme", .str "kind"]) (Same.refl H2) npw)
        rw [e3]
        have hpf3 := s3 _ _ hpf
        tm_at "w"
        refine ⟨_, _, _, 0, _, rfl, rfl, SqL.of hpf3, rfl, rfl, rfl, rfl, (fun m z hm => absurd hm (Nat.not_lt_zero m)), ?_⟩
        refine ⟨_, _, _, _, rfl, rfl, SqL.of hpw, rfl, ?_⟩
        tm_at "w"
        exact k _ (Same.trans s1 (Same.trans s2 s3))
      · rw [e, e2, if_pos rfl, if_neg (by decide)] at k
        refine ⟨true, T.xm_NoKind_KindError, fun _ xa hxa => ?_, fun q => nomatch q⟩
        tm_at "w"
        refine ⟨T.er_NoKind.xc, _, _, false, rfl, (fun u r => r), T.kt_NoKind_NoScheme, ?_⟩
        tm_at "w"
        refine ⟨T.er_NoKind.xc, _, _, true, rfl, (fun u r => r), T.kt_NoKind_NoKind, ?_⟩
        tm_at "w"
        intro pf npf
        obtain ⟨H2, e2, s2, hpf⟩ := new_hide (Same.new (o := .lst (([false, true] : List Bool).map V.bl)) (Same.refl H1) npf)
        show gName 6 _ _ (upd H1 pf (.lst (([false, true] : List Bool).map V.bl))) _
        rw [e2]
        tm_at "w"
        refine ⟨_, [false, true], true, rfl, rfl, SqL.of hpf, by decide, ?_⟩
        tm_at "w"
        refine ⟨T.er_NoKind.xc, _, _, true, rfl, (fun u r => r), T.kt_NoKind_ValueError, ?_⟩
        tm_at "w"
        intro pw npw
        obtain ⟨H3, e3, s3, hpw⟩ := new_hide (Same.new (o := .lst [.str "scheme", .str "kind"]) (Same.refl H2) npw)
        rw [e3]
        have hpf3 := s3 _ _ hpf
        tm_at "w"
        refine ⟨_, _, _, 1, _, rfl, rfl, SqL.of hpf3, rfl, rfl, rfl, rfl, (by intro m z hm e; rcases (show m = 0 by omega) with rfl; cases e; rfl), ?_⟩
        refine ⟨_, _, _, _, rfl, rfl, SqL.of hpw, rfl, ?_⟩
        tm_at "w"
        exact k _ (Same.trans s1 (Same.trans s2 s3))
/-! _law_is_whole -/
def sp__law_is_whole (K : PySem.W.Frag) : Sp := fun vs H Q _ => ∃ v, vs = [v] ∧ IntK K H v ∧ Q (.bl (isIntB v)) H
theorem sc__law_is_whole : FnScope ["_law_thing"] ["_law_thing"] (defScope s__law_is_whole) := ⟨rfl, rfl, rfl, by decide +kernel, rfl, by decide +kernel, by decide +kernel⟩
theorem ok__law_is_whole (T : Top P K mg) : FnOk P w K mg base CX0 1 T.f__law_is_whole T.fd__law_is_whole ["_law_thing"] (sp__law_is_whole K) := by
  refine T.F__law_is_whole.ok sc__law_is_whole (fun vs H Q E h => ?_) (fun cdv A outer s H vs Q E hr h => ?_)
  · obtain ⟨v, rfl, _⟩ := h
    rfl
  · obtain ⟨v, rfl, ⟨t, bi, bb, ht, hi, hb, e⟩, k⟩ := h
    refine ⟨_, (pss_one (ps_ret (pe_and (pe_callB (r := rIsi K) (id := "isinstance") call_isi (by rfl) T.z_isinstance (by decide +kernel) (pa_cons (pv 0) (pa_cons (pe_bltn (v := .ty "int") (u := .type "int") (by rfl) T.z_int (by decide +kernel) rfl) pa_nil))) (pe_one (pe_not (pe_callB (r := rIsi K) (id := "isinstance") call_isi (by rfl) T.z_isinstance (by decide +kernel) (pa_cons (pv 0) (pa_cons (pe_bltn (v := .ty "bool") (u := .type "bool") (by rfl) T.z_bool (by decide +kernel) rfl) pa_nil)))))))), ?_⟩
    tm_at "w"
    cases bi with
    | false =>
      rw [← e] at k
      tm_at "w"
      exact k
    | true =>
      rw [← e] at k
      tm_at "w"
      exact k
/-! _law_has_form -/
theorem nonB_no {v : V} (h : isIntB v = false) : nonB v = false := by
  cases v with
  | int i => cases h
  | _ => rfl
def sp__law_has_form (C : Addr) (K : PySem.W.Frag) : Sp := fun vs H Q _ => ∃ (v : V) (z : Addr), vs = [v] ∧ KitC K C ∧ Th C z H 3 v ∧ ∀ H', Same H H' → Q (.bl (schB H v)) H'
theorem sc__law_has_form : FnScope ["_law_thing", "_law_item", "_law_entry"] ["_law_thing"] (defScope s__law_has_form) := ⟨rfl, rfl, rfl, by decide +kernel, rfl, by decide +kernel, by decide +kernel⟩
theorem ok__law_has_form (T : Top P K mg) : FnOk P w K mg base CX0 2 T.f__law_has_form T.fd__law_has_form ["_law_thing"] (sp__law_has_form T.C_Book K) := by
  have G__law_is_whole := ok__law_is_whole (P := P) (w := w) (base := base) T
  refine T.F__law_has_form.ok sc__law_has_form (fun vs H Q E h => ?_) (fun cdv A outer s H vs Q E hr h => ?_)
  · obtain ⟨v, z, rfl, _⟩ := h
    rfl
  · obtain ⟨v, z, rfl, kc, ht, k⟩ := h
    refine ⟨_, (pss_cons (ps_if (pt_not (pt_val (pe_callB (r := rIsi K) (id := "isinstance") call_isi (by rfl) T.z_isinstance (by decide +kernel) (pa_cons (pv 0) (pa_cons (pe_bltn (v := .ty "tuple") (u := .type "tuple") (by rfl) T.z_tuple (by decide +kernel) rfl) pa_nil))))) (pss_one (ps_ret pe_bl)) pss_nil)
      (pss_cons (ps_for PassesOwn.never rfl (pi_tup (pv 0)) (pg_name (i := 1) sc__law_has_form.nd rfl (Or.inl rfl))
      (pss_cons (ps_if (PW.pt (pw_or (pt_not (pt_val (pe_callB (r := rIsi K) (id := "isinstance") call_isi (by rfl) T.z_isinstance (by decide +kernel) (pa_cons (pv 1) (pa_cons (pe_bltn (v := .ty "tuple") (u := .type "tuple") (by rfl) T.z_tuple (by decide +kernel) rfl) pa_nil))))) (pw_or (pt_cmpR op_ne (pe_callB (r := rLenQ K) (id := "len") call_len_seq (by rfl) T.z_len (by decide +kernel) (pa_cons (pv 1) pa_nil)) pe_int (nomark _)) (pw_or (pt_not (pt_val (pe_call G__law_is_whole hr (by rfl) T.g__law_is_whole T.F__law_is_whole.kp T.b__law_is_whole .nil pass0 (pa_cons (pe_ix (r := rIxT K) ix_tup (pv 1) pe_int (fun _ _ => rfl)) pa_nil)))) (pw_or1 (pt_cmpR op_lt (pe_ix (r := rIxT K) ix_tup (pv 1) pe_int (fun _ _ => rfl)) pe_int (nomark _))))))) (pss_one (ps_ret pe_bl)) pss_nil)
      (pss_cons (ps_if (PW.pt (pw_or (pt_not (pt_val (pe_call G__law_is_whole hr (by rfl) T.g__law_is_whole T.F__law_is_whole.kp T.b__law_is_whole .nil pass0 (pa_cons (pe_ix (r := rIxT K) ix_tup (pv 1) pe_int (fun _ _ => rfl)) pa_nil)))) (pw_or1 (pt_not (pt_val (pe_callB (r := rIsi K) (id := "isinstance") call_isi (by rfl) T.z_isinstance (by decide +kernel) (pa_cons (pe_ix (r := rIxT K) ix_tup (pv 1) pe_int (fun _ _ => rfl)) (pa_cons (pe_bltn (v := .ty "tuple") (u := .type "tuple") (by rfl) T.z_tuple (by decide +kernel) rfl) pa_nil)))))))) (pss_one (ps_ret pe_bl)) pss_nil)
      (pss_one (ps_if (pt_not (pt_val (pe_callB (r := rAll K) (id := "all") (cr_all rfl) (by rfl) T.z_all (by decide +kernel) (pa_cons (pe_lc (own := [("_law_entry", 2)]) (g := gName 2) (tt := tYes) rfl sc__law_has_form.nd (pi_tup (pe_ix (r := rIxT K) ix_tup (pv 1) pe_int (fun _ _ => rfl))) (blkOk_by (own := [("_law_entry", 2)]) (N := ["_law_thing", "_law_item", "_law_entry"]) (sc := defScope s__law_has_form) (by decide +kernel)) (fun _ _ _ _ _ => (pg_name (i := 2) sc__law_has_form.nd rfl (Or.inl rfl))) (fun _ _ _ _ _ => pts_nil) (fun _ _ _ _ _ => (pe_call G__law_is_whole hr (by rfl) T.g__law_is_whole T.F__law_is_whole.kp T.b__law_is_whole .nil pass0 (pa_cons (pv 2) pa_nil)))) pa_nil)))) (pss_one (ps_ret pe_bl)) pss_nil)))))
      (pss_one (ps_ret pe_bl)))), ?_⟩
    obtain ⟨t, bt, ty, tt, hh⟩ := ht.ty kc
    rcases hh with ⟨rfl, no⟩ | ⟨a, xs, rfl, ha, rfl, hx, hi⟩
    · rw [schB_no no] at k
      tm_at "w"
      exact k _ (Same.refl H)
    · rw [schB_tup ha] at k
      tm_at "w"
      refine ⟨⟨_, SqT.of ha⟩, for_tup (K := K) (a := a) (xs := xs) (fun j σ H' => ∃ u w, σ = [some (.ref a), u, w] ∧ Same H H' ∧ (xs.take j).all (givB H) = true) ⟨none, none, rfl, Same.refl H, rfl⟩ ?_ ?_ ?_⟩
      · rintro j σ H' _ ⟨_, _, rfl, s', _⟩
        exact SqT.of (s' _ _ ha)
      · rintro j x σ H' hj ⟨u, w0, rfl, s0, hp⟩
        have hix := (hi x (List.mem_of_getElem? hj)).same s0
        have eg : givB H' x = givB H x := givB_keep (hi x (List.mem_of_getElem? hj)) fun a o _ e => s0 a o e
        have no : givB H' x = false → xs.all (givB H) = false := fun e => by
          cases e2 : xs.all (givB H) with
          | false => rfl
          | true => exact absurd ((eg.symm.trans e).symm.trans (List.all_eq_true.mp e2 x (List.mem_of_getElem? hj))) (by decide)
        have knot : givB H' x = false → ∀ HH, Same H HH → Q (.bl false) HH := fun e HH ss => by
          have k := k HH ss
          rw [no e] at k
          exact k
        obtain ⟨t2, bt2, ty2, tt2, hh2⟩ := hix.ty kc
        rcases hh2 with ⟨rfl, no2⟩ | ⟨b, ys, rfl, hb, rfl, hy, hyi⟩
        · tm_at "w"
          refine iteET (by rfl) ?_
          tm_at "w"
          exact knot (givB_not (threeB_no no2)) _ s0
        by_cases c2 : ys.length = 3
        · match ys, c2, hb, hyi with
          | [sl, nu, ro], _, hb, hyi =>
            have i1 := (hyi sl (by simp)).intK kc
            have i2 := (hyi nu (by simp)).intK kc
            have ep : givB H' (.ref b) = (nonB sl && isIntB nu && rowIB H' ro) := givB_three hb
            tm_at "w"
            cases e1 : isIntB sl with
            | false =>
              refine iteET (by rfl) ?_
              tm_at "w"
              exact knot (by rw [ep, nonB_no e1]; rfl) _ s0
            | true =>
              refine iteEF (by rfl) ?_
              cases sl with
              | int i =>
                tm_at "w"
                refine iteD (fun g => ?_) (fun g => ?_)
                · tm_at "w"
                  exact knot (by rw [ep, show nonB (.int i) = false from decide_eq_false (by omega)]; rfl) _ s0
                have e0 : nonB (.int i) = true := decide_eq_true (by omega)
                rw [e0, Bool.true_and] at ep
                tm_at "w"
                cases e2 : isIntB nu with
                | false =>
                  refine iteET (by rfl) ?_
                  tm_at "w"
                  exact knot (by rw [ep, e2]; rfl) _ s0
                | true =>
                  refine iteEF (by rfl) ?_
                  rw [e2, Bool.true_and] at ep
                  obtain ⟨t3, bt3, ty3, tt3, hh3⟩ := (hyi ro (by simp)).ty kc
                  rcases hh3 with ⟨rfl, no3⟩ | ⟨q, zs, rfl, hq, rfl, hz, hzi⟩
                  · tm_at "w"
                    refine iteET (by rfl) ?_
                    tm_at "w"
                    exact knot (by rw [ep]; exact rowIB_no no3) _ s0
                  · rw [rowIB_tup hq] at ep
                    tm_at "w"
                    refine ⟨⟨_, SqT.of hq⟩, fun D nD => lc_tupF (fun i => zs[i]?.map fun x => V.bl (isIntB x)) hq nD (by omega) ?_ ?_⟩
                    · intro i x H1 N M hx s1 kN kM
                      have hix := ((hzi x (List.mem_of_getElem? hx)).same s1).intK kc
                      tm_at "w"
                      refine kN _ _ ?_ (Same.refl H1)
                      rw [hx]
                      rfl
                    · intro H1 s1 hD
                      rw [range_items] at hD
                      tm_at "w"
                      refine ⟨_, zs.map fun x => isIntB x, rfl, SqL.of (by rw [List.map_map]; exact hD), ?_⟩
                      rw [List.all_map]
                      refine ⟨_, rfl, ?_⟩
                      show if (!(zs.all isIntB)) = true then _ else _
                      cases ea : zs.all isIntB with
                      | false =>
                        refine iteET (by rfl) ?_
                        tm_at "w"
                        exact knot (by rw [ep, ea]) _ (Same.trans s0 s1)
                      | true =>
                        refine iteEF (by rfl) ?_
                        refine ⟨_, _, rfl, Same.trans s0 s1, ?_⟩
                        rw [List.take_succ, hj, List.all_append, hp]
                        show (givB H (.ref b) && true) = true
                        rw [← eg, ep, ea]
                        rfl
              | _ => cases e1
        · tm_at "w"
          refine iteET (by rw [decide_eq_false (fun e => c2 (by have := V.int.inj e; omega))]; rfl) ?_
          tm_at "w"
          exact knot (givB_not (by rw [threeB_tup hb]; exact decide_eq_false c2)) _ s0
      · rintro σ H' ⟨u, w0, rfl, s0, hp⟩
        rw [List.take_length] at hp
        rw [hp] at k
        tm_at "w"
        exact k _ s0
/-! _law_odd -/
theorem th_ints {C z : Addr} {H : Hp} {a : Addr} {xs : List V} (is : List Int) (d : a ≠ z) (h : H a = some (.tup xs)) (e : xs = is.map V.int) (l : is.length ≤ 1000) : Th C z H 1 (.ref a) := by
  subst e
  refine .tup 0 a _ d h (by rw [List.length_map]; exact l) fun x hx => ?_
  obtain ⟨i, _, rfl⟩ := List.mem_map.mp hx
  exact .int 0 i
theorem rgV_ints (a b : Int) : rgV a b = ((List.range (b - a).toNat).map fun i => a + ((i : Nat) : Int)).map V.int := by
  unfold rgV
  rw [List.map_map]
  rfl
theorem natsV_ints (q : List Nat) : natsV q = (q.map fun i => ((i : Nat) : Int)).map V.int := by
  unfold natsV
  rw [List.map_map]
  rfl
theorem Th.mutL {C z : Addr} {H : Hp} {n : Nat} {v : V} {p : Addr} {xs ys : List V} (h : Th C z H n v) (hp : H p = some (.lst xs)) : Th C z (upd H p (.lst ys)) n v := by
  have ot : ∀ {a : Addr} {o : HO}, H a = some o → (∀ zs, o ≠ .lst zs) → upd H p (.lst ys) a = some o := fun {a o} e ne => by
    refine upd_at (fun eq => ?_) e
    subst eq
    rw [hp] at e
    exact ne _ (Option.some.inj e).symm
  induction h with
  | int n i => exact .int n i
  | bl n b => exact .bl n b
  | non n => exact .non n
  | str n x => exact .str n x
  | lst n a xs2 h1 h2 =>
    by_cases e : a = p
    · subst e
      exact .lst n a ys h1 upd_same
    · exact .lst n a xs2 h1 (upd_at e h2)
  | dK n a xs h1 h2 => exact .dK n a xs h1 (ot h2 fun _ => nofun)
  | ins n a dx fs h1 h2 => exact .ins n a dx fs h1 (ot h2 fun _ => nofun)
  | tup0 a xs h1 h2 => exact .tup0 a xs h1 (ot h2 fun _ => nofun)
  | tup n a xs h1 h2 h3 _ ih => exact .tup n a xs h1 (ot h2 fun _ => nofun) h3 ih
theorem at_in {L : List V} {r : Int} (h0 : 0 ≤ r) (h1 : r < (L.length : Int)) : ∃ v, atI L r = some v ∧ v ∈ L := by
  obtain ⟨j, rfl⟩ : ∃ j : Nat, r = j := ⟨r.toNat, by omega⟩
  have jl : j < L.length := by omega
  exact ⟨L[j], atI_nat (List.getElem?_eq_getElem jl), List.getElem_mem jl⟩
theorem one_book {C z : Addr} {H : Hp} {a b c : Addr} (h : H a = some (.tup [.ref b, .ref c])) (hb : H b = some (.tup [])) (hc : H c = some (.tup [.int 0])) : ParAt H a [[], [0]] := by
  refine ⟨_, h, rfl, fun j q e => ?_⟩
  match j, e with
  | 0, e => exact ⟨b, rfl, by rw [← Option.some.inj e]; exact hb⟩
  | 1, e => exact ⟨c, rfl, by rw [← Option.some.inj e]; exact hc⟩
def sp__law_odd (C : Addr) (K : PySem.W.Frag) : Sp := fun vs H Q _ => ∃ (τ : Tp), vs = [.ref τ.t] ∧ Tape τ H ∧ ∀ v H', Mv τ H H' → (∀ n, Th C τ.t H' n v) → Q v H'
theorem sc__law_odd : FnScope ["_law_hand_here", "_law_odds"] ["_law_hand_here"] (defScope s__law_odd) := ⟨rfl, rfl, rfl, by decide +kernel, rfl, by decide +kernel, by decide +kernel⟩
theorem ok__law_odd (T : Top P K mg) : FnOk P w K mg base CX0 7 T.f__law_odd T.fd__law_odd ["_law_hand_here"] (sp__law_odd T.C_Book K) := by
  have G_Book___init__ := ok_Book___init__ (P := P) (w := w) (base := base) T
  have G__law_deep := ok__law_deep (P := P) (w := w) (base := base) T
  have G__law_draw := ok__law_draw (P := P) (w := w) (base := base) T
  refine T.F__law_odd.ok sc__law_odd (fun vs H Q E h => ?_) (fun cdv A outer s H vs Q E hr h => ?_)
  · obtain ⟨τ, rfl, _⟩ := h
    rfl
  · obtain ⟨τ, rfl, m0, k⟩ := h
    refine ⟨_, (pss_cons (ps_set (i := 1) sc__law_odd.nd rfl (Or.inl rfl) (pe_lst (pa_cons pe_non (pa_cons pe_bl (pa_cons (pe_un un_neg pe_int) (pa_cons pe_str (pa_cons (pe_tup (pa_cons pe_int pa_nil)) (pa_cons (pe_lst (pa_cons pe_int pa_nil)) (pa_cons pe_dnewK (pa_cons (pe_op op_pow pe_int pe_int) (pa_cons (pe_make T.M_Book G_Book___init__ hr (by rfl) T.g_Book T.b_Book___init__ .nil pass0 (pa_cons (pe_tup (pa_cons (pe_tup pa_nil) (pa_cons (pe_tup (pa_cons pe_int pa_nil)) pa_nil))) pa_nil)) (pa_cons (pe_call G__law_deep (hr.mono (by decide)) (by rfl) T.g__law_deep T.F__law_deep.kp T.b__law_deep .nil pass0 (pa_cons (pv 0) pa_nil)) (pa_cons pe_int (pa_cons pe_int pa_nil))))))))))))))
      (pss_one (ps_ret (pe_ix (r := rIxL K) ix_list (pv 1) (pe_call G__law_draw (hr.mono (by decide)) (by rfl) T.g__law_draw T.F__law_draw.kp T.b__law_draw .nil pass0 (pa_cons (pv 0) (pa_cons pe_int pa_nil))) (fun _ _ => rfl))))), ?_⟩
    tm_at "w"
    intro o1 no1
    obtain ⟨H1, e1, s1, ho1⟩ := new_hide (Same.new (o := .tup [.int 0]) (Same.refl H) no1)
    rw [e1]
    have tp1 := m0.same s1
    have do1 := m0.mv.neN no1
    tm_at "w"
    intro o2 no2
    obtain ⟨H2, e2, s2, ho2⟩ := new_hide (Same.new (o := .lst [.int 0]) (Same.refl H1) no2)
    rw [e2]
    have tp2 := tp1.same s2
    have do2 := tp1.mv.neN no2
    tm_at "w"
    intro o3 no3
    obtain ⟨H3, e3, s3, ho3⟩ := new_hide (Same.new (o := .dK []) (Same.refl H2) no3)
    rw [e3]
    have tp3 := tp2.same s3
    have do3 := tp2.mv.neN no3
    tm_at "w"
    intro o4 no4
    obtain ⟨H4, e4, s4, ho4⟩ := new_hide (Same.new (o := .tup []) (Same.refl H3) no4)
    rw [e4]
    have tp4 := tp3.same s4
    have do4 := tp3.mv.neN no4
    tm_at "w"
    intro o5 no5
    obtain ⟨H5, e5, s5, ho5⟩ := new_hide (Same.new (o := .tup [.int 0]) (Same.refl H4) no5)
    rw [e5]
    have tp5 := tp4.same s5
    have do5 := tp4.mv.neN no5
    tm_at "w"
    intro o6 no6
    obtain ⟨H6, e6, s6, ho6⟩ := new_hide (Same.new (o := .tup [.ref o4, .ref o5]) (Same.refl H5) no6)
    rw [e6]
    have tp6 := tp5.same s6
    have do6 := tp5.mv.neN no6
    tm_at "w"
    have ok2 : OkP [[], [0]] := by
      refine ⟨fun j q e => ?_, by decide⟩
      match j, e with
      | 0, e =>
        obtain rfl : [] = q := Option.some.inj e
        exact ⟨List.Pairwise.nil, nofun, by decide⟩
      | 1, e =>
        obtain rfl : [0] = q := Option.some.inj e
        exact ⟨List.pairwise_singleton _ _, (fun x hx => by rw [List.mem_singleton.mp hx]; decide), by decide⟩
    refine mk_book (one_book (C := T.C_Book) (z := τ.t) ho6 (s6 _ _ (s5 _ _ ho4)) (s6 _ _ ho5)) ok2 fun b H7 mk _ => ?_
    have tp7 := tp6.same mk.same
    have nb : b.b ≠ τ.t := tp6.mv.neN mk.nb.e
    have hb7 := mk.here.ins
    tm_at "w"
    intro v H8 m8 hv
    have s67 := mk.same
    have ho1' := m8.keep _ _ do1 (s67 _ _ (s6 _ _ (s5 _ _ (s4 _ _ (s3 _ _ (s2 _ _ ho1))))))
    have ho2' := m8.keep _ _ do2 (s67 _ _ (s6 _ _ (s5 _ _ (s4 _ _ (s3 _ _ ho2)))))
    have ho3' := m8.keep _ _ do3 (s67 _ _ (s6 _ _ (s5 _ _ (s4 _ _ ho3))))
    have hb8 := m8.keep _ _ nb hb7
    tm_at "w"
    intro o7 no7
    have d7 := m8.now.mv.neN no7
    show gName 1 _ _ (upd H8 o7 (.lst [.non, .bl true, .int (-1), .str "0", .ref o1, .ref o2, .ref o3, .int ((10 : Int) ^ (30 : Int).toNat), .ref b.b, v, .int 0, .int 1])) _
    obtain ⟨H9, e9, s9, ho7⟩ := new_hide (Same.new (o := .lst [.non, .bl true, .int (-1), .str "0", .ref o1, .ref o2, .ref o3, .int ((10 : Int) ^ (30 : Int).toNat), .ref b.b, v, .int 0, .int 1]) (Same.refl H8) no7)
    rw [e9]
    have tp9 := m8.now.same s9
    tm_at "w"
    refine ⟨τ, _, rfl, tp9, by decide, by decide, fun r H10 m10 r0 r1 => ?_⟩
    have m710 := (m8.same s9).trans m10
    have one : ∀ (p : Addr), p ≠ τ.t → H10 p = some (.tup [.int 0]) → ∀ n, Th T.C_Book τ.t H10 n (.ref p) := by
      intro p h1 h2 n
      cases n with
      | zero => exact .tup0 p _ h1 h2
      | succ n => exact .tup n p _ h1 h2 (by show 1 ≤ 1000; decide) (fun x hx => by rw [List.mem_singleton.mp hx]; exact .int n 0)
    have all : ∀ x ∈ ([.non, .bl true, .int (-1), .str "0", .ref o1, .ref o2, .ref o3, .int ((10 : Int) ^ (30 : Int).toNat), .ref b.b, v, .int 0, .int 1] : List V), ∀ n, Th T.C_Book τ.t H10 n x := by
      intro x hx n
      simp only [List.mem_cons, List.not_mem_nil, or_false] at hx
      rcases hx with rfl | rfl | rfl | rfl | rfl | rfl | rfl | rfl | rfl | rfl | rfl | rfl
      · exact .non n
      · exact .bl n _
      · exact .int n _
      · exact .str n _
      · exact one _ do1 (m10.keep _ _ do1 (s9 _ _ ho1')) n
      · exact .lst n _ _ do2 (m10.keep _ _ do2 (s9 _ _ ho2'))
      · exact .dK n _ _ do3 (m10.keep _ _ do3 (s9 _ _ ho3'))
      · exact .int n _
      · exact .ins n _ _ _ nb (m10.keep _ _ nb (s9 _ _ hb8))
      · exact ((hv n).same s9).mv m10
      · exact .int n _
      · exact .int n _
    obtain ⟨v2, ev2, hv2⟩ := at_in (L := [.non, .bl true, .int (-1), .str "0", .ref o1, .ref o2, .ref o3, .int ((10 : Int) ^ (30 : Int).toNat), .ref b.b, v, .int 0, .int 1]) r0 r1
    refine ⟨_, _, _, _, rfl, rfl, SqL.of (m10.keep _ _ d7 ho7), ev2, ?_⟩
    refine k _ _ ?_ (all v2 hv2)
    exact ⟨m0, fun a o ne e => m710.keep a o ne (s67 _ _ (s6 _ _ (s5 _ _ (s4 _ _ (s3 _ _ (s2 _ _ (s1 _ _ e))))))), m710.now⟩
/-! _law_parents -/
theorem snoc_at {R : Nat → V → Prop} {acc : List V} {x : V} {i : Nat} (hl : acc.length = i) (h : ∀ (j : Nat) v, acc[j]? = some v → R j v) (hx : R i x) : ∀ (j : Nat) v, (acc ++ [x])[j]? = some v → R j v := fun j v e => by
  by_cases hj : j < acc.length
  · rw [List.getElem?_append_left hj] at e
    exact h j v e
  · rw [List.getElem?_append_right (by omega)] at e
    have q := (List.getElem?_eq_some_iff.mp e).1
    rw [List.length_singleton] at q
    have ej : j = i := by omega
    rw [ej, hl, Nat.sub_self] at e
    rw [ej, ← Option.some.inj e]
    exact hx
theorem nats_all {i : Nat} : ∀ {acc : List V}, (∀ v ∈ acc, ∃ z : Int, v = .int z ∧ 0 ≤ z ∧ z < i) → ∃ q : List Nat, q.length = acc.length ∧ (∀ x ∈ q, x < i) ∧ acc = natsV q
  | [], _ => ⟨[], rfl, (fun x hx => by cases hx), rfl⟩
  | v :: r, h => by
    obtain ⟨q, h1, h2, h3⟩ := nats_all fun u hu => h u (List.mem_cons_of_mem _ hu)
    obtain ⟨z, e, z0, z1⟩ := h v List.mem_cons_self
    refine ⟨z.toNat :: q, by rw [List.length_cons, List.length_cons, h1], fun x hx => ?_, ?_⟩
    · rcases List.mem_cons.mp hx with e | e
      · omega
      · exact h2 x e
    · rw [e, h3]
      show V.int z :: natsV q = V.int (z.toNat : Int) :: natsV q
      rw [show (z.toNat : Int) = z by omega]
def sp__law_parents (K : PySem.W.Frag) : Sp := fun vs H Q _ => ∃ (τ : Tp) (n m : Nat), vs = [.ref τ.t, .int n, .int m] ∧ Tape τ H ∧ n ≤ 400 ∧ m ≤ 6 ∧
  ∀ a P H', Mv τ H H' → ParAt H' a P → OkP P → P.length = n → Q (.ref a) H'
theorem sc__law_parents : FnScope ["_law_hand_here", "_law_many", "_law_most", "_law_found", "_law_kind", "_law_some", "_law_turn"] ["_law_hand_here", "_law_many", "_law_most"] (defScope s__law_parents) := ⟨rfl, rfl, rfl, by decide +kernel, rfl, by decide +kernel, by decide +kernel⟩
theorem ok__law_parents (T : Top P K mg) : FnOk P w K mg base CX0 2 T.f__law_parents T.fd__law_parents ["_law_hand_here", "_law_many", "_law_most"] (sp__law_parents K) := by
  have G__law_draw := ok__law_draw (P := P) (w := w) (base := base) T
  refine T.F__law_parents.ok sc__law_parents (fun vs H Q E h => ?_) (fun cdv A outer s H vs Q E hr h => ?_)
  · obtain ⟨τ, n, m, rfl, _⟩ := h
    rfl
  · obtain ⟨τ, n, m, rfl, m0, hn, hm, kk⟩ := h
    refine ⟨_, (pss_cons (ps_set (i := 3) sc__law_parents.nd rfl (Or.inl rfl) (pe_lst pa_nil))
      (pss_cons (ps_for PassesOwn.never rfl (pi_range1 rfl T.z_range (pa_cons (pv 1) pa_nil)) (pg_name (i := 4) sc__law_parents.nd rfl (Or.inr rfl))
      (pss_cons (ps_set (i := 5) sc__law_parents.nd rfl (Or.inl rfl) (pe_ifExp (pt_cmpR op_gt (pv 4) pe_int (nomark _)) (pe_lc (own := [("_law_turn", 6)]) (g := gName 6) (tt := tYes) rfl sc__law_parents.nd (pi_range1 rfl T.z_range (pa_cons (pe_call G__law_draw hr (by rfl) T.g__law_draw T.F__law_draw.kp T.b__law_draw .nil pass0 (pa_cons (pv 0) (pa_cons (pe_op op_add (pv 2) pe_int) pa_nil))) pa_nil)) (blkOk_by (own := [("_law_turn", 6)]) (N := ["_law_hand_here", "_law_many", "_law_most", "_law_found", "_law_kind", "_law_some", "_law_turn"]) (sc := defScope s__law_parents) (by decide +kernel)) (fun _ _ _ _ _ => (pg_name (i := 6) sc__law_parents.nd rfl (Or.inl rfl))) (fun _ _ _ _ _ => pts_nil) (fun _ _ _ _ _ => (pe_call G__law_draw hr (by rfl) T.g__law_draw T.F__law_draw.kp T.b__law_draw .nil pass0 (pa_cons (pv 0) (pa_cons (pv 4) pa_nil))))) (pe_lst pa_nil)))
      (pss_one (ps_expr (pe_bm PySem.F.plainAttrs_list PySem.F.slot_list_append PySem.F.type_list_append mt_append (pv 3) (pa_cons (pe_callTy (r := rTupQ K) (T := "tuple") call_tuple_of (by rfl) T.z_tuple (by decide +kernel) (pa_cons (pe_callB (id := "sorted") (cr_sortedSet rfl) (by rfl) T.z_sorted (by decide +kernel) (pa_cons (pe_callTy (T := "set") (cr_setL rfl) (by rfl) T.z_set (by decide +kernel) (pa_cons (pv 5) pa_nil)) pa_nil)) pa_nil)) pa_nil))))))
      (pss_one (ps_ret (pe_callTy (r := rTupQ K) (T := "tuple") call_tuple_of (by rfl) T.z_tuple (by decide +kernel) (pa_cons (pv 3) pa_nil)))))), ?_⟩
    tm_at "w"
    intro F nF
    have nFt := m0.mv.neN nF
    tm_at "w"
    refine for_range (lo := 0) (n := (n : Int).toNat) (fun i σ H' => ∃ x y z, σ = [some (.ref τ.t), some (.int (n : Int)), some (.int (m : Int)), some (.ref F), x, y, z] ∧ Mv τ H H' ∧ ∃ acc, H' F = some (.lst acc) ∧ acc.length = i ∧ ∀ (j : Nat) v, acc[j]? = some v → RowR j v H') ?_ ?_ ?_
    · exact ⟨none, none, none, rfl, m0.mv.new nF, [], upd_same, rfl, fun j v e => by simp at e⟩
    · rintro i σ H1 hi ⟨x0, y0, z0, rfl, m1, acc, hF1, hacc, hR1⟩
      rw [Int.zero_add]
      tm_at "w"
      refine iteD (fun z => ?_) (fun z => ?_)
      tm_at "w"
      refine ⟨τ, _, rfl, m1.now, by omega, by omega, fun r H2 m2 h0 h1 => ?_⟩
      obtain ⟨r, rfl⟩ : ∃ n : Nat, r = n := ⟨r.toNat, by omega⟩
      tm_at "w"
      intro D nD
      refine lc_rangeM (τ := τ) (fun _ v _ => ∃ z : Int, v = .int z ∧ 0 ≤ z ∧ z < i) (fun _ _ _ _ h _ => h) m2.now nD (by omega) ?_ ?_
      · intro j H3 N M hj m3 kN
        tm_at "w"
        exact ⟨τ, _, rfl, m3.now, by omega, by omega, fun r3 H4 m4 h3 h4 => kN _ _ m4 ⟨r3, rfl, h3, by omega⟩⟩
      intro H3 acc2 m3 hD hlen hR
      rw [Int.toNat_natCast] at hlen
      obtain ⟨q, hql, hqn, rfl⟩ : ∃ q : List Nat, q.length ≤ 6 ∧ (∀ x ∈ q, x < i) ∧ acc2 = natsV q := by
        obtain ⟨q, e1, e2, e3⟩ := nats_all (i := i) (acc := acc2) fun v hv => by
          obtain ⟨j, hj, e⟩ := List.mem_iff_getElem.mp hv
          exact hR j v (by rw [List.getElem?_eq_getElem hj, e])
        exact ⟨q, by omega, e2, e3⟩
      have m13 := m2.trans m3
      rotate_left
      tm_at "w"
      intro D nD
      obtain ⟨q, hql, hqn, eq⟩ : ∃ q : List Nat, q.length ≤ 6 ∧ (∀ x ∈ q, x < i) ∧ ([] : List V) = natsV q := ⟨[], by decide, (fun x hx => by cases hx), rfl⟩
      have hD : upd H1 D (.lst []) D = some (.lst (natsV q)) := by rw [upd_same, eq]
      have m13 := m1.now.mv.new (o := .lst []) nD
      all_goals
        tm_at "w"
        refine ⟨_, q.map fun z : Nat => (z : Int), rfl, SqL.of (by rw [List.map_map]; exact hD), by rw [List.length_map]; omega, fun S c hc _ nS => ?_⟩
        rw [List.length_map] at hc
        refine ⟨S, _, _, rfl, upd_same, by omega, fun ns p hs hmem hlen np => ?_⟩
        obtain ⟨ks, rfl, hks, hkp⟩ := nats_of hs (n := i) fun x hx => by
          have := of_decide_eq_true ((hmem x).mp hx)
          obtain ⟨z, hz, e⟩ := List.mem_map.mp this
          exact ⟨z, hqn z hz, e.symm⟩
        rw [List.length_map] at hlen
        have m15 := ((m1.trans m13).new nS).new (p := p) (o := .lst ((ks.map fun z : Nat => (z : Int)).map V.int)) np
        have m35 := (m13.new nS).new (p := p) (o := .lst ((ks.map fun z : Nat => (z : Int)).map V.int)) np
        tm_at "w"
        intro t nt
        have m16 := m15.new (o := .tup ((ks.map fun z : Nat => (z : Int)).map V.int)) nt
        have m36 := m35.new (o := .tup ((ks.map fun z : Nat => (z : Int)).map V.int)) nt
        have hF6 := m36.keep _ _ nFt hF1
        tm_at "w"
        refine ⟨_, _, _, rfl, m16.mut nF, acc ++ [.ref t], upd_same, len_app hacc, snoc_at hacc (fun j v e => (hR1 j v e).tk (TK.trans m36.tk (TK.mut hF6))) ⟨t, ks, rfl, ?_, ⟨hkp, hks, by omega⟩⟩⟩
        rw [upd_ne (fun e => by rw [e] at nt; rw [m35.keep _ _ nFt hF1] at nt; cases nt), upd_same, List.map_map]
        rfl
    · rintro σ H1 ⟨x0, y0, z0, rfl, m1, acc, hF1, hacc, hR1⟩
      obtain ⟨P, hP, ok, hPl⟩ := rows_of hn (by omega) hR1
      tm_at "w"
      intro t nt
      exact kk t P _ (m1.new nt) ⟨acc, upd_same, hP.tk (TK.new nt)⟩ ok hPl
/-! _law_any_scheme -/
def TripR (v : V) (H : Hp) : Prop := ∃ e : Tr, Trip H v e ∧ 0 ≤ e.1 ∧ e.2.2.length ≤ 900
theorem TripR.tk {v : V} {H H' : Hp} (h : TripR v H) (k : TK H H') : TripR v H' := by
  obtain ⟨e, h1, h2⟩ := h
  exact ⟨e, h1.tk k, h2⟩
theorem trips_of {H : Hp} : ∀ {acc : List V}, (∀ v ∈ acc, TripR v H) → ∃ S : List Tr, acc.length = S.length ∧ (∀ (i : Nat) (e : Tr), S[i]? = some e → ∃ v, acc[i]? = some v ∧ Trip H v e) ∧ ∀ e ∈ S, 0 ≤ e.1 ∧ e.2.2.length ≤ 900
  | [], _ => ⟨[], rfl, fun i e h => by simp at h, fun e h => by cases h⟩
  | x :: r, h => by
    obtain ⟨e, h1, h2⟩ := h x List.mem_cons_self
    obtain ⟨S, g1, g2, g3⟩ := trips_of fun u hu => h u (List.mem_cons_of_mem _ hu)
    refine ⟨e :: S, by rw [List.length_cons, List.length_cons, g1], fun i d hd => ?_, fun d hd => ?_⟩
    · cases i with
      | zero => exact ⟨x, rfl, by rw [← Option.some.inj hd]; exact h1⟩
      | succ i => exact g2 i d hd
    · rcases List.mem_cons.mp hd with q | q
      · rw [q]; exact h2
      · exact g3 d q
theorem int_list : ∀ {acc : List V}, (∀ v ∈ acc, ∃ i : Int, v = .int i) → ∃ r : List Int, acc = r.map V.int
  | [], _ => ⟨[], rfl⟩
  | v :: t, h => by
    obtain ⟨i, rfl⟩ := h v List.mem_cons_self
    obtain ⟨r, rfl⟩ := int_list fun u hu => h u (List.mem_cons_of_mem _ hu)
    exact ⟨i :: r, rfl⟩
def sp__law_any_scheme (K : PySem.W.Frag) : Sp := fun vs H Q _ => ∃ (τ : Tp) (n : Nat), vs = [.ref τ.t, .int n] ∧ Tape τ H ∧ n ≤ 1000 ∧
  ∀ a S H', Mv τ H H' → SchAt H' a S → S.length = n → (∀ e ∈ S, 0 ≤ e.1 ∧ e.2.2.length ≤ 900) → Q (.ref a) H'
theorem sc__law_any_scheme : FnScope ["_law_hand_here", "_law_many", "_law_found", "_law_kind", "_law_size", "_law_row", "_law_at"] ["_law_hand_here", "_law_many"] (defScope s__law_any_scheme) := ⟨rfl, rfl, rfl, by decide +kernel, rfl, by decide +kernel, by decide +kernel⟩
theorem ok__law_any_scheme (T : Top P K mg) : FnOk P w K mg base CX0 2 T.f__law_any_scheme T.fd__law_any_scheme ["_law_hand_here", "_law_many"] (sp__law_any_scheme K) := by
  have G__law_draw := ok__law_draw (P := P) (w := w) (base := base) T
  refine T.F__law_any_scheme.ok sc__law_any_scheme (fun vs H Q E h => ?_) (fun cdv A outer s H vs Q E hr h => ?_)
  · obtain ⟨τ, n, rfl, _⟩ := h
    rfl
  · obtain ⟨τ, n, rfl, m0, hn, k⟩ := h
    refine ⟨_, (pss_cons (ps_set (i := 2) sc__law_any_scheme.nd rfl (Or.inl rfl) (pe_lst pa_nil))
      (pss_cons (ps_for PassesOwn.never rfl (pi_range1 rfl T.z_range (pa_cons (pv 1) pa_nil)) (pg_name (i := 3) sc__law_any_scheme.nd rfl (Or.inl rfl))
      (pss_cons (ps_set (i := 4) sc__law_any_scheme.nd rfl (Or.inl rfl) (pe_call G__law_draw hr (by rfl) T.g__law_draw T.F__law_draw.kp T.b__law_draw .nil pass0 (pa_cons (pv 0) (pa_cons pe_int pa_nil))))
      (pss_cons (ps_set (i := 5) sc__law_any_scheme.nd rfl (Or.inl rfl) (pe_callTy (r := rTupQ K) (T := "tuple") call_tuple_of (by rfl) T.z_tuple (by decide +kernel) (pa_cons (pe_lc (own := [("_law_at", 6)]) (g := gName 6) (tt := tYes) rfl sc__law_any_scheme.nd (pi_range1 rfl T.z_range (pa_cons (pv 4) pa_nil)) (blkOk_by (own := [("_law_at", 6)]) (N := ["_law_hand_here", "_law_many", "_law_found", "_law_kind", "_law_size", "_law_row", "_law_at"]) (sc := defScope s__law_any_scheme) (by decide +kernel)) (fun _ _ _ _ _ => (pg_name (i := 6) sc__law_any_scheme.nd rfl (Or.inl rfl))) (fun _ _ _ _ _ => pts_nil) (fun _ _ _ _ _ => (pe_op op_sub (pe_call G__law_draw hr (by rfl) T.g__law_draw T.F__law_draw.kp T.b__law_draw .nil pass0 (pa_cons (pv 0) (pa_cons pe_int pa_nil))) pe_int))) pa_nil)))
      (pss_one (ps_expr (pe_bm PySem.F.plainAttrs_list PySem.F.slot_list_append PySem.F.type_list_append mt_append (pv 2) (pa_cons (pe_tup (pa_cons (pe_call G__law_draw hr (by rfl) T.g__law_draw T.F__law_draw.kp T.b__law_draw .nil pass0 (pa_cons (pv 0) (pa_cons pe_int pa_nil))) (pa_cons (pe_op op_sub (pe_call G__law_draw hr (by rfl) T.g__law_draw T.F__law_draw.kp T.b__law_draw .nil pass0 (pa_cons (pv 0) (pa_cons pe_int pa_nil))) pe_int) (pa_cons (pv 5) pa_nil)))) pa_nil)))))))
      (pss_one (ps_ret (pe_callTy (r := rTupQ K) (T := "tuple") call_tuple_of (by rfl) T.z_tuple (by decide +kernel) (pa_cons (pv 2) pa_nil)))))), ?_⟩
    tm_at "w"
    intro F nF
    have nFt := m0.mv.neN nF
    tm_at "w"
    refine for_range (lo := 0) (n := (n : Int).toNat) (fun i σ H' => ∃ v3 v4 v5 v6, σ = [some (.ref τ.t), some (.int (n : Int)), some (.ref F), v3, v4, v5, v6] ∧ Mv τ H H' ∧ ∃ acc, H' F = some (.lst acc) ∧ acc.length = i ∧ ∀ v ∈ acc, TripR v H') ?_ ?_ ?_
    · exact ⟨none, none, none, none, rfl, m0.mv.new nF, [], upd_same, rfl, fun v h => by cases h⟩
    · rintro i σ H1 hi ⟨v3, v4, v5, v6, rfl, m1, acc, hF1, hacc, hR1⟩
      tm_at "w"
      refine ⟨τ, _, rfl, m1.now, by decide, by decide, fun sz H2 m2 g0 g1 => ?_⟩
      tm_at "w"
      intro D nD
      refine lc_rangeM (τ := τ) (fun _ v _ => ∃ z : Int, v = .int z) (fun _ _ _ _ h _ => h) m2.now nD (by omega) ?_ ?_
      · intro j H3 N M hj m3 kN
        tm_at "w"
        refine ⟨τ, _, rfl, m3.now, by decide, by decide, fun r H4 m4 _ _ => ?_⟩
        tm_at "w"
        exact kN _ _ m4 ⟨_, rfl⟩
      · intro H3 ac3 m3 hD hlen hR3
        obtain ⟨row, rfl⟩ := int_list fun v hv => by
          obtain ⟨j, hj, e⟩ := List.mem_iff_getElem.mp hv
          exact hR3 j v (by rw [List.getElem?_eq_getElem hj, e])
        rw [List.length_map] at hlen
        tm_at "w"
        intro q nq
        obtain ⟨H4, e4, s4, hq⟩ := new_hide (Same.new (o := .tup (row.map V.int)) (Same.refl H3) nq)
        rw [e4]
        have m14 := ((m2.trans m3).same s4)
        tm_at "w"
        refine ⟨τ, _, rfl, m14.now, by decide, by decide, fun r1 H5 m5 a0 a1 => ?_⟩
        tm_at "w"
        refine ⟨τ, _, rfl, m5.now, by decide, by decide, fun r2 H6 m6 _ _ => ?_⟩
        have m16 := (m14.trans m5).trans m6
        have hq6 := (m5.trans m6).atT hq
        have hF6 := m16.keep _ _ nFt hF1
        tm_at "w"
        intro p np
        have dp := m16.neN np
        show tNil _ (upd H6 p (.tup [.int r1, .int (r2 - 3), .ref q])) _
        obtain ⟨H7, e7, s7, hp⟩ := new_hide (Same.new (o := .tup [.int r1, .int (r2 - 3), .ref q]) (Same.refl H6) np)
        rw [e7]
        have m17 := m16.same s7
        have hF7 := s7 _ _ hF6
        have hq7 := s7 _ _ hq6
        have k17 : TK H1 H7 := m17.tk
        have kF : TK H7 (upd H7 F (.lst (acc ++ [.ref p]))) := TK.mut hF7
        tm_at "w"
        refine ⟨_, _, _, _, rfl, (m1.trans m17).mut nF, acc ++ [.ref p], upd_same, by rw [List.length_append, hacc]; rfl, fun v hv => ?_⟩
        rcases List.mem_append.mp hv with hv | hv
        · exact ((hR1 v hv).tk k17).tk kF
        · rw [List.mem_singleton.mp hv]
          exact ⟨(r1, r2 - 3, row), ⟨p, q, rfl, kF _ _ hp, kF _ _ hq7⟩, a0, by show row.length ≤ 900; omega⟩
    · rintro σ H1 ⟨v3, v4, v5, v6, rfl, m1, acc, hF1, hacc, hR1⟩
      rw [Int.toNat_natCast] at hacc
      obtain ⟨S, g1, g2, g3⟩ := trips_of hR1
      tm_at "w"
      intro t nt
      exact k t S _ (m1.new nt) ⟨acc, upd_same, g1, fun i e h => by
        obtain ⟨v, h1, h2⟩ := g2 i e h
        exact ⟨v, h1, h2.tk (TK.new nt)⟩⟩ (by omega) g3
/-! _law_sheet -/
theorem int_nodup_le {ks : List Int} {m : Nat} (hn : ks.Nodup) (h : ∀ k ∈ ks, 0 ≤ k ∧ k < (m : Int)) : ks.length ≤ m := by
  have l : (ks.map Int.toNat).length ≤ m := nodup_le m (by
    unfold List.Nodup
    rw [List.pairwise_map]
    refine List.Pairwise.imp_of_mem (fun {a b} ha hb z e => z ?_) hn
    have := h a ha
    have := h b hb
    omega) fun k hk => by
    obtain ⟨z, hz, rfl⟩ := List.mem_map.mp hk
    have := h z hz
    omega
  rw [List.length_map] at l
  exact l
/-- the lot of all kinds that a kind is -/
def lotB (P : List (List Nat)) (x : Nat) : List Nat := (List.range P.length).filter fun k => isA P x k
theorem mem_lotB {P : List (List Nat)} (hR : RtP P) {x k : Nat} : k ∈ lotB P x ↔ isA P x k = true := by
  unfold lotB
  rw [List.mem_filter, List.mem_range]
  refine ⟨fun h => h.2, fun h => ⟨?_, h⟩⟩
  have h1 := isA_le hR h
  have h2 := isA_lt h
  omega
theorem lotB_len (P : List (List Nat)) (x : Nat) : (lotB P x).length ≤ P.length := by
  have := List.length_filter_le (fun k => isA P x k) (List.range P.length)
  rw [List.length_range] at this
  exact this
theorem lot_asc {P : List (List Nat)} (hR : RtP P) {x : Nat} {ks : List Nat} (hs : ks.Pairwise (· < ·)) (h : ∀ k, k ∈ ks ↔ isA P x k = true) : ks = lotB P x := by
  have hb : (lotB P x).Pairwise (· < ·) := List.pairwise_lt_range.filter _
  have n1 : ks.Nodup := hs.imp fun h => Nat.ne_of_lt h
  have n2 : (lotB P x).Nodup := hb.imp fun h => Nat.ne_of_lt h
  refine List.Perm.eq_of_pairwise (le := (· < ·)) (fun a b _ _ h1 h2 => absurd h1 (Nat.not_lt.mpr (Nat.le_of_lt h2))) hs hb ?_
  rw [List.perm_ext_iff_of_nodup n1 n2]
  exact fun k => (h k).trans (mem_lotB hR).symm
/-- for each kind the ascending tuple of all kinds that it is -/
def ShL (H : Hp) (vs : List V) (P : List (List Nat)) (l : Addr) : Prop := ∀ (j : Nat) v, vs[j]? = some v → ∃ b, v = .ref b ∧ H b = some (.tup (natsV (lotB P j))) ∧ b ≠ l
def ShAt (H : Hp) (l : Addr) (P : List (List Nat)) : Prop := ∃ vs, H l = some (.lst vs) ∧ vs.length = P.length ∧ ShL H vs P l
theorem ShL.tk {H H' : Hp} {vs : List V} {P : List (List Nat)} {l : Addr} (h : ShL H vs P l) (k : TK H H') : ShL H' vs P l := fun j v e => by
  obtain ⟨b, e1, e2, e3⟩ := h j v e
  exact ⟨b, e1, k _ _ e2, e3⟩
theorem ShAt.same {H H' : Hp} {l : Addr} {P : List (List Nat)} (h : ShAt H l P) (s : Same H H') : ShAt H' l P := by
  obtain ⟨vs, h1, h2, h3⟩ := h
  exact ⟨vs, s _ _ h1, h2, h3.tk (Same.tk s)⟩
theorem ShAt.mv {H H' : Hp} {l : Addr} {P : List (List Nat)} {τ : Tp} (h : ShAt H l P) (m : Mv τ H H') (n : l ≠ τ.t) : ShAt H' l P := by
  obtain ⟨vs, h1, h2, h3⟩ := h
  exact ⟨vs, m.keep _ _ n h1, h2, h3.tk m.tk⟩
theorem ShAt.at {H : Hp} {l : Addr} {P : List (List Nat)} (h : ShAt H l P) {x : Nat} (hx : x < P.length) : ∃ vs b, H l = some (.lst vs) ∧ vs.length = P.length ∧ vs[x]? = some (.ref b) ∧ H b = some (.tup (natsV (lotB P x))) := by
  obtain ⟨vs, h1, h2, h3⟩ := h
  obtain ⟨b, e1, e2, _⟩ := h3 x _ (List.getElem?_eq_getElem (by omega))
  exact ⟨vs, b, h1, h2, by rw [List.getElem?_eq_getElem (by omega), e1], e2⟩
def sp__law_sheet (K : PySem.W.Frag) : Sp := fun vs H Q _ => ∃ (a : Addr) (P : List (List Nat)), vs = [.ref a] ∧ ParAt H a P ∧ OkP P ∧ P.length ≤ 63 ∧ ∀ l H', Same H H' → Nw H l → ShAt H' l P → Q (.ref l) H'
theorem sc__law_sheet : FnScope ["_law_parents_here", "_law_found", "_law_kind", "_law_item", "_law_here", "_law_parent"] ["_law_parents_here"] (defScope s__law_sheet) := ⟨rfl, rfl, rfl, by decide +kernel, rfl, by decide +kernel, by decide +kernel⟩
theorem ok__law_sheet (T : Top P K mg) : FnOk P w K mg base CX0 1 T.f__law_sheet T.fd__law_sheet ["_law_parents_here"] (sp__law_sheet K) := by
  refine T.F__law_sheet.ok sc__law_sheet (fun vs H Q E h => ?_) (fun cdv A outer s H vs Q E hr h => ?_)
  · obtain ⟨a, P, rfl, _⟩ := h
    rfl
  · obtain ⟨a, P, rfl, hP, ok, h63, k⟩ := h
    refine ⟨_, (pss_cons (ps_set (i := 1) sc__law_sheet.nd rfl (Or.inl rfl) (pe_lst pa_nil))
      (pss_cons (ps_for PassesOwn.never rfl (pi_enumT (by rfl) T.z_enumerate (pa_cons (pv 0) pa_nil)) (pg_tup rfl (pgs_cons (pg_name (i := 2) sc__law_sheet.nd rfl (Or.inl rfl)) (pgs_cons (pg_name (i := 3) sc__law_sheet.nd rfl (Or.inl rfl)) pgs_nil)))
      (pss_cons (ps_set (i := 4) sc__law_sheet.nd rfl (Or.inl rfl) (pe_lst (pa_cons (pv 2) pa_nil)))
      (pss_cons (ps_for PassesOwn.never rfl (pi_tup (pv 3)) (pg_name (i := 5) sc__law_sheet.nd rfl (Or.inl rfl))
      (pss_one (ps_expr (pe_bm PySem.F.plainAttrs_list PySem.F.slot_list_extend PySem.F.type_list_extend mt_extend (pv 4) (pa_cons (pe_callTy (r := rListQ K) (T := "list") call_list_of (by rfl) T.z_list (by decide +kernel) (pa_cons (pe_ix (r := rIxL K) ix_list (pv 1) (pv 5) (fun _ _ => rfl)) pa_nil)) pa_nil)))))
      (pss_one (ps_expr (pe_bm PySem.F.plainAttrs_list PySem.F.slot_list_append PySem.F.type_list_append mt_append (pv 1) (pa_cons (pe_callTy (r := rTupQ K) (T := "tuple") call_tuple_of (by rfl) T.z_tuple (by decide +kernel) (pa_cons (pe_callB (id := "sorted") (cr_sortedSet rfl) (by rfl) T.z_sorted (by decide +kernel) (pa_cons (pe_callTy (T := "set") (cr_setL rfl) (by rfl) T.z_set (by decide +kernel) (pa_cons (pv 4) pa_nil)) pa_nil)) pa_nil)) pa_nil)))))))
      (pss_one (ps_ret (pv 1))))), ?_⟩
    have hR := ok.rt
    obtain ⟨vsP, hpa, hlen, hit⟩ := id hP
    tm_at "w"
    intro F nF
    have s0 : Same H (upd H F (.lst [])) := Same.new (Same.refl H) nF
    have hpa1 := s0 _ _ hpa
    tm_at "w"
    refine ⟨_, _, rfl, SqT.of hpa1, for_enumT (K := K) (a := a) (xs := vsP) (fun i σ H' => ∃ x y z w, σ = [some (.ref a), some (.ref F), x, y, z, w] ∧ Same H H' ∧ ∃ vs, H' F = some (.lst vs) ∧ vs.length = i ∧ ShL H' vs P F) ?_ ?_ ?_ ?_⟩
    · exact ⟨_, _, _, _, rfl, s0, [], upd_same, rfl, fun j v e => by simp at e⟩
    · rintro i σ H' ⟨_, _, _, _, rfl, s1, _⟩
      exact SqT.of (s1 _ _ hpa)
    · rintro i x t σ H' hx ⟨x0, y0, z0, w0, rfl, s1, vs, hl1, hvl, hfl⟩ nt
      obtain ⟨ai, p, rfl, hp, hai⟩ := ParL.here ⟨hlen, hit⟩ hx
      have il := (List.getElem?_eq_some_iff.mp hp).1
      have p6 := (ok.ok i p hp).few
      have s2 : Same H' (upd H' t (.tup [V.int (i : Int), V.ref ai])) := Same.new (Same.refl H') nt
      have hai2 := s2 _ _ (s1 _ _ hai)
      tm_at "w"
      intro L nL
      have nL0 : H' L = none := Same.free s2 nL
      have s3 : Same H' (upd (upd H' t (.tup [V.int (i : Int), V.ref ai])) L (.lst [V.int (i : Int)])) := Same.new s2 nL
      have hai3 := s3 _ _ (s1 _ _ hai)
      tm_at "w"
      refine ⟨⟨_, SqT.of hai3⟩, for_tup (K := K) (a := ai) (xs := natsV p) (fun j σ H2 => ∃ u, σ = [some (.ref a), some (.ref F), some (.int (i : Int)), some (.ref ai), some (.ref L), u] ∧ Same H' H2 ∧ ∃ S, H2 L = some (.lst (natsV S)) ∧ (∀ k, k ∈ S ↔ k = i ∨ ∃ z ∈ p.take j, isA P z k = true) ∧ S.length ≤ 1 + j * 63) ?_ ?_ ?_ ?_⟩
      · exact ⟨w0, rfl, s3, [i], upd_same, (fun k => ⟨(fun h => .inl (List.mem_singleton.mp h)), (fun h => by
          rcases h with h | ⟨z, hz, _⟩
          · exact List.mem_singleton.mpr h
          · simp at hz)⟩), by show 1 ≤ 1 + 0 * 63; decide⟩
      · rintro j σ H2 _ ⟨_, rfl, s4, _⟩
        exact SqT.of (s4 _ _ (s1 _ _ hai))
      · rintro j v σ H2 hv ⟨u0, rfl, s4, S, hL, hS, hSl⟩
        obtain ⟨q, hq, rfl, jl⟩ := natsV_here hv
        have ql := hR i p hp q (List.mem_of_getElem? hq)
        obtain ⟨aq, e1, e2, _⟩ := hfl q _ (List.getElem?_eq_getElem (by omega))
        have e3 : ∀ k, k ∈ lotB P q ↔ isA P q k = true := fun k => mem_lotB hR
        have e4 := lotB_len P q
        have hl4 := s4 _ _ hl1
        have hq4 := s4 _ _ e2
        have hvq : vs[q]? = some (.ref aq) := by rw [List.getElem?_eq_getElem (by omega), e1]
        tm_at "w"
        intro M nM
        have hL5 : upd H2 M (.lst (natsV (lotB P q))) L = some (.lst (natsV S)) := (upd_ne (ne_of_none hL nM)).trans hL
        have s5 := Same.new (o := .lst (natsV (lotB P q))) s4 nM
        tm_at "w"
        refine ⟨_, _, _, _, rfl, rfl, hL5, upd_same, by rw [natsV_len, natsV_len]; have := lt_line (n := 90000) (by decide); omega, ?_⟩
        refine ⟨_, rfl, Same.mut s5 nL0, S ++ lotB P q, by rw [upd_same]; unfold natsV; rw [List.map_append], fun k => ?_, by rw [List.length_append]; omega⟩
        rw [List.mem_append, hS, e3, List.take_add_one, hq]
        constructor
        · rintro ((e | ⟨y, hy, e⟩) | e)
          · exact .inl e
          · exact .inr ⟨y, List.mem_append_left _ hy, e⟩
          · exact .inr ⟨q, List.mem_append_right _ (List.mem_singleton.mpr rfl), e⟩
        · rintro (e | ⟨y, hy, e⟩)
          · exact .inl (.inl e)
          · rcases List.mem_append.mp hy with hy | hy
            · exact .inl (.inr ⟨y, hy, e⟩)
            · rw [show y = q from List.mem_singleton.mp hy] at e
              exact .inr e
      · rintro σ H2 ⟨u0, rfl, s4, S, hL, hS, hSl⟩
        rw [natsV_len, List.take_length] at hS
        rw [natsV_len] at hSl
        have hl4 := s4 _ _ hl1
        tm_at "w"
        refine ⟨_, S.map fun z : Nat => (z : Int), rfl, SqL.of (by rw [List.map_map]; exact hL), by rw [List.length_map]; omega, fun Z c hc hks nZ => ?_⟩
        have hSi : ∀ k, k ∈ S ↔ isA P i k = true := fun k => by
          rw [hS, isA_rec hR hp, Bool.or_eq_true, decide_eq_true_eq, List.any_eq_true]
          exact ⟨fun h => h.imp Eq.symm id, fun h => h.imp Eq.symm id⟩
        have hSn : ∀ k ∈ S, k < P.length := fun k hk => by
          have := isA_le hR ((hSi k).mp hk)
          omega
        have hcn : c ≤ P.length := by
          obtain ⟨ks, h1, h2, h3⟩ := hks
          rw [← h2]
          refine int_nodup_le h1 fun k hk => ?_
          obtain ⟨z, hz, e⟩ := List.mem_map.mp ((h3 k).mp hk)
          have := hSn z hz
          omega
        refine ⟨Z, _, _, rfl, upd_same, by omega, fun ns p2 hs hmem hlen2 np => ?_⟩
        obtain ⟨ks, rfl, hks2, hkp⟩ := nats_of hs (n := P.length) fun x hx => by
          have := of_decide_eq_true ((hmem x).mp hx)
          obtain ⟨z, hz, e⟩ := List.mem_map.mp this
          exact ⟨z, hSn z hz, e.symm⟩
        rw [List.length_map] at hlen2
        have s6 := (Same.new (o := .lst ((ks.map fun z : Nat => (z : Int)).map V.int)) (Same.new s4 nZ) np)
        have ekl : ks = lotB P i := lot_asc hR hkp fun k => by
          rw [← hSi]
          constructor
          · intro h
            have := of_decide_eq_true ((hmem (k : Int)).mp (List.mem_map.mpr ⟨k, h, rfl⟩))
            obtain ⟨z, hz, e⟩ := List.mem_map.mp this
            rw [show k = z by omega]
            exact hz
          · intro h
            have := (hmem (k : Int)).mpr (decide_eq_true (List.mem_map.mpr ⟨k, h, rfl⟩))
            obtain ⟨z, hz, e⟩ := List.mem_map.mp this
            rw [show k = z by omega]
            exact hz
        tm_at "w"
        intro u nu
        have s7 := Same.new (o := .tup ((ks.map fun z : Nat => (z : Int)).map V.int)) s6 nu
        have hl7 := s7 _ _ hl1
        have nuF : u ≠ F := fun e => by rw [e, s6 _ _ hl1] at nu; cases nu
        tm_at "w"
        refine ⟨_, _, _, _, rfl, Same.mut (Same.trans s1 s7) nF, vs ++ [.ref u], upd_same, len_app hvl, snoc_at hvl (hfl.tk (TK.trans (Same.tk s7) (TK.mut hl7))) ⟨u, rfl, ?_, nuF⟩⟩
        rw [upd_ne nuF, upd_same, List.map_map, ← ekl]
        rfl
    · rintro σ H' ⟨x0, y0, z0, w0, rfl, s1, vs, hl1, hvl, hfl⟩
      tm_at "w"
      exact k F _ s1 ⟨nF⟩ ⟨vs, hl1, by omega, hfl⟩
/-! _law_dealt -/
theorem inV_nats (k : Nat) (q : List Nat) : inV (.int (k : Int)) (natsV q) = decide (k ∈ q) := by
  have e : natsV q = (q.map fun z : Nat => (z : Int)).map V.int := by unfold natsV; rw [List.map_map]; rfl
  rw [e, inV_int]
  refine decide_eq_decide.mpr ⟨fun h => ?_, fun h => List.mem_map.mpr ⟨k, h, rfl⟩⟩
  obtain ⟨z, hz, ez⟩ := List.mem_map.mp h
  rw [show k = z by omega]
  exact hz
theorem flat_nats (q : List Nat) : (natsV q).all flatV = true := List.all_eq_true.mpr fun v hv => by
  unfold natsV at hv
  obtain ⟨n, _, rfl⟩ := List.mem_map.mp hv
  rfl
theorem range_snoc {F : Nat → Addr} {e : Addr} (n : Nat) : ((List.range n).map fun j => V.ref (F j)) ++ [V.ref e] = (List.range (n + 1)).map fun j => V.ref (if j = n then e else F j) := by
  rw [List.range_succ, List.map_append]
  congr 1
  · refine List.map_congr_left fun j hj => ?_
    rw [List.mem_range] at hj
    rw [if_neg (by omega)]
  · show [V.ref e] = [V.ref (if n = n then e else F n)]
    rw [if_pos rfl]
def lastD (D : List (List Nat)) (s : Nat) : Nat := (D.getD s []).getLastD 0
theorem getD_some {l : List (List Nat)} {i : Nat} {v : List Nat} (h : l[i]? = some v) : l.getD i [] = v := by
  rw [List.getD_eq_getElem?_getD, h]
  rfl
theorem at_neg1 {q : List Nat} (h : q ≠ []) : atI (natsV q) (-1) = some (.int ((q.getLastD 0 : Nat) : Int)) := by
  have hl : 0 < q.length := List.length_pos_iff.mpr h
  unfold atI
  have e : ixN (natsV q).length (-1) = some (q.length - 1) := by
    rw [natsV_len]
    unfold ixN
    rw [if_neg (by decide), if_pos (by omega)]
    congr 1
    omega
  rw [e]
  refine natsV_at ?_
  rw [List.getElem?_eq_getElem (by omega), ← List.getLast_eq_getElem h, List.getLastD_eq_getLast?, List.getLast?_eq_getLast h]
  rfl
theorem filter_list (q : List Nat) (c : Nat → Bool) : (List.range (natsV q).length).filterMap (fun i => q[i]?.bind fun s => if c s = true then some (V.int (s : Int)) else none) = natsV (q.filter c) := by
  rw [natsV_len]
  have h1 : (List.range q.length).filterMap (fun i => q[i]?.bind fun s => if c s = true then some (V.int (s : Int)) else none) = q.filterMap fun s => if c s = true then some (V.int (s : Int)) else none := by
    have key : ∀ n, n ≤ q.length → (List.range n).filterMap (fun i => q[i]?.bind fun s => if c s = true then some (V.int (s : Int)) else none) = (q.take n).filterMap fun s => if c s = true then some (V.int (s : Int)) else none := by
      intro n
      induction n with
      | zero => intro _; rfl
      | succ n ih =>
        intro h
        rw [filterMap_range_succ, ih (by omega), List.take_add_one, List.filterMap_append]
        rw [List.getElem?_eq_getElem (show n < q.length by omega)]
        congr 1
    rw [key _ (Nat.le_refl _), List.take_length]
  rw [h1]
  induction q with
  | nil => rfl
  | cons p r ih =>
    have ih2 : r.filterMap (fun s => if c s = true then some (V.int (s : Int)) else none) = natsV (r.filter c) := by
      clear ih h1
      induction r with
      | nil => rfl
      | cons p r ih =>
        rw [List.filterMap_cons, List.filter_cons]
        cases e : c p with
        | true => rw [if_pos rfl, if_pos rfl]; show _ :: _ = V.int (p : Int) :: natsV (r.filter c); rw [ih]
        | false => simp only [Bool.false_eq_true, if_false]; exact ih
    rw [List.filterMap_cons, List.filter_cons]
    cases e : c p with
    | true => rw [if_pos rfl, if_pos rfl]; show _ :: _ = V.int (p : Int) :: natsV (r.filter c); rw [ih2]
    | false => simp only [Bool.false_eq_true, if_false]; exact ih2
/-! ### one list of lists of numbers that changes -/
structure DF (H0 H : Hp) (l : Addr) (D : List (List Nat)) (F : Nat → Addr) : Prop where
  list : H l = some (.lst ((List.range D.length).map fun j => V.ref (F j)))
  rows : ∀ (j : Nat) q, D[j]? = some q → H (F j) = some (.lst (natsV q))
  inj : ∀ (i j : Nat), i < D.length → j < D.length → F i = F j → i = j
  apart : ∀ (j : Nat), j < D.length → F j ≠ l
  newL : H0 l = none
  newF : ∀ (j : Nat), j < D.length → H0 (F j) = none
def DL (H0 H : Hp) (l : Addr) (D : List (List Nat)) : Prop := ∃ F, DF H0 H l D F
section
variable {H0 H H' : Hp} {l : Addr} {D : List (List Nat)} {τ : Tp}
theorem DL.init (n : H0 l = none) (h : H l = some (.lst [])) : DL H0 H l [] := ⟨fun _ => l, h, fun j q e => by simp at e, fun i j e => absurd e (Nat.not_lt_zero _), fun j e => absurd e (Nat.not_lt_zero _), n, fun j e => absurd e (Nat.not_lt_zero _)⟩
theorem DL.same (g : DL H0 H l D) (s : Same H H') : DL H0 H' l D := by
  obtain ⟨F, f⟩ := g
  exact ⟨F, s _ _ f.list, fun j q e => s _ _ (f.rows j q e), f.inj, f.apart, f.newL, f.newF⟩
theorem DL.mv (g : DL H0 H l D) (m0 : Mv τ H0 H) (m : Mv τ H H') : DL H0 H' l D := by
  obtain ⟨F, f⟩ := g
  exact ⟨F, m.keep _ _ (m0.neF f.newL) f.list, fun j q e => m.keep _ _ (m0.neF (f.newF j (List.getElem?_eq_some_iff.mp e).1)) (f.rows j q e), f.inj, f.apart, f.newL, f.newF⟩
theorem DL.mut (g : DL H0 H l D) {a : Addr} {o : HO} (n : a ≠ l) (nF : ∀ F, DF H0 H l D F → ∀ (j : Nat), j < D.length → F j ≠ a) : DL H0 (upd H a o) l D := by
  obtain ⟨F, f⟩ := g
  exact ⟨F, (upd_ne n.symm).trans f.list, fun j q e => (upd_ne (nF F f j (List.getElem?_eq_some_iff.mp e).1)).trans (f.rows j q e), f.inj, f.apart, f.newL, f.newF⟩
/-- what a reader sees -/
def refsV (n : Nat) (F : Nat → Addr) : List V := (List.range n).map fun j => V.ref (F j)
theorem refsV_len (n : Nat) (F : Nat → Addr) : (refsV n F).length = n := by
  unfold refsV
  rw [List.length_map, List.length_range]
theorem refsV_at {n : Nat} {F : Nat → Addr} {j : Nat} (h : j < n) : (refsV n F)[j]? = some (.ref (F j)) := by
  unfold refsV
  rw [List.getElem?_map, List.getElem?_range h]
  rfl
theorem refsV_here {n : Nat} {F : Nat → Addr} {j : Nat} {x : V} (h : (refsV n F)[j]? = some x) : j < n ∧ x = .ref (F j) := by
  have hj := (List.getElem?_eq_some_iff.mp h).1
  rw [refsV_len] at hj
  rw [refsV_at hj] at h
  exact ⟨hj, (Option.some.inj h).symm⟩
theorem refsV_filter (n : Nat) (F : Nat → Addr) (c : Nat → Bool) : (List.range n).filterMap (fun j => if c j = true then some (V.ref (F j)) else none) = ((List.range n).filter c).map fun j => V.ref (F j) := by
  induction List.range n with
  | nil => rfl
  | cons a r ih =>
    rw [List.filterMap_cons, List.filter_cons]
    cases c a with
    | true => rw [if_pos rfl, if_pos rfl, List.map_cons, ih]
    | false => rw [if_neg (by decide), if_neg (by decide), ih]
structure RowsL (H : Hp) (l : Addr) (D : List (List Nat)) (F : Nat → Addr) : Prop where
  list : H l = some (.lst (refsV D.length F))
  row : ∀ (j : Nat) q, D[j]? = some q → H (F j) = some (.lst (natsV q))
theorem DL.at (g : DL H0 H l D) : ∃ F, RowsL H l D F := by
  obtain ⟨F, f⟩ := g
  exact ⟨F, f.list, f.rows⟩
theorem RowsL.same {F : Nat → Addr} (g : RowsL H l D F) (s : Same H H') : RowsL H' l D F := ⟨s _ _ g.list, fun j q e => s _ _ (g.row j q e)⟩
theorem DL.new (g : DL H0 H l D) {e : Addr} {o : HO} (n : H e = none) : DL H0 (upd H e o) l D := g.same (Same.new (Same.refl H) n)
theorem DL.grow (g : DL H0 H l D) {e : Addr} {x : Nat} {xs : List V} (ne : H e = none) (ne0 : H0 e = none) (hx : H l = some (.lst xs)) : DL H0 (upd (upd H e (.lst [.int (x : Int)])) l (.lst (xs ++ [.ref e]))) l (D ++ [[x]]) := by
  obtain ⟨F, f⟩ := g
  have ex : xs = (List.range D.length).map fun j => V.ref (F j) := by
    have := f.list
    rw [hx] at this
    injection this with this
    injection this
  have nF : ∀ (j : Nat), j < D.length → F j ≠ e := fun j hj => ne_of_none (f.rows j _ (List.getElem?_eq_getElem hj)) ne
  have nl : l ≠ e := ne_of_none f.list ne
  refine ⟨fun j => if j = D.length then e else F j, ?_, fun j q hq => ?_, fun i j hi hj h => ?_, fun j hj => ?_, f.newL, fun j hj => ?_⟩
  · rw [upd_same, ex, List.length_append, List.length_singleton, range_snoc]
  · by_cases hj : j < D.length
    · rw [List.getElem?_append_left hj] at hq
      simp only [if_neg (Nat.ne_of_lt hj)]
      rw [upd_ne (f.apart j hj), upd_ne (nF j hj)]
      exact f.rows j q hq
    · rw [List.getElem?_append_right (by omega)] at hq
      have ll := (List.getElem?_eq_some_iff.mp hq).1
      rw [List.length_singleton] at ll
      have ej : j = D.length := by omega
      rw [ej, Nat.sub_self] at hq
      simp only [if_pos ej]
      rw [upd_ne nl.symm, upd_same, ← Option.some.inj hq]
      rfl
  · rw [List.length_append, List.length_singleton] at hi hj
    by_cases c1 : i = D.length
    · by_cases c2 : j = D.length
      · rw [c1, c2]
      · simp only [if_pos c1, if_neg c2] at h
        exact absurd h.symm (nF j (by omega))
    · by_cases c2 : j = D.length
      · simp only [if_neg c1, if_pos c2] at h
        exact absurd h (nF i (by omega))
      · simp only [if_neg c1, if_neg c2] at h
        exact f.inj i j (by omega) (by omega) h
  · rw [List.length_append, List.length_singleton] at hj
    by_cases c : j = D.length
    · simp only [if_pos c]
      exact nl.symm
    · simp only [if_neg c]
      exact f.apart j (by omega)
  · rw [List.length_append, List.length_singleton] at hj
    by_cases c : j = D.length
    · simp only [if_pos c]
      exact ne0
    · simp only [if_neg c]
      exact f.newF j (by omega)
theorem DL.push (g : DL H0 H l D) {j : Nat} {q q' : List Nat} {a : Addr} {xs : List V} (hq : D[j]? = some q) (hx : H l = some (.lst xs)) (ha : xs[j]? = some (.ref a)) : H0 a = none ∧ DL H0 (upd H a (.lst (natsV q'))) l (D.set j q') := by
  obtain ⟨F, f⟩ := g
  have hj := (List.getElem?_eq_some_iff.mp hq).1
  have ea : a = F j := by
    have := f.list
    rw [hx] at this
    injection this with this
    injection this with this
    rw [this, List.getElem?_map, List.getElem?_range hj] at ha
    injection ha with ha
    injection ha with ha
    exact ha.symm
  subst ea
  refine ⟨f.newF j hj, F, ?_, fun i r hr => ?_, ?_, ?_, f.newL, ?_⟩
  · rw [upd_ne (f.apart j hj).symm, List.length_set]
    exact f.list
  · have hi := (List.getElem?_eq_some_iff.mp hr).1
    rw [List.length_set] at hi
    rw [List.getElem?_set] at hr
    by_cases e : j = i
    · subst e
      rw [if_pos rfl, if_pos hj] at hr
      rw [upd_same, Option.some.inj hr]
    · rw [if_neg e] at hr
      rw [upd_ne (fun z => e (f.inj i j hi hj z).symm)]
      exact f.rows i r hr
  · rw [List.length_set]
    exact f.inj
  · rw [List.length_set]
    exact f.apart
  · rw [List.length_set]
    exact f.newF
end
/-- a scheme that says what is so -/
def SchOk (P : List (List Nat)) (S : List Tr) : Prop := S.length = P.length ∧ (∀ e ∈ S, 0 ≤ e.1 ∧ e.2.2.length ≤ 1000) ∧ ∀ (x p : Nat) ex ep, S[x]? = some ex → S[p]? = some ep → saysB ex ep = isA P x p
def Chn (P : List (List Nat)) (d : List Nat) : Prop := d.Pairwise fun a b => isA P b a = true
theorem chn_count {P : List (List Nat)} (hR : RtP P) (x : Nat) : ∀ {d : List Nat} {j p : Nat}, Chn P d → d[j]? = some p → (j + 1 ≤ (d.filter fun k => isA P x k).length ↔ isA P x p = true)
  | [], j, p, _, h => by simp at h
  | a :: r, j, p, hc, h => by
    obtain ⟨h1, h2⟩ := List.pairwise_cons.mp hc
    rw [List.filter_cons]
    cases e : isA P x a with
    | true =>
      rw [if_pos rfl, List.length_cons]
      cases j with
      | zero =>
        have : a = p := Option.some.inj h
        rw [← this, e]
        exact ⟨fun _ => rfl, fun _ => by omega⟩
      | succ j =>
        have ih := chn_count hR x h2 (show r[j]? = some p from h)
        rw [← ih]
        omega
    | false =>
      rw [if_neg (by decide)]
      have no : ∀ b ∈ r, isA P x b = false := fun b hb => by
        cases eb : isA P x b with
        | false => rfl
        | true =>
          rw [isA_trans hR eb (h1 b hb)] at e
          cases e
      have nil : r.filter (fun k => isA P x k) = [] := List.filter_eq_nil_iff.mpr fun b hb => by rw [no b hb]; decide
      rw [nil]
      have np : isA P x p = false := by
        cases j with
        | zero =>
          have : a = p := Option.some.inj h
          rw [← this]
          exact e
        | succ j => exact no p (List.mem_of_getElem? h)
      rw [np]
      exact ⟨fun z => absurd z (by simp), fun z => by cases z⟩
theorem chn_snoc {P : List (List Nat)} (hR : RtP P) {d : List Nat} {x : Nat} (h : Chn P d) (hl : d = [] ∨ isA P x (d.getLastD 0) = true) : Chn P (d ++ [x]) := by
  refine List.pairwise_append.mpr ⟨h, List.pairwise_singleton _ _, fun a ha b hb => ?_⟩
  rw [List.mem_singleton.mp hb]
  rcases hl with e | e
  · rw [e] at ha
    cases ha
  · have dne : d ≠ [] := List.ne_nil_of_mem ha
    have el : d.getLastD 0 = d.getLast dne := by
      rw [List.getLastD_eq_getLast?, List.getLast?_eq_getLast dne]
      rfl
    rw [el] at e
    have ed : d = d.dropLast ++ [d.getLast dne] := (List.dropLast_concat_getLast dne).symm
    rw [ed] at ha
    rcases List.mem_append.mp ha with ha | ha
    · have h2 := h
      rw [ed] at h2
      exact isA_trans hR e ((List.pairwise_append.mp h2).2.2 a ha _ (List.mem_singleton.mpr rfl))
    · rw [List.mem_singleton.mp ha]
      exact e
/-! ### rows of kinds: a dealing -/
structure Deal (P : List (List Nat)) (m : Nat) (D : List (List Nat)) : Prop where
  full : ∀ q ∈ D, q ≠ []
  chain : ∀ q ∈ D, Chn P q
  asc : ∀ q ∈ D, q.Pairwise (· < ·)
  all : D.flatten.Perm (List.range m)
section
variable {P : List (List Nat)} {m : Nat} {D : List (List Nat)}
theorem Deal.nil : Deal P 0 [] := ⟨(fun q h => by cases h), (fun q h => by cases h), (fun q h => by cases h), List.Perm.refl _⟩
theorem Deal.lt (d : Deal P m D) {q : List Nat} (h : q ∈ D) {k : Nat} (hk : k ∈ q) : k < m := by
  have : k ∈ List.range m := d.all.mem_iff.mp (List.mem_flatten.mpr ⟨q, h, hk⟩)
  exact List.mem_range.mp this
theorem Deal.flat_len (d : Deal P m D) : D.flatten.length = m := by
  rw [d.all.length_eq, List.length_range]
theorem flat_ge : ∀ (D : List (List Nat)), (∀ q ∈ D, q ≠ []) → D.length ≤ D.flatten.length
  | [], _ => Nat.le_refl _
  | q :: r, h => by
    have ih := flat_ge r fun z hz => h z (List.mem_cons_of_mem _ hz)
    have q0 : 0 < q.length := List.length_pos_iff.mpr (h q List.mem_cons_self)
    rw [List.flatten_cons, List.length_append, List.length_cons]
    omega
theorem flat_row : ∀ (D : List (List Nat)) {q : List Nat}, q ∈ D → q.length ≤ D.flatten.length
  | [], q, h => by cases h
  | a :: r, q, h => by
    rw [List.flatten_cons, List.length_append]
    rcases List.mem_cons.mp h with e | h
    · rw [e]; omega
    · have := flat_row r h
      omega
theorem Deal.many (d : Deal P m D) : D.length ≤ m := by
  have := flat_ge D d.full
  rw [d.flat_len] at this
  exact this
theorem Deal.long (d : Deal P m D) {q : List Nat} (h : q ∈ D) : q.length ≤ m := by
  have := flat_row D h
  rw [d.flat_len] at this
  exact this
theorem flat_snoc (x : Nat) : (D ++ [[x]]).flatten = D.flatten ++ [x] := by
  rw [List.flatten_append]
  rfl
theorem Deal.grow (d : Deal P m D) : Deal P (m + 1) (D ++ [[m]]) := by
  refine ⟨fun q h => ?_, fun q h => ?_, fun q h => ?_, ?_⟩
  · rcases List.mem_append.mp h with h | h
    · exact d.full q h
    · rw [List.mem_singleton.mp h]
      exact fun z => nomatch z
  · rcases List.mem_append.mp h with h | h
    · exact d.chain q h
    · rw [List.mem_singleton.mp h]
      exact List.pairwise_singleton _ _
  · rcases List.mem_append.mp h with h | h
    · exact d.asc q h
    · rw [List.mem_singleton.mp h]
      exact List.pairwise_singleton _ _
  · rw [flat_snoc, List.range_succ]
    exact d.all.append_right _
theorem flat_set : ∀ (D : List (List Nat)) {j : Nat} {q : List Nat} (x : Nat), D[j]? = some q → (D.set j (q ++ [x])).flatten.Perm (D.flatten ++ [x])
  | a :: r, 0, q, x, h => by
    have e : a = q := Option.some.inj h
    subst e
    show ((a ++ [x]) :: r).flatten.Perm _
    rw [List.flatten_cons, List.flatten_cons, List.append_assoc, List.append_assoc]
    exact List.Perm.append_left _ List.perm_append_comm
  | a :: r, j + 1, q, x, h => by
    show (a :: r.set j (q ++ [x])).flatten.Perm _
    rw [List.flatten_cons, List.flatten_cons, List.append_assoc]
    exact List.Perm.append_left _ (flat_set r x h)
theorem Deal.push (hR : RtP P) (d : Deal P m D) {j : Nat} {q : List Nat} (h : D[j]? = some q) (hl : isA P m (q.getLastD 0) = true) : Deal P (m + 1) (D.set j (q ++ [m])) := by
  have hq := List.mem_of_getElem? h
  refine ⟨fun z hz => ?_, fun z hz => ?_, fun z hz => ?_, ?_⟩
  · rcases List.mem_or_eq_of_mem_set hz with hz | hz
    · exact d.full z hz
    · rw [hz]
      exact fun w => by simp at w
  · rcases List.mem_or_eq_of_mem_set hz with hz | hz
    · exact d.chain z hz
    · rw [hz]
      exact chn_snoc hR (d.chain q hq) (.inr hl)
  · rcases List.mem_or_eq_of_mem_set hz with hz | hz
    · exact d.asc z hz
    · rw [hz]
      refine List.pairwise_append.mpr ⟨d.asc q hq, List.pairwise_singleton _ _, fun a ha b hb => ?_⟩
      rw [List.mem_singleton.mp hb]
      exact d.lt hq ha
  · rw [List.range_succ]
    exact (flat_set D m h).trans (d.all.append_right _)
/-- where a kind stands -/
theorem Deal.place (d : Deal P m D) {k : Nat} (hk : k < m) : ∃ (s b : Nat) (q : List Nat), D[s]? = some q ∧ q[b]? = some k := by
  have : k ∈ D.flatten := d.all.mem_iff.mpr (List.mem_range.mpr hk)
  obtain ⟨q, hq, hk2⟩ := List.mem_flatten.mp this
  obtain ⟨s, hs⟩ := List.mem_iff_getElem?.mp hq
  obtain ⟨b, hb⟩ := List.mem_iff_getElem?.mp hk2
  exact ⟨s, b, q, hs, hb⟩
theorem flat_one : ∀ (D : List (List Nat)) {s s' : Nat} {q q' : List Nat} {k : Nat}, D.flatten.Nodup → D[s]? = some q → D[s']? = some q' → k ∈ q → k ∈ q' → s = s'
  | [], s, s', q, q', k, _, h, _, _, _ => by simp at h
  | a :: r, 0, 0, q, q', k, _, _, _, _, _ => rfl
  | a :: r, 0, s' + 1, q, q', k, n, h, h', hk, hk' => by
    have e : a = q := Option.some.inj h
    rw [List.flatten_cons, List.nodup_append] at n
    exact absurd rfl (n.2.2 k (e ▸ hk) k (List.mem_flatten.mpr ⟨q', List.mem_of_getElem? (show r[s']? = some q' from h'), hk'⟩))
  | a :: r, s + 1, 0, q, q', k, n, h, h', hk, hk' => by
    have e : a = q' := Option.some.inj h'
    rw [List.flatten_cons, List.nodup_append] at n
    exact absurd rfl (n.2.2 k (e ▸ hk') k (List.mem_flatten.mpr ⟨q, List.mem_of_getElem? (show r[s]? = some q from h), hk⟩))
  | a :: r, s + 1, s' + 1, q, q', k, n, h, h', hk, hk' => by
    rw [List.flatten_cons, List.nodup_append] at n
    rw [flat_one r n.2.1 (show r[s]? = some q from h) (show r[s']? = some q' from h') hk hk']
theorem asc_one {q : List Nat} (h : q.Pairwise (· < ·)) {b b' k : Nat} (h1 : q[b]? = some k) (h2 : q[b']? = some k) : b = b' := by
  obtain ⟨l1, e1⟩ := List.getElem?_eq_some_iff.mp h1
  obtain ⟨l2, e2⟩ := List.getElem?_eq_some_iff.mp h2
  have pw := List.pairwise_iff_getElem.mp h
  rcases Nat.lt_trichotomy b b' with z | z | z
  · have := pw b b' l1 l2 z
    omega
  · exact z
  · have := pw b' b l2 l1 z
    omega
theorem Deal.one (d : Deal P m D) {s s' b b' k : Nat} {q q' : List Nat} (h1 : D[s]? = some q) (h2 : q[b]? = some k) (h3 : D[s']? = some q') (h4 : q'[b']? = some k) : s = s' ∧ q = q' ∧ b = b' := by
  have n : D.flatten.Nodup := d.all.nodup_iff.mpr List.nodup_range
  have e := flat_one D n h1 h3 (List.mem_of_getElem? h2) (List.mem_of_getElem? h4)
  subst e
  have eq : q = q' := Option.some.inj (h1.symm.trans h3)
  subst eq
  exact ⟨rfl, rfl, asc_one (d.asc q (List.mem_of_getElem? h1)) h2 h4⟩
/-- what an entry tells of a row -/
def ownB (P : List (List Nat)) (x : Nat) (q : List Nat) : List Nat := q.filter fun k => isA P x k
def EntOk (P : List (List Nat)) (x : Nat) (q : List Nat) (low step e : Int) : Prop := (ownB P x q = [] ∧ e < low) ∨ ∃ a : Nat, q[a]? = some ((ownB P x q).getLastD 0) ∧ ownB P x q ≠ [] ∧ low + step * (a : Int) ≤ e ∧ e < low + step * ((a : Int) + 1)
theorem ent_tells (hR : RtP P) {x p b : Nat} {q : List Nat} {low step e : Int} (hs : 0 < step) (hc : Chn P q) (ha : q.Pairwise (· < ·)) (hp : q[b]? = some p) (h : EntOk P x q low step e) : decide (low + step * (b : Int) ≤ e) = isA P x p := by
  have hpq := List.mem_of_getElem? hp
  rcases h with ⟨h1, h2⟩ | ⟨a, h1, h0, h2, h3⟩
  · have np : isA P x p = false := by
      cases z : isA P x p with
      | false => rfl
      | true =>
        have : p ∈ ownB P x q := List.mem_filter.mpr ⟨hpq, z⟩
        rw [h1] at this
        cases this
    rw [np]
    refine decide_eq_false fun z => ?_
    have : 0 ≤ step * (b : Int) := Int.mul_nonneg (Int.le_of_lt hs) (Int.natCast_nonneg b)
    omega
  · have el : (ownB P x q).getLastD 0 = (ownB P x q).getLast h0 := by
      rw [List.getLastD_eq_getLast?, List.getLast?_eq_getLast h0]
      rfl
    have lm : (ownB P x q).getLast h0 ∈ ownB P x q := List.getLast_mem h0
    rw [el] at h1
    generalize hg : (ownB P x q).getLast h0 = g at *
    have lx := (List.mem_filter.mp lm).2
    obtain ⟨l1, e1⟩ := List.getElem?_eq_some_iff.mp h1
    obtain ⟨l2, e2⟩ := List.getElem?_eq_some_iff.mp hp
    by_cases hab : b ≤ a
    · have ip : isA P x p = true := by
        by_cases eab : b = a
        · subst eab
          rw [h1] at hp
          rw [← Option.some.inj hp]
          exact lx
        · have := List.pairwise_iff_getElem.mp hc b a l2 l1 (by omega)
          rw [e1, e2] at this
          exact isA_trans hR lx this
      rw [ip]
      refine decide_eq_true ?_
      have : step * (b : Int) ≤ step * (a : Int) := Int.mul_le_mul_of_nonneg_left (by omega) (Int.le_of_lt hs)
      omega
    · have np : isA P x p = false := by
        cases z : isA P x p with
        | false => rfl
        | true =>
          have pm : p ∈ ownB P x q := List.mem_filter.mpr ⟨hpq, z⟩
          have gl := List.pairwise_iff_getElem.mp ha a b l1 l2 (by omega)
          rw [e1, e2] at gl
          have po : (ownB P x q).Pairwise (· < ·) := ha.filter _
          have ed : ownB P x q = (ownB P x q).dropLast ++ [g] := by rw [← hg]; exact (List.dropLast_concat_getLast h0).symm
          rw [ed] at pm po
          rcases List.mem_append.mp pm with pm | pm
          · have := (List.pairwise_append.mp po).2.2 p pm g (List.mem_singleton.mpr rfl)
            omega
          · have := List.mem_singleton.mp pm
            omega
      rw [np]
      refine decide_eq_false fun z => ?_
      have : step * ((a : Int) + 1) ≤ step * (b : Int) := Int.mul_le_mul_of_nonneg_left (by omega) (Int.le_of_lt hs)
      omega
/-- a triple of a scheme by a dealing -/
structure ByDeal (P D : List (List Nat)) (wide : Nat) (low step : Int) (x : Nat) (e : Tr) : Prop where
  place : ∃ (s b : Nat) (q : List Nat), D[s]? = some q ∧ q[b]? = some x ∧ e.1 = ((s * wide : Nat) : Int) ∧ e.2.1 = low + step * (b : Int)
  len : e.2.2.length = D.length * wide
  ents : ∀ (s : Nat) q, D[s]? = some q → ∃ z, e.2.2[s * wide]? = some z ∧ EntOk P x q low step z
theorem deal_ok {S : List Tr} {wide : Nat} {low step : Int} (hR : RtP P) (d : Deal P P.length D) (hs : 0 < step) (hw : 0 < wide) (hw2 : wide ≤ 2) (hn : P.length ≤ 400) (hl : S.length = P.length) (h : ∀ (x : Nat) e, S[x]? = some e → ByDeal P D wide low step x e) : SchOk P S := by
  refine ⟨hl, fun e he => ?_, fun x p ex ep h1 h2 => ?_⟩
  · obtain ⟨x, hx⟩ := List.mem_iff_getElem?.mp he
    have b := h x e hx
    obtain ⟨s, _, q, hs1, _, e1, _⟩ := b.place
    have := d.many
    refine ⟨by omega, ?_⟩
    rw [b.len]
    have : D.length * wide ≤ 400 * 2 := Nat.mul_le_mul (by omega) hw2
    omega
  · have bx := h x ex h1
    obtain ⟨s, b, q, hs1, hb, e1, e2⟩ := (h p ep h2).place
    obtain ⟨z, hz, he⟩ := bx.ents s q hs1
    have hq := List.mem_of_getElem? hs1
    have sl : s * wide < ex.2.2.length := (List.getElem?_eq_some_iff.mp hz).1
    have t := ent_tells hR hs (d.chain q hq) (d.asc q hq) hb he
    unfold saysB
    rw [e1, e2, Int.toNat_natCast, decide_eq_true (by omega), Bool.true_and, List.getD_eq_getElem?_getD, hz]
    exact t
end
def sp__law_dealt (K : PySem.W.Frag) : Sp := fun vs H Q _ => ∃ (τ : Tp) (l : Addr) (P : List (List Nat)), vs = [.ref τ.t, .ref l] ∧ Tape τ H ∧ ShAt H l P ∧ l ≠ τ.t ∧ RtP P ∧ P.length ≤ 63 ∧
  ∀ r D H', Mv τ H H' → DL H H' r D → Deal P P.length D → Q (.ref r) H'
theorem sc__law_dealt : FnScope ["_law_hand_here", "_law_sheet_here", "_law_rows", "_law_kind", "_law_fitting", "_law_row"] ["_law_hand_here", "_law_sheet_here"] (defScope s__law_dealt) := ⟨rfl, rfl, rfl, by decide +kernel, rfl, by decide +kernel, by decide +kernel⟩
theorem ok__law_dealt (T : Top P K mg) : FnOk P w K mg base CX0 2 T.f__law_dealt T.fd__law_dealt ["_law_hand_here", "_law_sheet_here"] (sp__law_dealt K) := by
  have G__law_draw := ok__law_draw (P := P) (w := w) (base := base) T
  refine T.F__law_dealt.ok sc__law_dealt (fun vs H Q E h => ?_) (fun cdv A outer s H vs Q E hr h => ?_)
  · obtain ⟨τ, l, P, rfl, _⟩ := h
    rfl
  · obtain ⟨τ, l, P, rfl, m0, hsh, nl, hR, h63, k⟩ := h
    refine ⟨_, (pss_cons (ps_set (i := 2) sc__law_dealt.nd rfl (Or.inl rfl) (pe_lst pa_nil))
      (pss_cons (ps_for PassesOwn.never rfl (pi_range1 rfl T.z_range (pa_cons (pe_callB (r := rLenQ K) (id := "len") call_len_seq (by rfl) T.z_len (by decide +kernel) (pa_cons (pv 1) pa_nil)) pa_nil)) (pg_name (i := 3) sc__law_dealt.nd rfl (Or.inr rfl))
      (pss_cons (ps_setLc (i := 4) (own := [("_law_row", 5)]) (g := gName 5) rfl sc__law_dealt.nd rfl rfl (sw_true rfl rfl rfl (by decide +kernel)) (pi_list (pv 2)) (blkOk_by (own := [("_law_row", 5)]) (N := ["_law_hand_here", "_law_sheet_here", "_law_rows", "_law_kind", "_law_fitting", "_law_row"]) (sc := defScope s__law_dealt) (by decide +kernel)) (fun _ _ _ _ _ => (pg_name (i := 5) sc__law_dealt.nd rfl (Or.inl rfl))) (fun _ _ _ _ _ => (pts_one (pt_cmpR (r := rIn K false) op_in_seq (pe_ix (r := rIxL K) ix_list (pv 5) (pe_un un_neg pe_int) (fun _ _ => rfl)) (pe_ix (r := rIxL K) ix_list (pv 1) (pv 3) (fun _ _ => rfl)) (by rfl)))) (fun _ _ _ _ _ => (pv 5)))
      (pss_one (ps_if (PW.pt (pw_and (pt_cmpR op_gt (pe_callB (r := rLenQ K) (id := "len") call_len_seq (by rfl) T.z_len (by decide +kernel) (pa_cons (pv 4) pa_nil)) pe_int (nomark _)) (pw_and1 (pt_cmpR op_gt (pe_call G__law_draw hr (by rfl) T.g__law_draw T.F__law_draw.kp T.b__law_draw .nil pass0 (pa_cons (pv 0) (pa_cons pe_int pa_nil))) pe_int (nomark _))))) (pss_one (ps_expr (pe_bm PySem.F.plainAttrs_list PySem.F.slot_list_append PySem.F.type_list_append mt_append (pe_ix (r := rIxL K) ix_list (pv 4) (pe_call G__law_draw hr (by rfl) T.g__law_draw T.F__law_draw.kp T.b__law_draw .nil pass0 (pa_cons (pv 0) (pa_cons (pe_callB (r := rLenQ K) (id := "len") call_len_seq (by rfl) T.z_len (by decide +kernel) (pa_cons (pv 4) pa_nil)) pa_nil))) (fun _ _ => rfl)) (pa_cons (pv 3) pa_nil)))) (pss_one (ps_expr (pe_bm PySem.F.plainAttrs_list PySem.F.slot_list_append PySem.F.type_list_append mt_append (pv 2) (pa_cons (pe_lst (pa_cons (pv 3) pa_nil)) pa_nil))))))))
      (pss_one (ps_ret (pv 2))))), ?_⟩
    obtain ⟨svs, hsv, hsl, _⟩ := id hsh
    tm_at "w"
    intro R nR
    have nRt := m0.mv.neN nR
    have hsv1 := (Same.new (o := .lst []) (Same.refl H) nR) _ _ hsv
    tm_at "w"
    refine for_range (lo := 0) (n := (svs.length : Int).toNat) (fun i σ H' => ∃ x y z, σ = [some (.ref τ.t), some (.ref l), some (.ref R), x, y, z] ∧ Mv τ H H' ∧ ∃ D, DL H H' R D ∧ Deal P i D) ?_ ?_ ?_
    · exact ⟨none, none, none, rfl, m0.mv.new nR, [], DL.init nR upd_same, Deal.nil⟩
    · rintro i σ H1 hi ⟨x0, y0, z0, rfl, m1, D, dl, de⟩
      rw [Int.zero_add]
      have il : i < P.length := by omega
      obtain ⟨F, f⟩ := id dl
      obtain ⟨vs, bq, g1, g2, g3, g4⟩ := (hsh.mv m1 nl).at il
      have hD1 : H1 R = some (.lst (refsV D.length F)) := f.list
      have dm := de.many
      have fin : ∀ H3, Mv τ H H3 → DL H H3 R D → H3 R = some (.lst (refsV D.length F)) → ∀ e, H3 e = none → DL H (upd (upd H3 e (.lst [.int (i : Int)])) R (.lst (refsV D.length F ++ [.ref e]))) R (D ++ [[i]]) ∧ Deal P (i + 1) (D ++ [[i]]) ∧ Mv τ H (upd (upd H3 e (.lst [.int (i : Int)])) R (.lst (refsV D.length F ++ [.ref e]))) ∧ upd H3 e (.lst [.int (i : Int)]) R = some (.lst (refsV D.length F)) :=
        fun H3 m3 d3 h3 e ne => ⟨d3.grow ne (m3.free ne) h3, de.grow, (m3.new ne).mut nR, (upd_ne (ne_of_none h3 ne)).trans h3⟩
      tm_at "w"
      refine ⟨⟨_, SqL.of hD1⟩, fun E nE => lc_listF (fun j => if isA P i (lastD D j) = true then some (V.ref (F j)) else none) hD1 nE (by rw [refsV_len]; omega) ?_ ?_⟩
      · intro j y H2 N M hy s2 kN kM
        obtain ⟨jl, rfl⟩ := refsV_here hy
        have c1 := s2 _ _ (f.rows j _ (List.getElem?_eq_getElem jl))
        have dne := de.full _ (List.getElem_mem jl)
        have el : lastD D j = (D[j]).getLastD 0 := by
          unfold lastD
          rw [getD_some (List.getElem?_eq_getElem jl)]
        have g12 := s2 _ _ g1
        have g42 := s2 _ _ g4
        tm_at "w"
        refine ⟨_, _, _, _, rfl, rfl, SqL.of c1, at_neg1 dne, ?_⟩
        tm_at "w"
        refine ⟨flat_nats _, ?_⟩
        show ∃ k, V.bl (inV (.int ((D[j].getLastD 0 : Nat) : Int)) (natsV (lotB P i))) = V.bl k ∧ _
        rw [inV_nats, show decide (D[j].getLastD 0 ∈ lotB P i) = isA P i (lastD D j) by rw [el, Bool.eq_iff_iff, decide_eq_true_eq]; exact mem_lotB hR]
        refine ⟨_, rfl, ?_⟩
        refine iteB (fun e => ?_) (fun e => ?_)
        · tm_at "w"
          exact kN _ _ (by rw [e]; rfl) (Same.refl H2)
        · exact kM _ (by rw [e]; rfl) (Same.refl H2)
      · intro H2 s2 hE
        rw [refsV_len, refsV_filter] at hE
        have hJ : ∀ z ∈ (List.range D.length).filter (fun j => isA P i (lastD D j)), z < D.length ∧ isA P i (lastD D z) = true := fun z hz => ⟨List.mem_range.mp (List.mem_filter.mp hz).1, (List.mem_filter.mp hz).2⟩
        have hJl : ((List.range D.length).filter (fun j => isA P i (lastD D j))).length ≤ D.length := by
          have := List.length_filter_le (fun j => isA P i (lastD D j)) (List.range D.length)
          rw [List.length_range] at this
          exact this
        generalize hJJ : (List.range D.length).filter (fun j => isA P i (lastD D j)) = J at *
        have nEt := m1.neN nE
        tm_at "w"
        refine iteD (fun z => ?_) (fun z => ?_)
        · rw [List.length_map] at z
          tm_at "w"
          refine ⟨τ, _, rfl, m1.now.same s2, by decide, by decide, fun r3 H3 m3 a0 a1 => ?_⟩
          have m23 : Mv τ H1 H3 := (m1.now.mv.same s2).trans m3
          have hE3 := m3.keep _ _ nEt hE
          tm_at "w"
          refine iteD (fun z2 => ?_) (fun z2 => ?_)
          · tm_at "w"
            refine ⟨τ, _, rfl, m3.now, by rw [List.length_map]; omega, by rw [List.length_map]; omega, fun r4 H4 m4 b0 b1 => ?_⟩
            rw [List.length_map] at b1
            obtain ⟨r, rfl⟩ : ∃ n : Nat, r4 = n := ⟨r4.toNat, by omega⟩
            have rJ : r < J.length := by omega
            obtain ⟨jl, ji⟩ := hJ _ (List.getElem_mem rJ)
            have m14 : Mv τ H1 H4 := m23.trans m4
            have dl4 := dl.mv m1 m14
            have hE4 := m4.keep _ _ nEt hE3
            have hR4 := m14.keep _ _ (m1.neF f.newL) hD1
            have qj := List.getElem?_eq_getElem jl
            have hF4 := m14.keep _ _ (m1.neF (f.newF _ jl)) (f.rows _ _ qj)
            tm_at "w"
            refine ⟨_, _, _, _, rfl, rfl, SqL.of hE4, at_of (j := r) rfl (by rw [List.getElem?_map, List.getElem?_eq_getElem rJ]; rfl), ?_⟩
            tm_at "w"
            refine ⟨_, _, _, rfl, rfl, hF4, lt_line (by rw [natsV_len]; have := de.long (List.getElem_mem jl); omega), ?_⟩
            obtain ⟨n0, dl5⟩ := dl4.push (q' := D[J[r]] ++ [i]) qj hR4 (refsV_at jl)
            have ji2 : isA P i ((D[J[r]]).getLastD 0) = true := by
              have e : lastD D J[r] = (D[J[r]]).getLastD 0 := by
                unfold lastD
                rw [getD_some qj]
              rw [← e]
              exact ji
            refine ⟨_, _, _, rfl, (m1.trans m14).mut n0, _, ?_, de.push hR qj ji2⟩
            rw [← natsV_snoc] at dl5
            exact dl5
          · have hR3 := m23.keep _ _ (m1.neF f.newL) hD1
            tm_at "w"
            intro e ne
            obtain ⟨f1, f2, f3, f4⟩ := fin H3 (m1.trans m23) (dl.mv m1 m23) hR3 e ne
            tm_at "w"
            refine ⟨_, _, _, rfl, rfl, f4, lt_line (by rw [refsV_len]; omega), ?_⟩
            exact ⟨_, _, _, rfl, f3, _, f1, f2⟩
        · have hR3 := s2 _ _ hD1
          refine iteF ?_
          tm_at "w"
          intro e ne
          obtain ⟨f1, f2, f3, f4⟩ := fin H2 (m1.same s2) (dl.same s2) hR3 e ne
          tm_at "w"
          refine ⟨_, _, _, rfl, rfl, f4, lt_line (by rw [refsV_len]; omega), ?_⟩
          exact ⟨_, _, _, rfl, f3, _, f1, f2⟩
    · rintro σ H1 ⟨x0, y0, z0, rfl, m1, D, dl, de⟩
      tm_at "w"
      exact k R D _ m1 dl (by rw [show P.length = (svs.length : Int).toNat by omega]; exact de)
/-! _law_right_scheme -/
theorem for_enumL {K : PySem.W.Frag} {a : Addr} {xs : List V} {g : TG} {tb : TS} {D : Ends} {σ : L2.St} {H : Hp} (Pv : Nat → L2.St → Hp → Prop) (h0 : Pv 0 σ H) (hq : ∀ i σ H, Pv i σ H → SqL K H a xs)
    (hs : ∀ (i : Nat) (x : V) (t : Addr) (σ : L2.St) (H : Hp), xs[i]? = some x → Pv i σ H → H t = none → g (.ref t) σ (upd H t (.tup [.int (i : Nat), x])) fun σ2 H2 => tb { D with nx := Pv (i + 1), ct := Pv (i + 1), bk := D.nx } σ2 H2)
    (hd : ∀ σ H, Pv xs.length σ H → D.nx σ H) : ∃ W : Nat → Nat → L2.St → Hp → Prop, (∃ m, W 0 m σ H) ∧ ∀ i m σ H, W i m σ H →
      ((Ite K a).stop i H ∧ D.nx σ H) ∨ ((Ite K a).go i H ∧ ∃ N : L2.St → Hp → Prop, (∀ σ' H', N σ' H' → ∃ m', m' < m ∧ W (i + 1) m' σ' H') ∧ ∀ v H', (Ite K a).yld i H v H' → g v σ H' fun σ2 H2 => tb { D with nx := N, ct := N, bk := D.nx } σ2 H2) := by
  refine ⟨fun i m σ H => m = xs.length - i ∧ i ≤ xs.length ∧ Pv i σ H, ⟨_, rfl, Nat.zero_le _, h0⟩, ?_⟩
  rintro i m σ H ⟨rfl, hi, p⟩
  have q := hq i σ H p
  by_cases lt : i < xs.length
  · refine .inr ⟨⟨xs, _, q, List.getElem?_eq_getElem lt⟩, Pv (i + 1), fun σ' H' p2 => ⟨_, by omega, rfl, lt, p2⟩, fun v H' y => ?_⟩
    obtain ⟨t, x, rfl, nt, rfl, f⟩ := y
    exact hs i x t σ H (f xs q) p nt
  · have e : i = xs.length := by omega
    subst e
    exact .inl ⟨⟨xs, q, Nat.le_refl _⟩, hd σ H p⟩
theorem lc_enumLF {K : PySem.W.Frag} {a : Addr} {xs : List V} {g : TG} {tt : TT} {te : TE} {vs : List Nat} {σ : St} {H1 : Hp} {D : Addr} {Qd : Hp → Prop} (f : Nat → Option V) (hx : H1 a = some (.lst xs)) (nD : H1 D = none) (hn : xs.length ≤ 100000)
    (hs : ∀ (i : Nat) (x : V) (Z : Addr) (H : Hp) (N : V → Hp → Prop) (M : Hp → Prop), xs[i]? = some x → Same H1 H → H Z = some (.tup [.int (i : Nat), x]) → (∀ v H4, f i = some v → Same H H4 → N v H4) → (∀ H4, f i = none → Same H H4 → M H4) → g (.ref Z) (wipe σ vs) H fun σ2 H2 => wipe σ2 vs = wipe σ vs ∧ tt σ2 H2 fun b H3 => if b = true then te σ2 H3 N else M H3)
    (hd : ∀ H, Same H1 H → H D = some (.lst ((List.range xs.length).filterMap f)) → Qd H) : ∃ W : Nat → Nat → Hp → Prop, (∃ m, W 0 m (upd H1 D (.lst []))) ∧ ∀ i m H, W i m H →
      ((Ite K a).stop i H ∧ Qd H) ∨ ((Ite K a).go i H ∧ ∃ Nx : Hp → Prop, (∀ H', Nx H' → ∃ m', m' < m ∧ W (i + 1) m' H') ∧ ∀ x H', (Ite K a).yld i H x H' → g x (wipe σ vs) H' fun σ2 H2 => wipe σ2 vs = wipe σ vs ∧ tt σ2 H2 fun b H3 =>
        if b = true then te σ2 H3 fun y H4 => ∃ acc, H4 D = some (.lst acc) ∧ acc.length < sizeLine ∧ Nx (upd H4 D (.lst (acc ++ [y]))) else Nx H3) := by
  refine ⟨fun i m H => m = xs.length - i ∧ i ≤ xs.length ∧ Same H1 H ∧ H D = some (.lst ((List.range i).filterMap f)), ⟨xs.length, rfl, Nat.zero_le _, Same.new (Same.refl H1) nD, upd_same⟩, ?_⟩
  rintro i m H ⟨rfl, hi, s, hD⟩
  have qx : SqL K H a xs := SqL.of (s _ _ hx)
  have hz := filterMap_range_len f i
  by_cases hlt : i < xs.length
  · have ex : xs[i]? = some xs[i] := List.getElem?_eq_getElem hlt
    refine .inr ⟨⟨xs, _, qx, ex⟩, fun H => i < xs.length ∧ Same H1 H ∧ H D = some (.lst ((List.range (i + 1)).filterMap f)), fun H' p' => ⟨xs.length - (i + 1), by omega, rfl, hlt, p'.2⟩, fun v H' y => ?_⟩
    obtain ⟨Z, x', rfl, hZ, rfl, f1⟩ := y
    have s1 : Same H (upd H Z (.tup [.int (i : Nat), x'])) := Same.new (Same.refl H) hZ
    refine hs i x' Z _ _ _ (f1 xs qx) (s.trans s1) upd_same (fun v H4 e s4 => ⟨_, s4 _ _ (s1 _ _ hD), lt_line (by omega), hlt, ?_, ?_⟩) (fun H4 e s4 => ⟨hlt, ?_, ?_⟩)
    · exact Same.mut ((s.trans s1).trans s4) nD
    · rw [filterMap_range_succ, e]
      exact upd_same
    · exact (s.trans s1).trans s4
    · rw [filterMap_range_succ, e, s4 _ _ (s1 _ _ hD)]
      simp
  · have e : i = xs.length := by omega
    subst e
    exact .inl ⟨⟨xs, qx, Nat.le_refl _⟩, hd H s hD⟩
theorem cat_any {K : PySem.W.Frag} {H : Hp} {a b : Addr} {xs ys : List V} {Q : VK} (hx : H a = some (.tup xs)) (hy : H b = some (.tup ys)) (hl : xs.length + ys.length ≤ sizeLine)
    (k : ∀ p H', Same H H' → H' p = some (.tup (xs ++ ys)) → Q (.ref p) H') : rCatA K (.ref a) (.ref b) H Q := by
  refine ⟨a, b, xs, ys, rfl, rfl, SqT.of hx, SqT.of hy, hl, fun e => ?_, fun _ e => ?_, fun _ _ p np => ?_⟩
  · exact k b H (Same.refl H) (by rw [hy, e]; rfl)
  · exact k a H (Same.refl H) (by rw [hx, e, List.append_nil])
  · exact k p _ (Same.new (Same.refl H) np) upd_same
theorem TK.mutD {H : Hp} {p : Addr} {o : HO} {kvs : List (Key × V)} (h : H p = some (.dK kvs)) : TK H (upd H p o) := fun a xs e => upd_at (ne_of e h (by intro z; cases z)) e
/-- rows that a reader goes on to see -/
structure RowsT (τ : Tp) (H : Hp) (l : Addr) (D : List (List Nat)) (F : Nat → Addr) : Prop where
  here : RowsL H l D F
  nl : l ≠ τ.t
  nF : ∀ (j : Nat), j < D.length → F j ≠ τ.t
theorem DL.atT {τ : Tp} {H0 H : Hp} {l : Addr} {D : List (List Nat)} (g : DL H0 H l D) (m : Mv τ H0 H) : ∃ F, RowsT τ H l D F := by
  obtain ⟨F, f⟩ := g
  exact ⟨F, ⟨f.list, f.rows⟩, m.neF f.newL, fun j hj => m.neF (f.newF j hj)⟩
theorem RowsT.mv {τ : Tp} {H H' : Hp} {l : Addr} {D : List (List Nat)} {F : Nat → Addr} (g : RowsT τ H l D F) (m : Mv τ H H') : RowsT τ H' l D F :=
  ⟨⟨m.keep _ _ g.nl g.here.list, fun j q e => m.keep _ _ (g.nF j (List.getElem?_eq_some_iff.mp e).1) (g.here.row j q e)⟩, g.nl, g.nF⟩
theorem RowsT.same {τ : Tp} {H H' : Hp} {l : Addr} {D : List (List Nat)} {F : Nat → Addr} (g : RowsT τ H l D F) (s : Same H H') : RowsT τ H' l D F := ⟨g.here.same s, g.nl, g.nF⟩
/-- a dict of places -/
def PlOk (H : Hp) (kvs : List (Key × V)) (D : List (List Nat)) (wide low step : Int) (dom : Nat → Prop) : Prop := ∀ k, dom k → ∃ (t : Addr) (s b : Nat) (q : List Nat), valV kvs (.inl (k : Int)) = some (.ref t) ∧ H t = some (.tup [.int ((s : Int) * wide), .int (low + step * (b : Int))]) ∧ D[s]? = some q ∧ q[b]? = some k
theorem PlOk.tk {H H' : Hp} {kvs : List (Key × V)} {D : List (List Nat)} {wide low step : Int} {dom : Nat → Prop} (h : PlOk H kvs D wide low step dom) (k : TK H H') : PlOk H' kvs D wide low step dom := fun x hx => by
  obtain ⟨t, s, b, q, e1, e2, e3⟩ := h x hx
  exact ⟨t, s, b, q, e1, k _ _ e2, e3⟩
theorem PlOk.mono {H : Hp} {kvs : List (Key × V)} {D : List (List Nat)} {wide low step : Int} {dom dom' : Nat → Prop} (h : PlOk H kvs D wide low step dom) (i : ∀ k, dom' k → dom k) : PlOk H kvs D wide low step dom' := fun x hx => h x (i x hx)
theorem PlOk.put {H : Hp} {kvs : List (Key × V)} {D : List (List Nat)} {wide low step : Int} {dom : Nat → Prop} (h : PlOk H kvs D wide low step dom) {t : Addr} {s b k : Nat} {q : List Nat} (ht : H t = some (.tup [.int ((s : Int) * wide), .int (low + step * (b : Int))])) (h1 : D[s]? = some q) (h2 : q[b]? = some k) :
    PlOk H (putK kvs (.inl (k : Int)) (.ref t)) D wide low step (fun x => dom x ∨ x = k) := fun x hx => by
  by_cases e : x = k
  · subst e
    exact ⟨t, s, b, q, by rw [valV_put, if_pos rfl], ht, h1, h2⟩
  · rcases hx with hx | hx
    · obtain ⟨t', s', b', q', e1, e2⟩ := h x hx
      refine ⟨t', s', b', q', ?_, e2⟩
      rw [valV_put, if_neg (fun z => e (by injection z with z; omega))]
      exact e1
    · exact absurd hx e
theorem ints_all {c : Int} : ∀ {acc : List V}, (∀ v ∈ acc, ∃ z : Int, v = .int z ∧ z < c) → ∃ es : List Int, es.length = acc.length ∧ (∀ z ∈ es, z < c) ∧ acc = es.map V.int
  | [], _ => ⟨[], rfl, (fun x hx => by cases hx), rfl⟩
  | v :: r, h => by
    obtain ⟨es, h1, h2, h3⟩ := ints_all fun u hu => h u (List.mem_cons_of_mem _ hu)
    obtain ⟨z, e, z0⟩ := h v List.mem_cons_self
    refine ⟨z :: es, by rw [List.length_cons, List.length_cons, h1], fun x hx => ?_, ?_⟩
    · rcases List.mem_cons.mp hx with e | e
      · rw [e]; exact z0
      · exact h2 x e
    · rw [e, h3]
      rfl
/-- the triples that stand in a list -/
theorem sch_pick {H : Hp} {R : Nat → Tr → Prop} {acc : List V} (h : ∀ (j : Nat) v, acc[j]? = some v → ∃ e, R j e ∧ Trip H v e) : ∃ S : List Tr, ScL H acc S ∧ ∀ (j : Nat) e, S[j]? = some e → R j e := by
  obtain ⟨f, hf⟩ := Classical.axiomOfChoice (r := fun (j : Nat) (e : Tr) => j < acc.length → ∃ v, acc[j]? = some v ∧ R j e ∧ Trip H v e) (fun j => by
    by_cases hj : j < acc.length
    · obtain ⟨e, h1, h2⟩ := h j _ (List.getElem?_eq_getElem hj)
      exact ⟨e, fun _ => ⟨_, List.getElem?_eq_getElem hj, h1, h2⟩⟩
    · exact ⟨(0, 0, []), fun z => absurd z hj⟩)
  have at' : ∀ (j : Nat) e, ((List.range acc.length).map f)[j]? = some e → j < acc.length ∧ e = f j := fun j e he => by
    have hj := (List.getElem?_eq_some_iff.mp he).1
    rw [List.length_map, List.length_range] at hj
    rw [List.getElem?_map, List.getElem?_range hj] at he
    exact ⟨hj, (Option.some.inj he).symm⟩
  refine ⟨(List.range acc.length).map f, ⟨by rw [List.length_map, List.length_range], fun j e he => ?_⟩, fun j e he => ?_⟩
  · obtain ⟨hj, rfl⟩ := at' j e he
    obtain ⟨v, h1, h2, h3⟩ := hf j hj
    exact ⟨v, h1, h3⟩
  · obtain ⟨hj, rfl⟩ := at' j e he
    obtain ⟨v, h1, h2, h3⟩ := hf j hj
    exact h2
def sp__law_right_scheme (K : PySem.W.Frag) : Sp := fun vs H Q _ => ∃ (τ : Tp) (l : Addr) (P : List (List Nat)), vs = [.ref τ.t, .ref l] ∧ Tape τ H ∧ ShAt H l P ∧ l ≠ τ.t ∧ RtP P ∧ P.length ≤ 63 ∧
  ∀ t S H', Mv τ H H' → SchAt H' t S → SchOk P S → (∀ e ∈ S, e.2.2.length ≤ 900) → Q (.ref t) H'
theorem sc__law_right_scheme : FnScope ["_law_hand_here", "_law_sheet_here", "_law_rows", "_law_step", "_law_low", "_law_wide", "_law_place", "_law_found", "_law_kind", "_law_slot", "_law_row", "_law_entries", "_law_at", "_law_own", "_law_other"] ["_law_hand_here", "_law_sheet_here"] (defScope s__law_right_scheme) := ⟨rfl, rfl, rfl, by decide +kernel, rfl, by decide +kernel, by decide +kernel⟩
theorem ok__law_right_scheme (T : Top P K mg) : FnOk P w K mg base CX0 3 T.f__law_right_scheme T.fd__law_right_scheme ["_law_hand_here", "_law_sheet_here"] (sp__law_right_scheme K) := by
  have G__law_dealt := ok__law_dealt (P := P) (w := w) (base := base) T
  have G__law_draw := ok__law_draw (P := P) (w := w) (base := base) T
  refine T.F__law_right_scheme.ok sc__law_right_scheme (fun vs H Q E h => ?_) (fun cdv A outer s H vs Q E hr h => ?_)
  · obtain ⟨τ, l, P, rfl, _⟩ := h
    rfl
  · obtain ⟨τ, l, P, rfl, m0, hsh, nl, hR, h63, k⟩ := h
    refine ⟨_, (pss_cons (ps_set (i := 2) sc__law_right_scheme.nd rfl (Or.inl rfl) (pe_call G__law_dealt hr (by rfl) T.g__law_dealt T.F__law_dealt.kp T.b__law_dealt .nil pass0 (pa_cons (pv 0) (pa_cons (pv 1) pa_nil))))
      (pss_cons (ps_set (i := 3) sc__law_right_scheme.nd rfl (Or.inl rfl) (pe_op op_add pe_int (pe_call G__law_draw (hr.mono (by decide)) (by rfl) T.g__law_draw T.F__law_draw.kp T.b__law_draw .nil pass0 (pa_cons (pv 0) (pa_cons pe_int pa_nil)))))
      (pss_cons (ps_set (i := 4) sc__law_right_scheme.nd rfl (Or.inr rfl) (pe_op op_sub (pe_call G__law_draw (hr.mono (by decide)) (by rfl) T.g__law_draw T.F__law_draw.kp T.b__law_draw .nil pass0 (pa_cons (pv 0) (pa_cons pe_int pa_nil))) pe_int))
      (pss_cons (ps_set (i := 5) sc__law_right_scheme.nd rfl (Or.inl rfl) (pe_op op_add pe_int (pe_call G__law_draw (hr.mono (by decide)) (by rfl) T.g__law_draw T.F__law_draw.kp T.b__law_draw .nil pass0 (pa_cons (pv 0) (pa_cons pe_int pa_nil)))))
      (pss_cons (ps_set (i := 6) sc__law_right_scheme.nd rfl (Or.inl rfl) pe_dnewK)
      (pss_cons (ps_for PassesOwn.never rfl (pi_enum (by rfl) T.z_enumerate (pa_cons (pv 2) pa_nil)) (pg_tup rfl (pgs_cons (pg_name (i := 9) sc__law_right_scheme.nd rfl (Or.inl rfl)) (pgs_cons (pg_name (i := 10) sc__law_right_scheme.nd rfl (Or.inl rfl)) pgs_nil)))
      (pss_one (ps_for PassesOwn.never rfl (pi_enum (by rfl) T.z_enumerate (pa_cons (pv 10) pa_nil)) (pg_tup rfl (pgs_cons (pg_name (i := 12) sc__law_right_scheme.nd rfl (Or.inl rfl)) (pgs_cons (pg_name (i := 8) sc__law_right_scheme.nd rfl (Or.inr rfl)) pgs_nil)))
      (pss_one (ps_dput (Nat.lt_of_le_of_lt (Nat.add_le_add_left (by decide) _) hr.units) (pv 6) (pv 8) (pe_tup (pa_cons (pe_op op_mul (pv 9) (pv 5)) (pa_cons (pe_op op_add (pv 4) (pe_op op_mul (pv 3) (pv 12))) pa_nil))) rfl)))))
      (pss_cons (ps_set (i := 7) sc__law_right_scheme.nd rfl (Or.inl rfl) (pe_lst pa_nil))
      (pss_cons (ps_for PassesOwn.never rfl (pi_range1 rfl T.z_range (pa_cons (pe_callB (r := rLenQ K) (id := "len") call_len_seq (by rfl) T.z_len (by decide +kernel) (pa_cons (pv 1) pa_nil)) pa_nil)) (pg_name (i := 8) sc__law_right_scheme.nd rfl (Or.inr rfl))
      (pss_cons (ps_setLc (i := 11) (own := [("_law_at", 12)]) (g := gName 12) (tt := tYes) rfl sc__law_right_scheme.nd rfl rfl (sw_true rfl rfl rfl (by decide +kernel)) (pi_range1 rfl T.z_range (pa_cons (pe_op op_mul (pe_callB (r := rLenQ K) (id := "len") call_len_seq (by rfl) T.z_len (by decide +kernel) (pa_cons (pv 2) pa_nil)) (pv 5)) pa_nil)) (blkOk_by (own := [("_law_at", 12)]) (N := ["_law_hand_here", "_law_sheet_here", "_law_rows", "_law_step", "_law_low", "_law_wide", "_law_place", "_law_found", "_law_kind", "_law_slot", "_law_row", "_law_entries", "_law_at", "_law_own", "_law_other"]) (sc := defScope s__law_right_scheme) (by decide +kernel)) (fun _ _ _ _ _ => (pg_name (i := 12) sc__law_right_scheme.nd rfl (Or.inl rfl))) (fun _ _ _ _ _ => pts_nil) (fun _ _ _ _ _ => (pe_op op_sub (pe_op op_sub (pv 4) pe_int) (pe_call G__law_draw (hr.mono (by decide)) (by rfl) T.g__law_draw T.F__law_draw.kp T.b__law_draw .nil pass0 (pa_cons (pv 0) (pa_cons pe_int pa_nil))))))
      (pss_cons (ps_for PassesOwn.never rfl (pi_enum (by rfl) T.z_enumerate (pa_cons (pv 2) pa_nil)) (pg_tup rfl (pgs_cons (pg_name (i := 9) sc__law_right_scheme.nd rfl (Or.inl rfl)) (pgs_cons (pg_name (i := 10) sc__law_right_scheme.nd rfl (Or.inl rfl)) pgs_nil)))
      (pss_cons (ps_setLc (i := 13) (own := [("_law_other", 14)]) (g := gName 14) rfl sc__law_right_scheme.nd rfl rfl (sw_true rfl rfl rfl (by decide +kernel)) (pi_list (pv 10)) (blkOk_by (own := [("_law_other", 14)]) (N := ["_law_hand_here", "_law_sheet_here", "_law_rows", "_law_step", "_law_low", "_law_wide", "_law_place", "_law_found", "_law_kind", "_law_slot", "_law_row", "_law_entries", "_law_at", "_law_own", "_law_other"]) (sc := defScope s__law_right_scheme) (by decide +kernel)) (fun _ _ _ _ _ => (pg_name (i := 14) sc__law_right_scheme.nd rfl (Or.inl rfl))) (fun _ _ _ _ _ => (pts_one (pt_cmpR (r := rIn K false) op_in_seq (pv 14) (pe_ix (r := rIxL K) ix_list (pv 1) (pv 8) (fun _ _ => rfl)) (by rfl)))) (fun _ _ _ _ _ => (pv 14)))
      (pss_one (ps_if (pt_cmpR op_gt (pe_callB (r := rLenQ K) (id := "len") call_len_seq (by rfl) T.z_len (by decide +kernel) (pa_cons (pv 13) pa_nil)) pe_int (nomark _)) (pss_one (ps_asg (pe_op op_add (pe_ix (r := rIxT K) ix_tup (pe_dget (Nat.lt_of_le_of_lt (Nat.add_le_add_left (by decide) _) hr.units) (pv 6) (pe_ix (r := rIxL K) ix_list (pv 13) (pe_un un_neg pe_int) (fun _ _ => rfl)) (fun _ _ => rfl)) pe_int (fun _ _ => rfl)) (pe_call G__law_draw (hr.mono (by decide)) (by rfl) T.g__law_draw T.F__law_draw.kp T.b__law_draw .nil pass0 (pa_cons (pv 0) (pa_cons (pv 3) pa_nil)))) (pg_sub (pv 11) (pe_op op_mul (pv 9) (pv 5)) set_list))) pss_nil))))
      (pss_one (ps_expr (pe_bm PySem.F.plainAttrs_list PySem.F.slot_list_append PySem.F.type_list_append mt_append (pv 7) (pa_cons (pe_op op_catA (pe_dget (Nat.lt_of_le_of_lt (Nat.add_le_add_left (by decide) _) hr.units) (pv 6) (pv 8) (fun _ _ => rfl)) (pe_tup (pa_cons (pe_callTy (r := rTupQ K) (T := "tuple") call_tuple_of (by rfl) T.z_tuple (by decide +kernel) (pa_cons (pv 11) pa_nil)) pa_nil))) pa_nil)))))))
      (pss_one (ps_ret (pe_callTy (r := rTupQ K) (T := "tuple") call_tuple_of (by rfl) T.z_tuple (by decide +kernel) (pa_cons (pv 7) pa_nil)))))))))))), ?_⟩
    tm_at "w"
    refine ⟨τ, l, P, rfl, m0, hsh, nl, hR, h63, fun R D H1 m1 dl de => ?_⟩
    have dm := de.many
    tm_at "w"
    refine ⟨τ, _, rfl, m1.now, by decide, by decide, fun r2 H2 m2 a0 a1 => ?_⟩
    obtain ⟨step, hstep⟩ : ∃ n : Int, 1 + r2 = n := ⟨_, rfl⟩
    refine ⟨_, _, rfl, rfl, ?_⟩
    show gName 3 (V.int (1 + r2)) _ _ _
    rw [hstep]
    tm_at "w"
    refine ⟨τ, _, rfl, m2.now, by decide, by decide, fun r3 H3 m3 b0 b1 => ?_⟩
    obtain ⟨low, hlow⟩ : ∃ n : Int, r3 - 4 = n := ⟨_, rfl⟩
    refine ⟨_, _, rfl, rfl, ?_⟩
    show gName 4 (V.int (r3 - 4)) _ _ _
    rw [hlow]
    tm_at "w"
    refine ⟨τ, _, rfl, m3.now, by decide, by decide, fun r4 H4 m4 c0 c1 => ?_⟩
    have m14 := m2.trans (m3.trans m4)
    have m04 := m1.trans m14
    obtain ⟨F, rt⟩ := (dl.mv m1 m14).atT m04
    obtain ⟨wide, hwide⟩ : ∃ n : Nat, 1 + r4 = (n : Int) := ⟨(1 + r4).toNat, by omega⟩
    refine ⟨_, _, rfl, rfl, ?_⟩
    show gName 5 (V.int (1 + r4)) _ _ _
    rw [hwide]
    tm_at "w"
    intro pl npl
    have nplt := m4.now.mv.neN npl
    have m5 := m4.now.mv.new (p := pl) (o := .dK []) npl
    have rt5 := rt.mv m5
    have hD5 := rt5.here.list
    tm_at "w"
    refine ⟨_, _, rfl, SqL.of hD5, for_enumL (K := K) (a := R) (xs := refsV D.length F) (fun i σ H' => ∃ u8 u9 u10 u12, σ = [some (.ref τ.t), some (.ref l), some (.ref R), some (.int step), some (.int low), some (.int (wide : Int)), some (.ref pl), none, u8, u9, u10, none, u12, none, none] ∧ Mv τ H4 H' ∧ ∃ kvs, H' pl = some (.dK kvs) ∧ kvs.length ≤ i * 100 ∧ PlOk H' kvs D (wide : Int) low step (fun k => ∃ s q, s < i ∧ D[s]? = some q ∧ k ∈ q)) ?_ ?_ ?_ ?_⟩
    · exact ⟨_, _, _, _, rfl, m5, [], upd_same, Nat.zero_le _, fun k ⟨s, q, h, _⟩ => absurd h (Nat.not_lt_zero s)⟩
    · rintro i σ H' ⟨_, _, _, _, rfl, m, _⟩
      exact SqL.of (rt.mv m).here.list
    · rintro i x t σ H6 hx ⟨u8, u9, u10, u12, rfl, m6, kvs, hpl, hkl, hpo⟩ nt
      obtain ⟨il, rfl⟩ := refsV_here hx
      have qi := List.getElem?_eq_getElem il
      have ql := de.long (List.getElem_mem il)
      have m7 := m6.new (o := .tup [.int (i : Int), .ref (F i)]) nt
      have hF7 := (rt.mv m7).here.row i _ qi
      tm_at "w"
      refine ⟨_, _, rfl, SqL.of hF7, for_enumL (K := K) (a := F i) (xs := natsV D[i]) (fun j σ H' => ∃ u8 u12, σ = [some (.ref τ.t), some (.ref l), some (.ref R), some (.int step), some (.int low), some (.int (wide : Int)), some (.ref pl), none, u8, some (.int (i : Int)), some (.ref (F i)), none, u12, none, none] ∧ Mv τ H4 H' ∧ ∃ kvs, H' pl = some (.dK kvs) ∧ kvs.length ≤ i * 100 + j ∧ PlOk H' kvs D (wide : Int) low step (fun k => (∃ s q, s < i ∧ D[s]? = some q ∧ k ∈ q) ∨ k ∈ (D[i]).take j)) ?_ ?_ ?_ ?_⟩
      · refine ⟨_, _, rfl, m7, kvs, (Same.new (Same.refl _) nt) _ _ hpl, by omega, (hpo.tk (TK.new nt)).mono fun k hk => ?_⟩
        rcases hk with hk | hk
        · exact hk
        · simp at hk
      · rintro j σ H' ⟨_, _, rfl, m, _⟩
        exact SqL.of ((rt.mv m).here.row i _ qi)
      · rintro j v t2 σ H8 hv ⟨u8, u12, rfl, m8, kvs, hpl, hkl, hpo⟩ nt2
        obtain ⟨kd, hkd, rfl, jl⟩ := natsV_here hv
        tm_at "w"
        intro p np
        have hpl9 : ∀ o, upd (upd H8 t2 (.tup [.int (j : Int), .int (kd : Int)])) p o pl = some (.dK kvs) := fun o => (Same.new (Same.new (Same.refl H8) nt2) np) _ _ hpl
        have lk : kvs.length ≤ 100000 := by omega
        tm_at "w"
        refine ⟨pl, _, rfl, .inl ⟨kvs, .inl (kd : Int), hpl9 _, rfl, lt_line lk, rfl⟩, ?_⟩
        have lp := length_putK kvs (.inl (kd : Int) : Key) (.ref p)
        refine ⟨_, _, rfl, ((m8.new nt2).new np).mut npl, _, upd_same, by omega, ((((hpo.tk (TK.new nt2)).tk (TK.new np)).put upd_same qi hkd).tk (TK.mutD (hpl9 _))).mono fun x hx => ?_⟩
        rw [List.take_add_one, hkd] at hx
        rcases hx with hx | hx
        · exact .inl (.inl hx)
        · rcases List.mem_append.mp hx with hx | hx
          · exact .inl (.inr hx)
          · exact .inr (List.mem_singleton.mp hx)
      · rintro σ H8 ⟨u8, u12, rfl, m8, kvs, hpl, hkl, hpo⟩
        rw [natsV_len] at hkl hpo
        refine ⟨_, _, _, _, rfl, m8, kvs, hpl, by omega, hpo.mono fun k hk => ?_⟩
        obtain ⟨s, q, s1, s2, s3⟩ := hk
        by_cases e : s = i
        · subst e
          rw [qi] at s2
          exact .inr (by rw [List.take_length, Option.some.inj s2]; exact s3)
        · exact .inl ⟨s, q, by omega, s2, s3⟩
    · rintro σ H6 ⟨u8, u9, u10, u12, rfl, m6, kvs, hpl, hkl, hpo⟩
      rw [refsV_len] at hkl hpo
      obtain ⟨svs, hsv, hsl, _⟩ := id ((hsh.mv m04 nl).mv m6 nl)
      have hpo : PlOk H6 kvs D (wide : Int) low step (fun k => k < P.length) := hpo.mono fun k hk => by
        obtain ⟨s, b, q, h1, h2⟩ := de.place hk
        exact ⟨s, q, (List.getElem?_eq_some_iff.mp h1).1, h1, List.mem_of_getElem? h2⟩
      tm_at "w"
      intro fd nfd
      have nfdt := m6.neN nfd
      have nfd4 := m6.free nfd
      have nfd' := nfd
      have rt6 := rt.mv m6
      have hsv7 := (Same.new (o := .lst []) (Same.refl H6) nfd) _ _ hsv
      tm_at "w"
      refine for_range (lo := 0) (n := (svs.length : Int).toNat) (fun i σ H' => ∃ u8 u9 u10 u11 u13, σ = [some (.ref τ.t), some (.ref l), some (.ref R), some (.int step), some (.int low), some (.int (wide : Int)), some (.ref pl), some (.ref fd), u8, u9, u10, u11, u12, u13, none] ∧ Mv τ H6 H' ∧ ∃ acc, H' fd = some (.lst acc) ∧ acc.length = i ∧ ∀ (j : Nat) v, acc[j]? = some v → ∃ e, ByDeal P D wide low step j e ∧ Trip H' v e) ?_ ?_ ?_
      · exact ⟨_, _, _, _, _, rfl, m6.now.mv.new nfd, [], upd_same, rfl, fun j v e => by simp at e⟩
      · rintro i σ H8 hi ⟨u8, u9, u10, u11, u13, rfl, m8, acc, hfd, hal, hacc⟩
        rw [Int.zero_add]
        have il : i < P.length := by omega
        have rt8 := rt6.mv m8
        have hD8 := rt8.here.list
        have dw : D.length * wide ≤ 63 * 2 := Nat.mul_le_mul (by omega) (by omega)
        have ew : ((refsV D.length F).length : Int) * (wide : Int) = ((D.length * wide : Nat) : Int) := by rw [refsV_len]; exact (Int.natCast_mul _ _).symm
        tm_at "w"
        rw [ew]
        intro E nE
        refine lc_rangeM (τ := τ) (fun _ v _ => ∃ z : Int, v = .int z ∧ z < low) (fun _ _ _ _ h _ => h) m8.now nE (by omega) ?_ ?_
        · intro j H9 N M hj m9 kN
          tm_at "w"
          refine ⟨τ, _, rfl, m9.now, by decide, by decide, fun r10 H10 m10 d0 d1 => ?_⟩
          tm_at "w"
          exact kN _ _ m10 ⟨_, rfl, by omega⟩
        · intro H9 acc9 m9 hE hlen hI
          rw [Int.toNat_natCast] at hlen
          obtain ⟨es, esl, esn, rfl⟩ := ints_all (c := low) (acc := acc9) fun v hv => by
            obtain ⟨j, hj, e⟩ := List.mem_iff_getElem.mp hv
            exact hI j v (by rw [List.getElem?_eq_getElem hj, e])
          rw [List.length_map] at hlen
          have nEt := m8.neN nE
          have m69 : Mv τ H6 H9 := m8.trans m9
          have rt9 := rt6.mv m69
          have hD9 := rt9.here.list
          have hpl8 := m8.keep _ _ nplt hpl
          have hpo8 := hpo.tk m8.tk
          have hsh8 := ((hsh.mv m04 nl).mv m6 nl).mv m8 nl
          tm_at "w"
          refine ⟨_, _, rfl, SqL.of hD9, for_enumL (K := K) (a := R) (xs := refsV D.length F) (fun s σ H' => ∃ u9 u10 u13, σ = [some (.ref τ.t), some (.ref l), some (.ref R), some (.int step), some (.int low), some (.int (wide : Int)), some (.ref pl), some (.ref fd), some (.int (i : Int)), u9, u10, some (.ref E), u12, u13, none] ∧ Mv τ H8 H' ∧ ∃ es : List Int, H' E = some (.lst (es.map V.int)) ∧ es.length = D.length * wide ∧ (∀ (s' : Nat) q, s' < s → D[s']? = some q → ∃ z, es[s' * wide]? = some z ∧ EntOk P i q low step z) ∧ ∀ s', s ≤ s' → s' < D.length → ∃ z, es[s' * wide]? = some z ∧ z < low) ?_ ?_ ?_ ?_⟩
          · refine ⟨_, _, _, rfl, m9, es, hE, hlen, fun s' q h => absurd h (Nat.not_lt_zero _), fun s' _ h => ?_⟩
            have lt : s' * wide < es.length := by
              rw [hlen]
              exact Nat.mul_lt_mul_of_pos_right h (by omega)
            exact ⟨_, List.getElem?_eq_getElem lt, esn _ (List.getElem_mem lt)⟩
          · rintro s σ H' ⟨_, _, _, rfl, m, _⟩
            exact SqL.of (rt8.mv m).here.list
          · rintro s x t σ H10 hx ⟨u9, u10, u13, rfl, m10, es, hE, hlen, hes1, hes2⟩ nt
            obtain ⟨sl, rfl⟩ := refsV_here hx
            have qs := List.getElem?_eq_getElem sl
            have ql := de.long (List.getElem_mem sl)
            have m11 := m10.new (o := .tup [.int (s : Int), .ref (F s)]) nt
            have hF11 := (rt8.mv m11).here.row s _ qs
            obtain ⟨ws, bq, g1, g2, g3, g4⟩ := (hsh8.mv m11 nl).at il
            tm_at "w"
            refine ⟨⟨_, SqL.of hF11⟩, fun O nO => lc_listF (fun j => (D[s])[j]?.bind fun k => if isA P i k = true then some (V.int (k : Int)) else none) hF11 nO (by rw [natsV_len]; omega) ?_ ?_⟩
            · intro j y H12 N M hy s12 kN kM
              obtain ⟨kd, hkd, rfl, jl⟩ := natsV_here hy
              have g12 := s12 _ _ g1
              have g42 := s12 _ _ g4
              tm_at "w"
              refine ⟨flat_nats _, ?_⟩
              show ∃ k, V.bl (inV (.int (kd : Int)) (natsV (lotB P i))) = V.bl k ∧ _
              rw [inV_nats, show decide (kd ∈ lotB P i) = isA P i kd by rw [Bool.eq_iff_iff, decide_eq_true_eq]; exact mem_lotB hR]
              refine ⟨_, rfl, ?_⟩
              refine iteB (fun e => ?_) (fun e => ?_)
              · tm_at "w"
                exact kN _ _ (by rw [hkd]; show (if isA P i kd = true then _ else _) = _; rw [if_pos e]) (Same.refl H12)
              · exact kM _ (by rw [hkd]; show (if isA P i kd = true then _ else _) = _; rw [e, if_neg (by decide)]) (Same.refl H12)
            · intro H12 s12 hO
              rw [filter_list] at hO
              have hO : H12 O = some (.lst (natsV (ownB P i D[s]))) := hO
              have m12 := m11.same s12
              have hE12 := s12 _ _ ((Same.new (o := .tup [.int (s : Int), .ref (F s)]) (Same.refl H10) nt) _ _ hE)
              tm_at "w"
              rw [natsV_len]
              refine iteD (fun z => ?_) (fun z => ?_)
              · have own0 : ownB P i D[s] ≠ [] := fun e => by rw [e] at z; exact absurd z (by decide)
                have lm : (ownB P i D[s]).getLastD 0 ∈ ownB P i D[s] := by
                  rw [List.getLastD_eq_getLast?, List.getLast?_eq_getLast own0]
                  exact List.getLast_mem own0
                obtain ⟨b0, hb0⟩ := List.mem_iff_getElem?.mp (List.mem_filter.mp lm).1
                have llt := de.lt (List.getElem_mem sl) (List.mem_filter.mp lm).1
                obtain ⟨t0, s0, b1, q1, e1, e2, e3, e4⟩ := hpo8 _ llt
                obtain ⟨z1, z2, z3⟩ := de.one qs hb0 e3 e4
                subst z1 z2 z3
                have hpl12 := m12.keep _ _ nplt hpl8
                have e212 := m12.tk _ _ e2
                tm_at "w"
                refine ⟨_, _, _, _, rfl, rfl, SqL.of hO, at_neg1 own0, ?_⟩
                refine ⟨pl, _, rfl, .inl ⟨kvs, .inl _, .inl hpl12, rfl, e1.symm⟩, ?_⟩
                tm_at "w"
                refine ⟨τ, _, rfl, m12.now, by omega, by omega, fun r13 H13 m13 d0 d1 => ?_⟩
                have hE13 := m13.keep _ _ nEt hE12
                have lt : s * wide < es.length := by
                  rw [hlen]
                  exact Nat.mul_lt_mul_of_pos_right sl (by omega)
                tm_at "w"
                refine ⟨_, _, _, s * wide, rfl, rfl, hE13, by rw [← Int.natCast_mul]; exact ixn_nat (by rw [List.length_map]; exact lt), ?_⟩
                refine ⟨_, _, _, rfl, (m12.trans m13).mut nE, es.set (s * wide) (low + step * (b0 : Int) + r13), by rw [upd_same, List.map_set], by rw [List.length_set]; exact hlen, fun s' q h hq => ?_, fun s' h1 h2 => ?_⟩
                · by_cases e : s' = s
                  · subst e
                    rw [qs] at hq
                    refine ⟨_, by rw [List.getElem?_set, if_pos rfl, if_pos lt], .inr ⟨b0, ?_, ?_, by omega, ?_⟩⟩
                    · rw [← Option.some.inj hq]
                      exact hb0
                    · rw [← Option.some.inj hq]
                      exact own0
                    · rw [Int.mul_add]
                      omega
                  · obtain ⟨z, hz, he⟩ := hes1 s' q (by omega) hq
                    refine ⟨z, ?_, he⟩
                    rw [List.getElem?_set, if_neg (fun w => e (Nat.eq_of_mul_eq_mul_right (by omega) w).symm)]
                    exact hz
                · obtain ⟨z, hz, he⟩ := hes2 s' (by omega) h2
                  refine ⟨z, ?_, he⟩
                  rw [List.getElem?_set, if_neg (fun w => by have := Nat.eq_of_mul_eq_mul_right (by omega) w; omega)]
                  exact hz
              · have own0 : ownB P i D[s] = [] := List.length_eq_zero_iff.mp (by omega)
                refine ⟨_, _, _, rfl, m12, es, hE12, hlen, fun s' q h hq => ?_, fun s' h1 h2 => hes2 s' (by omega) h2⟩
                by_cases e : s' = s
                · subst e
                  rw [qs] at hq
                  obtain ⟨z, hz, zl⟩ := hes2 s' (Nat.le_refl _) sl
                  exact ⟨z, hz, .inl ⟨by rw [← Option.some.inj hq]; exact own0, zl⟩⟩
                · exact hes1 s' q (by omega) hq
          · rintro σ H10 ⟨u9, u10, u13, rfl, m10, es, hE, hlen, hes1, hes2⟩
            rw [refsV_len] at hes1
            have hfd10 := m10.keep _ _ nfdt hfd
            have hpl10 := m10.keep _ _ nplt hpl8
            obtain ⟨t0, s0, b1, q1, e1, e2, e3, e4⟩ := hpo8 i il
            have e210 := m10.tk _ _ e2
            tm_at "w"
            refine ⟨pl, _, rfl, .inl ⟨kvs, .inl _, .inl hpl10, rfl, e1.symm⟩, ?_⟩
            tm_at "w"
            intro te nte
            have s11 : Same H10 (upd H10 te (.tup (es.map V.int))) := Same.new (Same.refl H10) nte
            tm_at "w"
            intro p1 np1
            have s12 : Same H10 (upd (upd H10 te (.tup (es.map V.int))) p1 (.tup [.ref te])) := Same.new s11 np1
            refine cat_any (s12 _ _ e210) upd_same (by show 2 + 1 ≤ sizeLine; decide) fun p3 H14 s14 hp3 => ?_
            have s104 := Same.trans s12 s14
            have hfd14 := s104 _ _ hfd10
            tm_at "w"
            have hte14 : H14 te = some (.tup (es.map V.int)) := s14 _ _ ((Same.new (o := .tup [V.ref te]) (Same.refl _) np1) _ _ upd_same)
            have m614 : Mv τ H6 H14 := (m8.trans m10).same s104
            have tk : TK H14 (upd H14 fd (.lst (acc ++ [.ref p3]))) := TK.mut hfd14
            have tk8 : TK H8 (upd H14 fd (.lst (acc ++ [.ref p3]))) := TK.trans m10.tk (TK.trans (Same.tk s104) tk)
            refine ⟨_, _, _, _, _, rfl, m614.mut nfd', acc ++ [.ref p3], upd_same, len_app hal, snoc_at hal (fun j v e => ?_) ⟨(((s0 * wide : Nat) : Int), low + step * (b1 : Int), es), ⟨⟨s0, b1, q1, e3, e4, rfl, rfl⟩, hlen, fun s' q hq => hes1 s' q (List.getElem?_eq_some_iff.mp hq).1 hq⟩, ⟨p3, te, rfl, ?_, tk _ _ hte14⟩⟩⟩
            · obtain ⟨e', h1, h2⟩ := hacc j v e
              exact ⟨e', h1, h2.tk tk8⟩
            · rw [Int.natCast_mul]
              exact tk _ _ hp3
      · rintro σ H8 ⟨u8, u9, u10, u11, u13, rfl, m8, acc, hfd, hal, hacc⟩
        obtain ⟨S, hS, hb⟩ := sch_pick hacc
        have hSl := hS.len
        tm_at "w"
        intro t nt
        refine k t S _ ((m04.trans (m6.trans m8)).new nt) ((hS.tk (TK.new nt)).sch upd_same) (deal_ok hR de (by omega) (by omega) (by omega) (by omega) (by omega) hb) fun e he => ?_
        obtain ⟨x, hx⟩ := List.mem_iff_getElem?.mp he
        have dm2 : D.length * wide ≤ 63 * 2 := Nat.mul_le_mul (by omega) (by omega)
        rw [(hb x e hx).len]
        omega
/-! _law_bent -/
theorem slice_th {K : PySem.W.Frag} {H : Hp} {a : Addr} {xs : List V} {lo hi : Option Int} {Q : VK} (hx : H a = some (.tup xs))
    (k : ∀ p ys H', Same H H' → H' p = some (.tup ys) → (∀ y ∈ ys, y ∈ xs) → ys.length ≤ xs.length → Q (.ref p) H') : rSlA K (.ref a) lo hi H Q := by
  refine ⟨a, xs, rfl, SqT.of hx, fun _ => k a xs H (Same.refl H) hx (fun y h => h) (Nat.le_refl _), fun _ p np => ?_⟩
  refine k p (cutV xs lo hi) _ (Same.new (Same.refl H) np) upd_same (fun y hy => ?_) ?_
  · unfold cutV at hy
    exact List.mem_of_mem_drop (List.mem_of_mem_take hy)
  · unfold cutV
    rw [List.length_take, List.length_drop]
    omega
theorem th_row {C z : Addr} {H : Hp} {q : Addr} {r : List Int} (h : H q = some (.tup (r.map V.int))) (ne : q ≠ z) (l : r.length ≤ 1000) : ∀ n, Th C z H n (.ref q) := by
  intro n
  cases n with
  | zero => exact .tup0 q _ ne h
  | succ n =>
    refine .tup n q _ ne h (by rw [List.length_map]; exact l) fun x hx => ?_
    obtain ⟨i, _, rfl⟩ := List.mem_map.mp hx
    exact .int n i
theorem Trip.th {C z : Addr} {H : Hp} {v : V} {e : Tr} (h : Trip H v e) (l : e.2.2.length ≤ 1000) (ne : ∀ b ys, H b = some (.tup ys) → b ≠ z) : Th C z H 2 v := by
  obtain ⟨p, q, rfl, hp, hq⟩ := h
  refine .tup 1 p _ (ne _ _ hp) hp (by show 3 ≤ 1000; decide) fun x hx => ?_
  simp only [List.mem_cons, List.not_mem_nil, or_false] at hx
  rcases hx with rfl | rfl | rfl
  · exact .int 1 _
  · exact .int 1 _
  · exact th_row hq (ne _ _ hq) l 1
theorem SchAt.th {C z : Addr} {H : Hp} {S : List Tr} {xs : List V} (hl : xs.length = S.length) (hi : ∀ (i : Nat) (e : Tr), S[i]? = some e → ∃ v, xs[i]? = some v ∧ Trip H v e) (hr : ∀ e ∈ S, e.2.2.length ≤ 1000) (ne : ∀ b ys, H b = some (.tup ys) → b ≠ z) : ∀ x ∈ xs, Th C z H 2 x := by
  intro x hx
  obtain ⟨j, hj, rfl⟩ := List.mem_iff_getElem.mp hx
  have js : j < S.length := by omega
  obtain ⟨v, h1, h2⟩ := hi j _ (List.getElem?_eq_getElem js)
  rw [List.getElem?_eq_getElem hj] at h1
  rw [Option.some.inj h1]
  exact h2.th (hr _ (List.getElem_mem js)) ne
def sp__law_bent (C : Addr) (K : PySem.W.Frag) : Sp := fun vs H Q _ => ∃ (τ : Tp) (a : Addr) (S : List Tr), vs = [.ref τ.t, .ref a] ∧ Tape τ H ∧ SchAt H a S ∧ S.length ≤ 40 ∧ (∀ e ∈ S, e.2.2.length ≤ 900) ∧ ∀ v H', Mv τ H H' → Th C τ.t H' 3 v → Q v H'
theorem sc__law_bent : FnScope ["_law_hand_here", "_law_scheme", "_law_at", "_law_items", "_law_slot", "_law_number", "_law_row"] ["_law_hand_here", "_law_scheme"] (defScope s__law_bent) := ⟨rfl, rfl, rfl, by decide +kernel, rfl, by decide +kernel, by decide +kernel⟩
theorem ok__law_bent (T : Top P K mg) : FnOk P w K mg base CX0 8 T.f__law_bent T.fd__law_bent ["_law_hand_here", "_law_scheme"] (sp__law_bent T.C_Book K) := by
  have G__law_draw := ok__law_draw (P := P) (w := w) (base := base) T
  have G__law_odd := ok__law_odd (P := P) (w := w) (base := base) T
  refine T.F__law_bent.ok sc__law_bent (fun vs H Q E h => ?_) (fun cdv A outer s H vs Q E hr h => ?_)
  · obtain ⟨τ, a, S, rfl, _⟩ := h
    rfl
  · obtain ⟨τ, a, S, rfl, m0, hS, l40, hr9, k⟩ := h
    refine ⟨_, (pss_cons (ps_if (PW.pt (pw_or (pt_cmpR op_eq (pe_callB (r := rLenQ K) (id := "len") call_len_seq (by rfl) T.z_len (by decide +kernel) (pa_cons (pv 1) pa_nil)) pe_int (nomark _)) (pw_or1 (pt_cmpR op_eq (pe_call G__law_draw (hr.mono (by decide)) (by rfl) T.g__law_draw T.F__law_draw.kp T.b__law_draw .nil pass0 (pa_cons (pv 0) (pa_cons pe_int pa_nil))) pe_int (nomark _))))) (pss_one (ps_ret (pe_ix (r := rIxL K) ix_list (pe_lst (pa_cons (pe_callTy (r := rListQ K) (T := "list") call_list_of (by rfl) T.z_list (by decide +kernel) (pa_cons (pv 1) pa_nil)) (pa_cons pe_non (pa_cons pe_str (pa_cons pe_dnewK (pa_cons pe_int (pa_cons (pe_call G__law_odd hr (by rfl) T.g__law_odd T.F__law_odd.kp T.b__law_odd .nil pass0 (pa_cons (pv 0) pa_nil)) (pa_cons (pv 1) pa_nil)))))))) (pe_call G__law_draw (hr.mono (by decide)) (by rfl) T.g__law_draw T.F__law_draw.kp T.b__law_draw .nil pass0 (pa_cons (pv 0) (pa_cons pe_int pa_nil))) (fun _ _ => rfl)))) pss_nil)
      (pss_cons (ps_set (i := 2) sc__law_bent.nd rfl (Or.inl rfl) (pe_call G__law_draw (hr.mono (by decide)) (by rfl) T.g__law_draw T.F__law_draw.kp T.b__law_draw .nil pass0 (pa_cons (pv 0) (pa_cons (pe_callB (r := rLenQ K) (id := "len") call_len_seq (by rfl) T.z_len (by decide +kernel) (pa_cons (pv 1) pa_nil)) pa_nil))))
      (pss_cons (ps_asg (pe_ix (r := rIxT K) ix_tup (pv 1) (pv 2) (fun _ _ => rfl)) (pg_tup rfl (pgs_cons (pg_name (i := 4) sc__law_bent.nd rfl (Or.inl rfl)) (pgs_cons (pg_name (i := 5) sc__law_bent.nd rfl (Or.inl rfl)) (pgs_cons (pg_name (i := 6) sc__law_bent.nd rfl (Or.inl rfl)) pgs_nil)))))
      (pss_cons (ps_set (i := 3) sc__law_bent.nd rfl (Or.inl rfl) (pe_lst (pa_cons (pe_tup (pa_cons (pe_un un_neg pe_int) (pa_cons (pv 5) (pa_cons (pv 6) pa_nil)))) (pa_cons (pe_tup (pa_cons (pv 4) (pa_cons pe_bl (pa_cons (pv 6) pa_nil)))) (pa_cons (pe_tup (pa_cons (pv 4) (pa_cons (pv 5) (pa_cons (pe_callTy (r := rListQ K) (T := "list") call_list_of (by rfl) T.z_list (by decide +kernel) (pa_cons (pv 6) pa_nil)) pa_nil)))) (pa_cons (pe_tup (pa_cons (pv 4) (pa_cons (pv 5) pa_nil))) (pa_cons (pe_tup (pa_cons (pv 4) (pa_cons (pv 5) (pa_cons (pv 6) (pa_cons pe_int pa_nil))))) pa_nil)))))))
      (pss_cons (ps_set (i := 3) sc__law_bent.nd rfl (Or.inl rfl) (pe_op op_cat (pv 3) (pe_lst (pa_cons (pe_lst (pa_cons (pv 4) (pa_cons (pv 5) (pa_cons (pv 6) pa_nil)))) (pa_cons (pe_tup (pa_cons (pe_call G__law_odd hr (by rfl) T.g__law_odd T.F__law_odd.kp T.b__law_odd .nil pass0 (pa_cons (pv 0) pa_nil)) (pa_cons (pv 5) (pa_cons (pv 6) pa_nil)))) (pa_cons (pe_tup (pa_cons (pv 4) (pa_cons (pe_call G__law_odd hr (by rfl) T.g__law_odd T.F__law_odd.kp T.b__law_odd .nil pass0 (pa_cons (pv 0) pa_nil)) (pa_cons (pv 6) pa_nil)))) (pa_cons pe_non pa_nil)))))))
      (pss_cons (ps_set (i := 3) sc__law_bent.nd rfl (Or.inl rfl) (pe_op op_cat (pv 3) (pe_lst (pa_cons (pe_tup (pa_cons (pv 4) (pa_cons (pv 5) (pa_cons (pe_call G__law_odd hr (by rfl) T.g__law_odd T.F__law_odd.kp T.b__law_odd .nil pass0 (pa_cons (pv 0) pa_nil)) pa_nil)))) (pa_cons (pe_tup (pa_cons (pv 4) (pa_cons (pv 5) (pa_cons (pe_op op_catA (pv 6) (pe_tup (pa_cons (pe_call G__law_odd hr (by rfl) T.g__law_odd T.F__law_odd.kp T.b__law_odd .nil pass0 (pa_cons (pv 0) pa_nil)) pa_nil))) pa_nil)))) (pa_cons (pe_ix (r := rIxT K) ix_tup (pv 1) (pv 2) (fun _ _ => rfl)) pa_nil))))))
      (pss_one (ps_ret (pe_op op_catA (pe_op op_catA (pe_slice sl_tupA (pv 1) po_none (po_some (pv 2))) (pe_tup (pa_cons (pe_ix (r := rIxL K) ix_list (pv 3) (pe_call G__law_draw (hr.mono (by decide)) (by rfl) T.g__law_draw T.F__law_draw.kp T.b__law_draw .nil pass0 (pa_cons (pv 0) (pa_cons pe_int pa_nil))) (fun _ _ => rfl)) pa_nil))) (pe_slice sl_tupA (pv 1) (po_some (pe_op op_add (pv 2) pe_int)) po_none)))))))))), ?_⟩
    obtain ⟨xs, ha, lxs, hit⟩ := id hS
    have da := m0.mv.neT ha
    by_cases z : S.length = 0
    · tm_at "w"
      refine iteET (by rw [show xs.length = 0 by omega]; rfl) ?_
      refine iteT ?_
      have mz := m0.mv
      have ha0 := mz.keep _ _ da ha
      have sq0 := SqT.of (K := K) ha0
      refine ⟨_, rfl, a, xs, rfl, .inr sq0, fun p1 np1 => ?_⟩
      have d1 := mz.neN np1
      obtain ⟨J1, e1, s1, hp1⟩ := new_hide (Same.new (o := .lst xs) (Same.refl H) np1)
      rw [e1]
      have tj1 := mz.now.same s1
      tm_at "w"
      intro p2 np2
      have d2 := tj1.mv.neN np2
      obtain ⟨J2, e2, s2, hp2⟩ := new_hide (Same.new (o := .dK []) (Same.refl J1) np2)
      rw [e2]
      have tj2 := tj1.same s2
      tm_at "w"
      intro vo J3 m3 hvo
      tm_at "w"
      intro p3 np3
      have d3 := m3.now.mv.neN np3
      obtain ⟨J4, e4, s4, hp3⟩ := new_hide (Same.new (o := .lst [.ref p1, .non, .str "scheme", .ref p2, .int 0, vo, .ref a]) (Same.refl J3) np3)
      rw [e4]
      have n34 : Mv τ J3 J4 := m3.now.mv.same s4
      tm_at "w"
      refine ⟨τ, _, rfl, n34.now, by decide, by decide, fun r3 J10 m10 g4 g5 => ?_⟩
      have n310 := n34.trans m10
      have mA : Mv τ J1 J10 := ((tj1.mv.same s2).trans m3).trans n310
      have mH := (mz.same s1).trans mA
      have haF := mH.keep _ _ da ha
      obtain ⟨ws, hws, lws, hit'⟩ := hS.tk mH.tk
      obtain rfl : ws = xs := HO.tup.inj (Option.some.inj (hws.symm.trans haF))
      have allp : ∀ x ∈ ([.ref p1, .non, .str "scheme", .ref p2, .int 0, vo, .ref a] : List V), Th T.C_Book τ.t J10 3 x := by
        intro x hx
        simp only [List.mem_cons, List.not_mem_nil, or_false] at hx
        rcases hx with rfl | rfl | rfl | rfl | rfl | rfl | rfl
        · exact .lst 3 _ _ d1 (mA.keep _ _ d1 hp1)
        · exact .non 3
        · exact .str 3 _
        · exact .dK 3 _ _ d2 ((m3.trans n310).keep _ _ d2 hp2)
        · exact .int 3 _
        · exact (hvo 3).mv n310
        · exact .tup 2 a _ da haF (by omega) (SchAt.th lws hit' (fun e he => Nat.le_trans (hr9 e he) (by decide)) fun b ys e => m10.now.mv.neT e)
      obtain ⟨vz, evz, hvz⟩ := at_in g4 (show r3 < (([.ref p1, .non, .str "scheme", .ref p2, .int 0, vo, .ref a] : List V).length : Int) from g5)
      refine ⟨_, _, _, _, rfl, rfl, SqL.of (m10.keep _ _ d3 hp3), evz, ?_⟩
      exact k _ _ mH (allp vz hvz)
    · tm_at "w"
      refine iteEF (by rw [decide_eq_false (fun e => z (by have := V.int.inj e; omega))]) ?_
      tm_at "w"
      refine ⟨τ, _, rfl, m0, by decide, by decide, fun r Ha ma g0 g1 => ?_⟩
      tm_at "w"
      by_cases z2 : r = 0
      · refine iteET (by rw [z2]; rfl) ?_
        have ha0 := ma.keep _ _ da ha
        have sq0 := SqT.of (K := K) ha0
        refine ⟨_, rfl, a, xs, rfl, .inr sq0, fun p1 np1 => ?_⟩
        have d1 := ma.neN np1
        obtain ⟨J1, e1, s1, hp1⟩ := new_hide (Same.new (o := .lst xs) (Same.refl Ha) np1)
        rw [e1]
        have tj1 := ma.now.same s1
        tm_at "w"
        intro p2 np2
        have d2 := tj1.mv.neN np2
        obtain ⟨J2, e2, s2, hp2⟩ := new_hide (Same.new (o := .dK []) (Same.refl J1) np2)
        rw [e2]
        have tj2 := tj1.same s2
        tm_at "w"
        intro vo J3 m3 hvo
        tm_at "w"
        intro p3 np3
        have d3 := m3.now.mv.neN np3
        obtain ⟨J4, e4, s4, hp3⟩ := new_hide (Same.new (o := .lst [.ref p1, .non, .str "scheme", .ref p2, .int 0, vo, .ref a]) (Same.refl J3) np3)
        rw [e4]
        have n34 : Mv τ J3 J4 := m3.now.mv.same s4
        tm_at "w"
        refine ⟨τ, _, rfl, n34.now, by decide, by decide, fun r3 J10 m10 g4 g5 => ?_⟩
        have n310 := n34.trans m10
        have mA : Mv τ J1 J10 := ((tj1.mv.same s2).trans m3).trans n310
        have mH := (ma.same s1).trans mA
        have haF := mH.keep _ _ da ha
        obtain ⟨ws, hws, lws, hit'⟩ := hS.tk mH.tk
        obtain rfl : ws = xs := HO.tup.inj (Option.some.inj (hws.symm.trans haF))
        have allp : ∀ x ∈ ([.ref p1, .non, .str "scheme", .ref p2, .int 0, vo, .ref a] : List V), Th T.C_Book τ.t J10 3 x := by
          intro x hx
          simp only [List.mem_cons, List.not_mem_nil, or_false] at hx
          rcases hx with rfl | rfl | rfl | rfl | rfl | rfl | rfl
          · exact .lst 3 _ _ d1 (mA.keep _ _ d1 hp1)
          · exact .non 3
          · exact .str 3 _
          · exact .dK 3 _ _ d2 ((m3.trans n310).keep _ _ d2 hp2)
          · exact .int 3 _
          · exact (hvo 3).mv n310
          · exact .tup 2 a _ da haF (by omega) (SchAt.th lws hit' (fun e he => Nat.le_trans (hr9 e he) (by decide)) fun b ys e => m10.now.mv.neT e)
        obtain ⟨vz, evz, hvz⟩ := at_in g4 (show r3 < (([.ref p1, .non, .str "scheme", .ref p2, .int 0, vo, .ref a] : List V).length : Int) from g5)
        refine ⟨_, _, _, _, rfl, rfl, SqL.of (m10.keep _ _ d3 hp3), evz, ?_⟩
        exact k _ _ mH (allp vz hvz)
      · refine iteEF (by rw [decide_eq_false (fun e => z2 (V.int.inj e))]) ?_
        tm_at "w"
        have xl : xs.length = S.length := lxs
        refine ⟨τ, _, rfl, ma.now, by omega, by omega, fun at0 J0 mb g2 g3 => ?_⟩
        obtain ⟨at0, rfl⟩ : ∃ k : Nat, at0 = k := ⟨at0.toNat, by omega⟩
        have m00 := ma.trans mb
        have tp0 := mb.now
        have hx0 := List.getElem?_eq_getElem (show at0 < xs.length by omega)
        have hS0 := List.getElem?_eq_getElem (show at0 < S.length by omega)
        obtain ⟨vv, hvv, bp, q, evv, hb, hq⟩ := hit _ _ hS0
        have eq0 : xs[at0]'(by omega) = .ref bp := by rw [hx0] at hvv; rw [← evv]; exact Option.some.inj hvv
        have hrow := hr9 _ (List.mem_of_getElem? hS0)
        revert hb hq hrow
        generalize S[at0]'(by omega) = e
        obtain ⟨es, en, er⟩ := e
        intro hb hq hrow
        have dbp := m0.mv.neT hb
        have dq := m0.mv.neT hq
        have hb0 := m00.keep _ _ dbp hb
        have hq0 := m00.keep _ _ dq hq
        have ha0 := m00.keep _ _ da ha
        tm_at "w"
        refine ⟨bp, _, evv, SqT.of hb0, rfl, _, _, rfl, _, _, rfl, _, _, rfl, rfl, ?_⟩
        tm_at "w"
        intro u1 nu1
        show tCons _ _ _ (upd J0 u1 (.tup [.int (-1), .int en, .ref q])) _
        obtain ⟨J1, e1, s1, hu1⟩ := new_hide (Same.new (o := .tup [.int (-1), .int en, .ref q]) (Same.refl J0) nu1)
        rw [e1]
        have st1 := tp0.mv.same s1
        have tp1 := st1.now
        have du1 := tp0.mv.neN nu1
        tm_at "w"
        intro u2 nu2
        obtain ⟨J2, e2, s2, hu2⟩ := new_hide (Same.new (o := .tup [.int es, .bl true, .ref q]) (Same.refl J1) nu2)
        rw [e2]
        have st2 := tp1.mv.same s2
        have tp2 := st2.now
        have du2 := tp1.mv.neN nu2
        have sq2 := SqT.of (K := K) (s2 _ _ (s1 _ _ hq0))
        tm_at "w"
        intro u3 nu3
        obtain ⟨J3, e3, s3, hu3⟩ := new_hide (Same.new (o := .lst (er.map V.int)) (Same.refl J2) nu3)
        rw [e3]
        have st3 := tp2.mv.same s3
        have tp3 := st3.now
        have du3 := tp2.mv.neN nu3
        tm_at "w"
        intro u4 nu4
        obtain ⟨J4, e4, s4, hu4⟩ := new_hide (Same.new (o := .tup [.int es, .int en, .ref u3]) (Same.refl J3) nu4)
        rw [e4]
        have st4 := tp3.mv.same s4
        have tp4 := st4.now
        have du4 := tp3.mv.neN nu4
        tm_at "w"
        intro u5 nu5
        obtain ⟨J5, e5, s5, hu5⟩ := new_hide (Same.new (o := .tup [.int es, .int en]) (Same.refl J4) nu5)
        rw [e5]
        have st5 := tp4.mv.same s5
        have tp5 := st5.now
        have du5 := tp4.mv.neN nu5
        tm_at "w"
        intro u6 nu6
        obtain ⟨J6, e6, s6, hu6⟩ := new_hide (Same.new (o := .tup [.int es, .int en, .ref q, .int 0]) (Same.refl J5) nu6)
        rw [e6]
        have st6 := tp5.mv.same s6
        have tp6 := st6.now
        have du6 := tp5.mv.neN nu6
        tm_at "w"
        intro u7 nu7
        obtain ⟨J7, e7, s7, hu7⟩ := new_hide (Same.new (o := .lst [.ref u1, .ref u2, .ref u4, .ref u5, .ref u6]) (Same.refl J6) nu7)
        rw [e7]
        have st7 := tp6.mv.same s7
        have tp7 := st7.now
        have du7 := tp6.mv.neN nu7
        tm_at "w"
        intro u8 nu8
        obtain ⟨J8, e8, s8, hu8⟩ := new_hide (Same.new (o := .lst [.int es, .int en, .ref q]) (Same.refl J7) nu8)
        rw [e8]
        have st8 := tp7.mv.same s8
        have tp8 := st8.now
        have du8 := tp7.mv.neN nu8
        tm_at "w"
        intro v1 J9 st9 hv1
        have tp9 := st9.now
        tm_at "w"
        intro u9 nu9
        obtain ⟨J10, e10, s10, hu9⟩ := new_hide (Same.new (o := .tup [v1, .int en, .ref q]) (Same.refl J9) nu9)
        rw [e10]
        have st10 := tp9.mv.same s10
        have tp10 := st10.now
        have du9 := tp9.mv.neN nu9
        tm_at "w"
        intro v2 J11 st11 hv2
        have tp11 := st11.now
        tm_at "w"
        intro u10 nu10
        obtain ⟨J12, e12, s12, hu10⟩ := new_hide (Same.new (o := .tup [.int es, v2, .ref q]) (Same.refl J11) nu10)
        rw [e12]
        have st12 := tp11.mv.same s12
        have tp12 := st12.now
        have du10 := tp11.mv.neN nu10
        tm_at "w"
        intro u11 nu11
        obtain ⟨J13, e13, s13, hu11⟩ := new_hide (Same.new (o := .lst [.ref u8, .ref u9, .ref u10, .non]) (Same.refl J12) nu11)
        rw [e13]
        have st13 := tp12.mv.same s13
        have tp13 := st13.now
        have du11 := tp12.mv.neN nu11
        have hu7k := (((((st8.trans st9).trans st10).trans st11).trans st12).trans st13).keep _ _ du7 hu7
        tm_at "w"
        refine ⟨u7, u11, _, _, rfl, rfl, hu7k, hu11, (by show 5 + 4 ≤ sizeLine; decide), fun u12 nu12 => ?_⟩
        obtain ⟨J14, e14, s14, hu12⟩ := new_hide (Same.new (o := .lst ([.ref u1, .ref u2, .ref u4, .ref u5, .ref u6] ++ [.ref u8, .ref u9, .ref u10, .non])) (Same.refl J13) nu12)
        rw [e14]
        have st14 := tp13.mv.same s14
        have tp14 := st14.now
        have du12 := tp13.mv.neN nu12
        tm_at "w"
        intro v3 J15 st15 hv3
        have tp15 := st15.now
        tm_at "w"
        intro u13 nu13
        obtain ⟨J16, e16, s16, hu13⟩ := new_hide (Same.new (o := .tup [.int es, .int en, v3]) (Same.refl J15) nu13)
        rw [e16]
        have st16 := tp15.mv.same s16
        have tp16 := st16.now
        have du13 := tp15.mv.neN nu13
        tm_at "w"
        intro v4 J17 st17 hv4
        have tp17 := st17.now
        tm_at "w"
        intro u14 nu14
        obtain ⟨J18, e18, s18, hu14⟩ := new_hide (Same.new (o := .tup [v4]) (Same.refl J17) nu14)
        rw [e18]
        have st18 := tp17.mv.same s18
        have tp18 := st18.now
        have du14 := tp17.mv.neN nu14
        have hqk := (((((((((((((((((st1.trans st2).trans st3).trans st4).trans st5).trans st6).trans st7).trans st8).trans st9).trans st10).trans st11).trans st12).trans st13).trans st14).trans st15).trans st16).trans st17).trans st18).keep _ _ dq hq0
        have er9 : er.length ≤ 900 := hrow
        refine cat_any hqk hu14 (Nat.le_trans (show _ ≤ 1000 by rw [List.length_map]; show er.length + 1 ≤ 1000; omega) (by decide)) fun p0 J19 s19 hp0 => ?_
        have st19 := tp18.mv.same s19
        have tp19 := st19.now
        have ha19 := ((((((((((((((((((st1.trans st2).trans st3).trans st4).trans st5).trans st6).trans st7).trans st8).trans st9).trans st10).trans st11).trans st12).trans st13).trans st14).trans st15).trans st16).trans st17).trans st18).trans st19).keep _ _ da ha0
        tm_at "w"
        intro u15 nu15
        obtain ⟨J20, e20, s20, hu15⟩ := new_hide (Same.new (o := .tup [.int es, .int en, .ref p0]) (Same.refl J19) nu15)
        rw [e20]
        have st20 := tp19.mv.same s20
        have tp20 := st20.now
        have du15 := tp19.mv.neN nu15
        have ha20 := (((((((((((((((((((st1.trans st2).trans st3).trans st4).trans st5).trans st6).trans st7).trans st8).trans st9).trans st10).trans st11).trans st12).trans st13).trans st14).trans st15).trans st16).trans st17).trans st18).trans st19).trans st20).keep _ _ da ha0
        tm_at "w"
        intro u16 nu16
        obtain ⟨J21, e21, s21, hu16⟩ := new_hide (Same.new (o := .lst [.ref u13, .ref u15, vv]) (Same.refl J20) nu16)
        rw [e21]
        have st21 := tp20.mv.same s21
        have tp21 := st21.now
        have du16 := tp20.mv.neN nu16
        have hu12k := ((((((st15.trans st16).trans st17).trans st18).trans st19).trans st20).trans st21).keep _ _ du12 hu12
        refine ⟨u12, u16, _, _, rfl, rfl, hu12k, hu16, (by show 9 + 3 ≤ sizeLine; decide), fun u17 nu17 => ?_⟩
        obtain ⟨J22, e22, s22, hu17⟩ := new_hide (Same.new (o := .lst (([.ref u1, .ref u2, .ref u4, .ref u5, .ref u6] ++ [.ref u8, .ref u9, .ref u10, .non]) ++ [.ref u13, .ref u15, vv])) (Same.refl J21) nu17)
        rw [e22]
        have st22 := tp21.mv.same s22
        have tp22 := st22.now
        have du17 := tp21.mv.neN nu17
        have ha22 := (((((((((((((((((((((st1.trans st2).trans st3).trans st4).trans st5).trans st6).trans st7).trans st8).trans st9).trans st10).trans st11).trans st12).trans st13).trans st14).trans st15).trans st16).trans st17).trans st18).trans st19).trans st20).trans st21).trans st22).keep _ _ da ha0
        tm_at "w"
        refine slice_th ha22 fun p1 ys1 J23 s23 hp1 in1 len1 => ?_
        have st23 := tp22.mv.same s23
        have tp23 := st23.now
        tm_at "w"
        refine ⟨τ, _, rfl, tp23, by decide, by decide, fun r6 J24 st24 g6 g7 => ?_⟩
        have tp24 := st24.now
        have hu17k := (st23.trans st24).keep _ _ du17 hu17
        obtain ⟨vi, evi, hvi⟩ := at_in g6 (show r6 < ((([.ref u1, .ref u2, .ref u4, .ref u5, .ref u6] ++ [.ref u8, .ref u9, .ref u10, .non]) ++ [.ref u13, .ref u15, vv] : List V).length : Int) from g7)
        refine ⟨_, _, _, _, rfl, rfl, SqL.of hu17k, evi, ?_⟩
        tm_at "w"
        intro u18 nu18
        obtain ⟨J25, e25, s25, hu18⟩ := new_hide (Same.new (o := .tup [vi]) (Same.refl J24) nu18)
        rw [e25]
        have st25 := tp24.mv.same s25
        have tp25 := st25.now
        have du18 := tp24.mv.neN nu18
        have hp1k := st24.keep _ _ (tp23.mv.neT hp1) hp1
        refine cat_any (s25 _ _ hp1k) hu18 (Nat.le_trans (show _ ≤ 1000 by show ys1.length + 1 ≤ 1000; omega) (by decide)) fun p2 J26 s26 hp2 => ?_
        have st26 := tp25.mv.same s26
        have tp26 := st26.now
        have ha26 := (((((((((((((((((((((((((st1.trans st2).trans st3).trans st4).trans st5).trans st6).trans st7).trans st8).trans st9).trans st10).trans st11).trans st12).trans st13).trans st14).trans st15).trans st16).trans st17).trans st18).trans st19).trans st20).trans st21).trans st22).trans st23).trans st24).trans st25).trans st26).keep _ _ da ha0
        unfold tNoPart
        tm_at "w"
        refine slice_th ha26 fun p3 ys3 J27 s27 hp3 in3 len3 => ?_
        have st27 := tp26.mv.same s27
        have tp27 := st27.now
        refine cat_any (s27 _ _ hp2) hp3 (Nat.le_trans (show _ ≤ 1000 by rw [List.length_append]; show ys1.length + 1 + ys3.length ≤ 1000; omega) (by decide)) fun p4 J28 s28 hp4 => ?_
        have st28 := tp27.mv.same s28
        have tp28 := st28.now
        have f28 := tp28.mv
        have f27 := st28.trans f28
        have f26 := st27.trans f27
        have f25 := st26.trans f26
        have f24 := st25.trans f25
        have f23 := st24.trans f24
        have f22 := st23.trans f23
        have f21 := st22.trans f22
        have f20 := st21.trans f21
        have f19 := st20.trans f20
        have f18 := st19.trans f19
        have f17 := st18.trans f18
        have f16 := st17.trans f17
        have f15 := st16.trans f16
        have f14 := st15.trans f15
        have f13 := st14.trans f14
        have f12 := st13.trans f13
        have f11 := st12.trans f12
        have f10 := st11.trans f11
        have f9 := st10.trans f10
        have f8 := st9.trans f9
        have f7 := st8.trans f8
        have f6 := st7.trans f7
        have f5 := st6.trans f6
        have f4 := st5.trans f5
        have f3 := st4.trans f4
        have f2 := st3.trans f3
        have f1 := st2.trans f2
        have f0 := st1.trans f1
        have haF := f0.keep _ _ da ha0
        have hbF := f0.keep _ _ dbp hb0
        have hqF := f0.keep _ _ dq hq0
        obtain ⟨ws, hws, lws, hit'⟩ := hS.tk (m00.trans f0).tk
        obtain rfl : ws = xs := HO.tup.inj (Option.some.inj (hws.symm.trans haF))
        have hxs : ∀ x ∈ ws, Th T.C_Book τ.t J28 2 x := SchAt.th lws hit' (fun e he => Nat.le_trans (hr9 e he) (by decide)) fun b ys e => tp28.mv.neT e
        have hqT : ∀ n, Th T.C_Book τ.t J28 n (.ref q) := th_row hqF dq (by omega)
        have hpT : Th T.C_Book τ.t J28 1 (.ref p0) := by
          refine .tup 0 p0 _ (tp19.mv.neT hp0) (f19.keep _ _ (tp19.mv.neT hp0) hp0) (by rw [List.length_append, List.length_map]; show er.length + 1 ≤ 1000; omega) fun x hx => ?_
          rcases List.mem_append.mp hx with hx | hx
          · obtain ⟨i, _, rfl⟩ := List.mem_map.mp hx
            exact .int 0 i
          · rw [List.mem_singleton.mp hx]
            exact (hv4 0).mv f17
        have hvs : ∀ x ∈ (([.ref u1, .ref u2, .ref u4, .ref u5, .ref u6] ++ [.ref u8, .ref u9, .ref u10, .non]) ++ [.ref u13, .ref u15, vv] : List V), Th T.C_Book τ.t J28 2 x := by
          intro x hx
          simp only [List.mem_append, List.mem_cons, List.not_mem_nil, or_false] at hx
          rcases hx with ((rfl | rfl | rfl | rfl | rfl) | (rfl | rfl | rfl | rfl)) | (rfl | rfl | rfl)
          · refine .tup 1 u1 _ du1 (f1.keep _ _ du1 hu1) (by show 3 ≤ 1000; decide) fun x hx => ?_
            simp only [List.mem_cons, List.not_mem_nil, or_false] at hx
            rcases hx with rfl | rfl | rfl
            · exact .int 1 _
            · exact .int 1 _
            · exact hqT 1
          · refine .tup 1 u2 _ du2 (f2.keep _ _ du2 hu2) (by show 3 ≤ 1000; decide) fun x hx => ?_
            simp only [List.mem_cons, List.not_mem_nil, or_false] at hx
            rcases hx with rfl | rfl | rfl
            · exact .int 1 _
            · exact .bl 1 _
            · exact hqT 1
          · refine .tup 1 u4 _ du4 (f4.keep _ _ du4 hu4) (by show 3 ≤ 1000; decide) fun x hx => ?_
            simp only [List.mem_cons, List.not_mem_nil, or_false] at hx
            rcases hx with rfl | rfl | rfl
            · exact .int 1 _
            · exact .int 1 _
            · exact .lst 1 u3 _ du3 (f3.keep _ _ du3 hu3)
          · refine .tup 1 u5 _ du5 (f5.keep _ _ du5 hu5) (by show 2 ≤ 1000; decide) fun x hx => ?_
            simp only [List.mem_cons, List.not_mem_nil, or_false] at hx
            rcases hx with rfl | rfl
            · exact .int 1 _
            · exact .int 1 _
          · refine .tup 1 u6 _ du6 (f6.keep _ _ du6 hu6) (by show 4 ≤ 1000; decide) fun x hx => ?_
            simp only [List.mem_cons, List.not_mem_nil, or_false] at hx
            rcases hx with rfl | rfl | rfl | rfl
            · exact .int 1 _
            · exact .int 1 _
            · exact hqT 1
            · exact .int 1 _
          · exact .lst 2 u8 _ du8 (f8.keep _ _ du8 hu8)
          · refine .tup 1 u9 _ du9 (f10.keep _ _ du9 hu9) (by show 3 ≤ 1000; decide) fun x hx => ?_
            simp only [List.mem_cons, List.not_mem_nil, or_false] at hx
            rcases hx with rfl | rfl | rfl
            · exact (hv1 1).mv f9
            · exact .int 1 _
            · exact hqT 1
          · refine .tup 1 u10 _ du10 (f12.keep _ _ du10 hu10) (by show 3 ≤ 1000; decide) fun x hx => ?_
            simp only [List.mem_cons, List.not_mem_nil, or_false] at hx
            rcases hx with rfl | rfl | rfl
            · exact .int 1 _
            · exact (hv2 1).mv f11
            · exact hqT 1
          · exact .non 2
          · refine .tup 1 u13 _ du13 (f16.keep _ _ du13 hu13) (by show 3 ≤ 1000; decide) fun x hx => ?_
            simp only [List.mem_cons, List.not_mem_nil, or_false] at hx
            rcases hx with rfl | rfl | rfl
            · exact .int 1 _
            · exact .int 1 _
            · exact (hv3 1).mv f15
          · refine .tup 1 u15 _ du15 (f20.keep _ _ du15 hu15) (by show 3 ≤ 1000; decide) fun x hx => ?_
            simp only [List.mem_cons, List.not_mem_nil, or_false] at hx
            rcases hx with rfl | rfl | rfl
            · exact .int 1 _
            · exact .int 1 _
            · exact hpT
          · exact Trip.th ⟨bp, q, evv, hbF, hqF⟩ (by show er.length ≤ 1000; omega) (fun b ys e => tp28.mv.neT e)
        refine k _ _ (m00.trans f0) (.tup 2 p4 _ (tp28.mv.neT hp4) hp4 ?_ fun x hx => ?_)
        · rw [List.length_append, List.length_append]
          show ys1.length + 1 + ys3.length ≤ 1000
          omega
        · rcases List.mem_append.mp hx with hx | hx
          · rcases List.mem_append.mp hx with hx | hx
            · exact hxs x (in1 x hx)
            · rw [List.mem_singleton.mp hx]
              exact hvs vi hvi
          · exact hxs x (in3 x hx)
/-! law -/
theorem lc_listT {K : PySem.W.Frag} {a : Addr} {xs : List V} {g : TG} {tt : TT} {te : TE} {vs : List Nat} {σ : St} {H1 : Hp} {D : Addr} {Qd : Hp → Prop} {τ : Tp} (R : V → Hp → Prop) (st1 : ∀ v H H', R v H → Mv τ H H' → R v H') (st2 : ∀ v H p xs ys, R v H → H p = some (.lst xs) → R v (upd H p (.lst ys))) (hx : H1 a = some (.lst xs)) (ne_a : a ≠ τ.t) (t : Tape τ H1) (nD : H1 D = none) (hn : xs.length ≤ 100000)
    (hs : ∀ (i : Nat) (x : V) (H : Hp) (N : V → Hp → Prop) (M : Hp → Prop), xs[i]? = some x → Mv τ H1 H → (∀ v H4, Mv τ H H4 → R v H4 → N v H4) → g x (wipe σ vs) H fun σ2 H2 => wipe σ2 vs = wipe σ vs ∧ tt σ2 H2 fun b H3 => if b = true then te σ2 H3 N else M H3)
    (hd : ∀ H acc, Mv τ H1 H → H D = some (.lst acc) → acc.length = xs.length → (∀ (j : Nat) v, acc[j]? = some v → R v H) → Qd H) : ∃ W : Nat → Nat → Hp → Prop, (∃ m, W 0 m (upd H1 D (.lst []))) ∧ ∀ i m H, W i m H →
      ((Itl K a).stop i H ∧ Qd H) ∨ ((Itl K a).go i H ∧ ∃ Nx : Hp → Prop, (∀ H', Nx H' → ∃ m', m' < m ∧ W (i + 1) m' H') ∧ ∀ x H', (Itl K a).yld i H x H' → g x (wipe σ vs) H' fun σ2 H2 => wipe σ2 vs = wipe σ vs ∧ tt σ2 H2 fun b H3 =>
        if b = true then te σ2 H3 fun y H4 => ∃ acc, H4 D = some (.lst acc) ∧ acc.length < sizeLine ∧ Nx (upd H4 D (.lst (acc ++ [y]))) else Nx H3) := by
  refine lc_list (K := K) (a := a) (xs := xs) (fun i H => Mv τ H1 H ∧ ∃ acc, H D = some (.lst acc) ∧ acc.length = i ∧ ∀ (j : Nat) v, acc[j]? = some v → R v H) ⟨(t.mv).new nD, [], upd_same, rfl, fun j v e => by simp at e⟩ (fun i H _ p => SqL.of (p.1.keep _ _ ne_a hx)) (fun i x H hi p => ?_) (fun H p => ?_)
  · obtain ⟨m, acc, hD, hlen, hR⟩ := p
    have il : i < xs.length := (List.getElem?_eq_some_iff.mp hi).1
    refine hs i x H _ _ hi m (fun v H4 m4 r => ⟨acc, m4.keep _ _ (t.mv.neF nD) hD, lt_line (by omega), (m.trans m4).mut nD, acc ++ [v], upd_same, by rw [List.length_append, hlen]; rfl, fun j u e => ?_⟩)
    have k1 := m4.keep _ _ (t.mv.neF nD) hD
    by_cases hj : j < acc.length
    · rw [List.getElem?_append_left hj] at e
      exact st2 _ _ _ _ _ (st1 _ _ _ (hR j u e) m4) k1
    · rw [List.getElem?_append_right (by omega)] at e
      have hj2 : j = i := by
        have q := (List.getElem?_eq_some_iff.mp e).1
        rw [List.length_singleton] at q
        omega
      rw [hj2, hlen, Nat.sub_self] at e
      have e2 : v = u := Option.some.inj e
      rw [← e2]
      exact st2 _ _ _ _ _ r k1
  · obtain ⟨m, acc, hD, hlen, hR⟩ := p
    exact hd H acc m hD hlen hR
theorem word_lay {H : Hp} {w : Nat} {v x y : V} : PyData.canLay0 (.str (wordT H w v x y)) = true := by
  unfold wordT
  generalize kinB H v (if w = 0 then [x] else [x, y]) = b
  generalize schB H v = c
  revert b c
  decide +kernel
theorem shaped3 {a b c : Str} (ha : PyData.canLay0 (.str a) = true) (hb : PyData.canLay0 (.str b) = true) (hc : PyData.canLay0 (.str c) = true) : SeqAt.shaped (.list [.str a, .str b, .str c]) = true := by
  show ((PyData.canLay0 (.str a) && (PyData.canLay0 (.str b) && (PyData.canLay0 (.str c) && true))) && decide (_ ≤ 64)) = true
  rw [ha, hb, hc]
  rfl
theorem whole_in {v : V} {n : Nat} : withinB v 0 ((n : Int) - 1) = (isIntB v && match v with | .int i => decide (0 ≤ i) && decide (i < (n : Int)) | _ => false) := by
  cases v with
  | int i =>
    show (decide (0 ≤ i) && decide (i ≤ (n : Int) - 1)) = (true && (decide (0 ≤ i) && decide (i < (n : Int))))
    rw [Bool.true_and]
    congr 1
    exact decide_eq_decide.mpr (by omega)
  | _ => rfl
def sp_law (K : PySem.W.Frag) : Sp := fun vs H Q _ => ∃ (a : Addr) (ns : List Int), vs = [.ref a] ∧ SqL K H a (ns.map V.int) ∧ ns.length ≤ 63 ∧ ∀ H', Q (.bl true) H'
theorem sc_law : FnScope ["_law_script", "_law_hand_here", "_law_turn", "_law_many", "_law_scheme", "_law_thing", "_law_x", "_law_y", "_law_due", "_law_right", "_law_kind", "_law_which"] ["_law_script"] (defScope s_law) := ⟨rfl, rfl, rfl, by decide +kernel, rfl, by decide +kernel, by decide +kernel⟩
theorem ok_law (T : Top P K mg) : FnOk P w K mg base CX0 9 T.f_law T.fd_law ["_law_script"] (sp_law K) := by
  have G__law_any_scheme := ok__law_any_scheme (P := P) (w := w) (base := base) T
  have G__law_bent := ok__law_bent (P := P) (w := w) (base := base) T
  have G__law_draw := ok__law_draw (P := P) (w := w) (base := base) T
  have G__law_hand := ok__law_hand (P := P) (w := w) (base := base) T
  have G__law_has_form := ok__law_has_form (P := P) (w := w) (base := base) T
  have G__law_is_whole := ok__law_is_whole (P := P) (w := w) (base := base) T
  have G__law_odd := ok__law_odd (P := P) (w := w) (base := base) T
  have G__law_parents := ok__law_parents (P := P) (w := w) (base := base) T
  have G__law_right_scheme := ok__law_right_scheme (P := P) (w := w) (base := base) T
  have G__law_sheet := ok__law_sheet (P := P) (w := w) (base := base) T
  have G__law_word := ok__law_word (P := P) (w := w) (base := base) T
  refine T.F_law.ok sc_law (fun vs H Q E h => ?_) (fun cdv A outer s H vs Q E hr h => ?_)
  · obtain ⟨a, ns, rfl, _⟩ := h
    rfl
  · obtain ⟨a, ns, rfl, hS, hlen, k⟩ := h
    refine ⟨_, (pss_cons (ps_set (i := 1) sc_law.nd rfl (Or.inl rfl) (pe_call G__law_hand (hr.mono (by decide)) (by rfl) T.g__law_hand T.F__law_hand.kp T.b__law_hand .nil pass0 (pa_cons (pv 0) pa_nil)))
      (pss_cons (ps_for PassesOwn.never rfl (pi_range1 rfl T.z_range (pa_cons pe_int pa_nil)) (pg_name (i := 2) sc_law.nd rfl (Or.inl rfl))
      (pss_cons (ps_set (i := 3) sc_law.nd rfl (Or.inl rfl) (pe_call G__law_draw (hr.mono (by decide)) (by rfl) T.g__law_draw T.F__law_draw.kp T.b__law_draw .nil pass0 (pa_cons (pv 1) (pa_cons pe_int pa_nil))))
      (pss_cons (ps_set (i := 4) sc_law.nd rfl (Or.inl rfl) (pe_call G__law_any_scheme (hr.mono (by decide)) (by rfl) T.g__law_any_scheme T.F__law_any_scheme.kp T.b__law_any_scheme .nil pass0 (pa_cons (pv 1) (pa_cons (pv 3) pa_nil))))
      (C8.pss_cut (ps_if (PW.pt (pw_and (pt_cmpR op_gt (pv 3) pe_int (nomark _)) (pw_and1 (pt_cmpR op_eq (pe_call G__law_draw (hr.mono (by decide)) (by rfl) T.g__law_draw T.F__law_draw.kp T.b__law_draw .nil pass0 (pa_cons (pv 1) (pa_cons pe_int pa_nil))) pe_int (nomark _))))) (pss_one (ps_set (i := 4) sc_law.nd rfl (Or.inl rfl) (pe_call G__law_right_scheme (hr.mono (by decide)) (by rfl) T.g__law_right_scheme T.F__law_right_scheme.kp T.b__law_right_scheme .nil pass0 (pa_cons (pv 1) (pa_cons (pe_call G__law_sheet (hr.mono (by decide)) (by rfl) T.g__law_sheet T.F__law_sheet.kp T.b__law_sheet .nil pass0 (pa_cons (pe_call G__law_parents (hr.mono (by decide)) (by rfl) T.g__law_parents T.F__law_parents.kp T.b__law_parents .nil pass0 (pa_cons (pv 1) (pa_cons (pv 3) (pa_cons pe_int pa_nil)))) pa_nil)) pa_nil))))) pss_nil)
      (C8.pss_cut (ps_set (i := 5) sc_law.nd rfl (Or.inr rfl) (pe_ifExp (pt_cmpR op_eq (pe_call G__law_draw (hr.mono (by decide)) (by rfl) T.g__law_draw T.F__law_draw.kp T.b__law_draw .nil pass0 (pa_cons (pv 1) (pa_cons pe_int pa_nil))) pe_int (nomark _)) (pe_call G__law_bent hr (by rfl) T.g__law_bent T.F__law_bent.kp T.b__law_bent .nil pass0 (pa_cons (pv 1) (pa_cons (pv 4) pa_nil))) (pv 4)))
      (C8.pss_cut (ps_set (i := 6) sc_law.nd rfl (Or.inr rfl) (pe_ifExp (PW.pt (pw_or (pt_cmpR op_eq (pv 3) pe_int (nomark _)) (pw_or1 (pt_cmpR op_eq (pe_call G__law_draw (hr.mono (by decide)) (by rfl) T.g__law_draw T.F__law_draw.kp T.b__law_draw .nil pass0 (pa_cons (pv 1) (pa_cons pe_int pa_nil))) pe_int (nomark _))))) (pe_call G__law_odd (hr.mono (by decide)) (by rfl) T.g__law_odd T.F__law_odd.kp T.b__law_odd .nil pass0 (pa_cons (pv 1) pa_nil)) (pe_call G__law_draw (hr.mono (by decide)) (by rfl) T.g__law_draw T.F__law_draw.kp T.b__law_draw .nil pass0 (pa_cons (pv 1) (pa_cons (pe_op op_add (pv 3) pe_int) pa_nil)))))
      (C8.pss_cut (ps_set (i := 7) sc_law.nd rfl (Or.inr rfl) (pe_ifExp (PW.pt (pw_or (pt_cmpR op_eq (pv 3) pe_int (nomark _)) (pw_or1 (pt_cmpR op_eq (pe_call G__law_draw (hr.mono (by decide)) (by rfl) T.g__law_draw T.F__law_draw.kp T.b__law_draw .nil pass0 (pa_cons (pv 1) (pa_cons pe_int pa_nil))) pe_int (nomark _))))) (pe_call G__law_odd (hr.mono (by decide)) (by rfl) T.g__law_odd T.F__law_odd.kp T.b__law_odd .nil pass0 (pa_cons (pv 1) pa_nil)) (pe_call G__law_draw (hr.mono (by decide)) (by rfl) T.g__law_draw T.F__law_draw.kp T.b__law_draw .nil pass0 (pa_cons (pv 1) (pa_cons (pe_op op_add (pv 3) pe_int) pa_nil)))))
      (pss_cons (ps_set (i := 8) sc_law.nd rfl (Or.inl rfl) (pe_lst (pa_cons pe_str (pa_cons pe_str (pa_cons pe_str pa_nil)))))
      (C8.pss_cut (ps_if (pt_not (pt_val (pe_call G__law_has_form (hr.mono (by decide)) (by rfl) T.g__law_has_form T.F__law_has_form.kp T.b__law_has_form .nil pass0 (pa_cons (pv 5) pa_nil)))) (pss_one (ps_set (i := 8) sc_law.nd rfl (Or.inl rfl) (pe_lst (pa_cons pe_str (pa_cons pe_str (pa_cons pe_str pa_nil)))))) (pss_cons (ps_setLc (i := 9) (own := [("_law_kind", 10)]) (g := gName 10) (tt := tYes) rfl sc_law.nd rfl rfl (sw_true rfl rfl rfl (by decide +kernel)) (pi_list (pe_lst (pa_cons (pv 6) (pa_cons (pv 7) pa_nil)))) (blkOk_by (own := [("_law_kind", 10)]) (N := ["_law_script", "_law_hand_here", "_law_turn", "_law_many", "_law_scheme", "_law_thing", "_law_x", "_law_y", "_law_due", "_law_right", "_law_kind", "_law_which"]) (sc := defScope s_law) (by decide +kernel)) (fun _ _ _ _ _ => (pg_name (i := 10) sc_law.nd rfl (Or.inl rfl))) (fun _ _ _ _ _ => pts_nil) (fun _ _ _ _ _ => (pe_and (pe_call G__law_is_whole (hr.mono (by decide)) (by rfl) T.g__law_is_whole T.F__law_is_whole.kp T.b__law_is_whole .nil pass0 (pa_cons (pv 10) pa_nil)) (pe_one (pe_chain op_le op_lt pe_int (pv 10) (pe_callB (r := rLenQ K) (id := "len") call_len_seq (by rfl) T.z_len (by decide +kernel) (pa_cons (pv 5) pa_nil)))))))
      (pss_one (ps_set (i := 8) sc_law.nd rfl (Or.inl rfl) (pe_op op_cat (pe_lst (pa_cons (pe_ifExp (pt_val (pe_ix (r := rIxL K) ix_list (pv 9) pe_int (fun _ _ => rfl))) pe_str pe_str) pa_nil)) (pe_op op_rep (pe_lst (pa_cons (pe_ifExp (PW.pt (pw_and (pt_val (pe_ix (r := rIxL K) ix_list (pv 9) pe_int (fun _ _ => rfl))) (pw_and1 (pt_val (pe_ix (r := rIxL K) ix_list (pv 9) pe_int (fun _ _ => rfl)))))) pe_str pe_str) pa_nil)) pe_int))))))
      (pss_one (ps_if (pt_cmpR (op_neD hr.units) (pe_lc (own := [("_law_which", 11)]) (g := gName 11) (tt := tYes) rfl sc_law.nd (pi_range1 rfl T.z_range (pa_cons pe_int pa_nil)) (blkOk_by (own := [("_law_which", 11)]) (N := ["_law_script", "_law_hand_here", "_law_turn", "_law_many", "_law_scheme", "_law_thing", "_law_x", "_law_y", "_law_due", "_law_right", "_law_kind", "_law_which"]) (sc := defScope s_law) (by decide +kernel)) (fun _ _ _ _ _ => (pg_name (i := 11) sc_law.nd rfl (Or.inl rfl))) (fun _ _ _ _ _ => pts_nil) (fun _ _ _ _ _ => (pe_call G__law_word (hr.mono (by decide)) (by rfl) T.g__law_word T.F__law_word.kp T.b__law_word .nil pass0 (pa_cons (pv 11) (pa_cons (pv 5) (pa_cons (pv 6) (pa_cons (pv 7) pa_nil))))))) (pv 8) (nomark _)) (pss_one (ps_ret pe_bl)) pss_nil)))))))))))
      (pss_one (ps_ret pe_bl)))), ?_⟩
    have kc : KitC K T.C_Book := ⟨T.cl_Book, T.ty_Book, T.kt_Book_int, T.kt_Book_bool, T.kt_Book_tuple, T.kt_Book_list⟩
    have cB := T.cl_Book
    tm_at "w"
    refine ⟨a, ns, rfl, hS, hlen, fun τ H1 s1 _ m1 => ?_⟩
    tm_at "w"
    refine for_range (lo := 0) (n := (6 : Int).toNat) (fun i σ H' => ∃ (v2 v3 v4 v5 v6 v7 v8 v9 v10 v11 : Option V), σ = [some (.ref a), some (.ref τ.t), v2, v3, v4, v5, v6, v7, v8, v9, v10, v11] ∧ Tape τ H') ⟨none, none, none, none, none, none, none, none, none, none, rfl, m1⟩ ?_ ?_
    · rintro i σ H2 hi ⟨v2, v3, v4, v5, v6, v7, v8, v9, v10, v11, rfl, m2⟩
      tm_at "w"
      refine ⟨τ, _, rfl, m2, by decide, by decide, fun n H3 m3 h0 h1 => ?_⟩
      obtain ⟨n, rfl⟩ : ∃ k : Nat, n = k := ⟨n.toNat, by omega⟩
      tm_at "w"
      refine ⟨τ, n, rfl, m3.now, by omega, fun sa S H4 m4 hS4 lS hr4 => ?_⟩
      tm_at "w"
      refine ⟨fun σ H' => ∃ (sa : Addr) (S : List Tr), σ = [some (.ref a), some (.ref τ.t), some (.int (0 + (i : Int))), some (.int (n : Int)), some (.ref sa), v5, v6, v7, v8, v9, v10, v11] ∧ Tape τ H' ∧ SchAt H' sa S ∧ S.length ≤ 40 ∧ ∀ e ∈ S, e.2.2.length ≤ 900, ?_, ?_⟩
      · tm_at "w"
        refine iteD (fun z => ?_) (fun z => ?_)
        · tm_at "w"
          refine ⟨τ, _, rfl, m4.now, by decide, by decide, fun r H5 m5 g0 g1 => ?_⟩
          tm_at "w"
          by_cases z2 : r = 0
          · refine iteET (by rw [z2]; rfl) ?_
            tm_at "w"
            refine ⟨τ, n, 3, rfl, m5.now, by omega, by decide, fun pa P H6 m6 hP ok hPl => ?_⟩
            tm_at "w"
            refine ⟨pa, P, rfl, hP, ok, by omega, fun sl H7 s7 nsl hsh => ?_⟩
            have slt := m6.now.mv.neN nsl.e
            tm_at "w"
            refine ⟨τ, sl, P, rfl, m6.now.same s7, hsh, slt, ok.rt, by omega, fun ta S1 H8 m8 hS1 ok1 h9 => ?_⟩
            tm_at "w"
            exact ⟨ta, S1, rfl, m8.now, hS1, by rw [ok1.1]; omega, h9⟩
          · refine iteEF (by rw [decide_eq_false (fun e => z2 (V.int.inj e))]) ?_
            exact ⟨sa, S, rfl, m5.now, hS4.tk m5.tk, by omega, fun e he => (hr4 e he).2⟩
        · exact ⟨sa, S, rfl, m4.now, hS4, by omega, fun e he => (hr4 e he).2⟩
      rintro σ H5 ⟨sa, S, rfl, m5, hS5, lS5, hr5⟩
      tm_at "w"
      refine ⟨fun σ H' => ∃ (vt : V), σ = [some (.ref a), some (.ref τ.t), some (.int (0 + (i : Int))), some (.int (n : Int)), some (.ref sa), some vt, v6, v7, v8, v9, v10, v11] ∧ Tape τ H' ∧ Th T.C_Book τ.t H' 3 vt, ?_, ?_⟩
      · tm_at "w"
        refine ⟨τ, _, rfl, m5, by decide, by decide, fun r H6 m6 g0 g1 => ?_⟩
        tm_at "w"
        by_cases z2 : r = 0
        · refine iteET (by rw [z2]; rfl) ?_
          tm_at "w"
          refine ⟨τ, sa, S, rfl, m6.now, hS5.tk m6.tk, lS5, hr5, fun vt H7 m7 hvt => ?_⟩
          exact ⟨vt, rfl, m7.now, hvt⟩
        · refine iteEF (by rw [decide_eq_false (fun e => z2 (V.int.inj e))]) ?_
          obtain ⟨ws, hws, lws, hit⟩ := hS5.tk m6.tk
          tm_at "w"
          exact ⟨m6.now, .tup 2 sa ws (m6.now.mv.neT hws) hws (by omega) (SchAt.th lws hit (fun e he => Nat.le_trans (hr5 e he) (by decide)) fun b ys e => m6.now.mv.neT e)⟩
      rintro σ H6 ⟨vt, rfl, m6, tt6⟩
      tm_at "w"
      refine ⟨fun σ H' => ∃ (vx : V), σ = [some (.ref a), some (.ref τ.t), some (.int (0 + (i : Int))), some (.int (n : Int)), some (.ref sa), some vt, some vx, v7, v8, v9, v10, v11] ∧ Mv τ H6 H' ∧ Th T.C_Book τ.t H' 1 vx, ?_, ?_⟩
      · tm_at "w"
        by_cases z0 : n = 0
        · refine iteET (by rw [z0]; rfl) ?_
          refine iteT ?_
          tm_at "w"
          refine fun vx H7 m7 hv => ?_
          exact ⟨vx, rfl, m7, hv 1⟩
        · refine iteEF (by rw [decide_eq_false (fun e => z0 (by have := V.int.inj e; omega))]) ?_
          tm_at "w"
          refine ⟨τ, _, rfl, m6, by decide, by decide, fun r H7 m7 g0 g1 => ?_⟩
          tm_at "w"
          by_cases z2 : r = 0
          · refine iteET (by rw [z2]; rfl) ?_
            tm_at "w"
            refine ⟨m7.now, fun vx H8 m8 hv => ?_⟩
            exact ⟨vx, rfl, m7.trans m8, hv 1⟩
          · refine iteEF (by rw [decide_eq_false (fun e => z2 (V.int.inj e))]) ?_
            tm_at "w"
            refine ⟨τ, _, rfl, m7.now, by omega, by omega, fun r2 H8 m8 _ _ => ?_⟩
            exact ⟨.int r2, rfl, m7.trans m8, .int 1 r2⟩
      rintro σ H7 ⟨vx, rfl, m7, tx7⟩
      tm_at "w"
      refine ⟨fun σ H' => ∃ (vy : V), σ = [some (.ref a), some (.ref τ.t), some (.int (0 + (i : Int))), some (.int (n : Int)), some (.ref sa), some vt, some vx, some vy, v8, v9, v10, v11] ∧ Mv τ H7 H' ∧ Th T.C_Book τ.t H' 1 vy, ?_, ?_⟩
      · tm_at "w"
        by_cases z0 : n = 0
        · refine iteET (by rw [z0]; rfl) ?_
          refine iteT ?_
          tm_at "w"
          refine ⟨m7.now, fun vx H7 m7 hv => ?_⟩
          exact ⟨vx, rfl, m7, hv 1⟩
        · refine iteEF (by rw [decide_eq_false (fun e => z0 (by have := V.int.inj e; omega))]) ?_
          tm_at "w"
          refine ⟨τ, _, rfl, m7.now, by decide, by decide, fun r H8 m8 g0 g1 => ?_⟩
          tm_at "w"
          by_cases z2 : r = 0
          · refine iteET (by rw [z2]; rfl) ?_
            tm_at "w"
            refine ⟨m8.now, fun vx H9 m9 hv => ?_⟩
            exact ⟨vx, rfl, m8.trans m9, hv 1⟩
          · refine iteEF (by rw [decide_eq_false (fun e => z2 (V.int.inj e))]) ?_
            tm_at "w"
            refine ⟨τ, _, rfl, m8.now, by omega, by omega, fun r2 H9 m9 _ _ => ?_⟩
            exact ⟨.int r2, rfl, m8.trans m9, .int 1 r2⟩
      rintro σ H8 ⟨vy, rfl, m8, ty8⟩
      have tp8 := m8.now
      have tt8 := (tt6.mv m7).mv m8
      have tx8 := tx7.mv m8
      tm_at "w"
      intro u0 nu0
      obtain ⟨J0, e0, s0, hu0⟩ := new_hide (Same.new (o := .lst [.str "let", .str "let", .str "let"]) (Same.refl H8) nu0)
      rw [e0]
      tm_at "w"
      have tt0 := tt8.same s0
      have tx0 := tx8.same s0
      have ty0 := ty8.same s0
      have tp0 := tp8.same s0
      refine ⟨fun σ H' => ∃ (d : Addr) (v9 v10 : Option V), σ = [some (.ref a), some (.ref τ.t), some (.int (0 + (i : Int))), some (.int (n : Int)), some (.ref sa), some vt, some vx, some vy, some (.ref d), v9, v10, v11] ∧ Same J0 H' ∧ H' d = some (.lst [.str (wordT J0 0 vt vx vy), .str (wordT J0 1 vt vx vy), .str (wordT J0 2 vt vx vy)]), ?_, ?_⟩
      · tm_at "w"
        refine ⟨vt, τ.t, rfl, kc, tt0, fun J1 s1 => ?_⟩
        cases eb : schB J0 vt with
        | false =>
          have ew : ∀ w, wordT J0 w vt vx vy = ("scheme" : Str) := fun w => by
            unfold wordT
            rw [eb]
            rfl
          tm_at "w"
          intro u1 nu1
          exact ⟨u1, v9, v10, rfl, Same.new s1 nu1, by rw [ew, ew, ew]; exact upd_same⟩
        | true =>
          obtain ⟨ta, S', rfl, hS', _, _⟩ := schB_of eb tt0
          obtain ⟨ws, hws, hwl, _⟩ := id hS'
          have el : lenB J0 (.ref ta) = ws.length := lenB_tup hws
          have lw : ws.length ≤ 1000 := by
            cases tt0 with
            | tup m a xs h1 h2 h3 h4 =>
              obtain rfl := HO.tup.inj (Option.some.inj (h2.symm.trans hws))
              exact h3
            | lst m a xs h1 h2 => rw [hws] at h2; cases h2
            | dK m a xs h1 h2 => rw [hws] at h2; cases h2
            | ins m a dx fs h1 h2 => rw [hws] at h2; cases h2
          tm_at "w"
          intro u1 nu1
          obtain ⟨J2, e2, s2, hu1⟩ := new_hide (Same.new (o := .lst [vx, vy]) (Same.refl J1) nu1)
          rw [e2]
          have s02 := Same.trans s1 s2
          tm_at "w"
          refine ⟨⟨_, SqL.of hu1⟩, fun E1 nE1 => lc_listF (fun i => ([vx, vy] : List V)[i]?.map fun x => V.bl (withinB x 0 ((ws.length : Int) - 1))) hu1 nE1 (by show 2 ≤ 100000; decide) ?_ ?_⟩
          · intro j x J3 N M hx s3 kN kM
            have s03 := Same.trans s02 s3
            have txx : Th T.C_Book τ.t J3 1 x := by
              rcases List.mem_cons.mp (List.mem_of_getElem? hx) with h | h
              · rw [h]; exact tx0.same s03
              · rw [List.mem_singleton.mp h]; exact ty0.same s03
            have hws3 := s03 _ _ hws
            tm_at "w"
            refine ⟨txx.intK kc, _, rfl, ?_⟩
            cases x with
            | int i4 =>
              refine iteT ?_
              tm_at "w"
              have e2 : withinB (.int i4) 0 ((ws.length : Int) - 1) = (decide (0 ≤ i4) && decide (i4 < (ws.length : Int))) := whole_in
              refine iteD (fun h1 => ?_) (fun h1 => ?_)
              · rw [decide_eq_true h1, Bool.true_and] at e2
                tm_at "w"
                exact kN _ _ (by rw [hx]; exact congrArg (fun b => some (V.bl b)) e2) (Same.refl J3)
              · rw [decide_eq_false h1, Bool.false_and] at e2
                exact kN _ _ (by rw [hx]; exact congrArg (fun b => some (V.bl b)) e2) (Same.refl J3)
            | _ =>
              refine iteF ?_
              exact kN _ _ (by rw [hx]; rfl) (Same.refl J3)
          intro J3 s3 hE1
          rw [range_items] at hE1
          have hE1 : J3 E1 = some (.lst [.bl (withinB vx 0 ((ws.length : Int) - 1)), .bl (withinB vy 0 ((ws.length : Int) - 1))]) := hE1
          have s03 := Same.trans s02 s3
          have w0 : wordT J0 0 (.ref ta) vx vy = (if withinB vx 0 ((ws.length : Int) - 1) = true then ("let" : Str) else ("kind" : Str)) := by
            unfold wordT
            rw [eb, if_pos rfl, if_pos rfl]
            unfold kinB
            rw [el, List.all_cons, List.all_nil, Bool.and_true]
          have w1 : ∀ w, w ≠ 0 → wordT J0 w (.ref ta) vx vy = (if (withinB vx 0 ((ws.length : Int) - 1) && withinB vy 0 ((ws.length : Int) - 1)) = true then ("let" : Str) else ("kind" : Str)) := fun w hw => by
            unfold wordT
            rw [eb, if_pos rfl, if_neg hw]
            unfold kinB
            rw [el, List.all_cons, List.all_cons, List.all_nil, Bool.and_true]
          rw [w0, w1 1 (by decide), w1 2 (by decide)]
          revert hE1
          generalize withinB vx 0 ((ws.length : Int) - 1) = c0
          generalize withinB vy 0 ((ws.length : Int) - 1) = c1
          intro hE1
          cases c0 with
          | true =>
            cases c1 with
            | true =>
              tm_at "w"
              intro u2 nu2
              obtain ⟨J4, e4, s4, hu2⟩ := new_hide (Same.new (o := .lst [.str "let"]) (Same.refl J3) nu2)
              rw [e4]
              have hE4 := s4 _ _ hE1
              tm_at "w"
              intro u3 nu3
              obtain ⟨J5, e5, s5, hu3⟩ := new_hide (Same.new (o := .lst [.str "let"]) (Same.refl J4) nu3)
              rw [e5]
              have hu2' := s5 _ _ hu2
              tm_at "w"
              refine ⟨u3, 2, [.str "let"], rfl, rfl, hu3, by decide, by decide, by decide, fun u4 nu4 => ?_⟩
              obtain ⟨J6, e6, s6, hu4⟩ := new_hide (Same.new (o := .lst [.str "let", .str "let"]) (Same.refl J5) nu4)
              have e6' : upd J5 u4 (.lst (List.replicate (2 : Int).toNat [V.str "let"]).flatten) = J6 := e6
              rw [e6']
              have hu2' := s6 _ _ hu2'
              tm_at "w"
              refine ⟨u2, u4, _, _, rfl, rfl, hu2', hu4, (by show 1 + 2 ≤ sizeLine; decide), fun u5 nu5 => ?_⟩
              exact ⟨u5, _, _, rfl, Same.new (Same.trans (Same.trans (Same.trans s03 s4) s5) s6) nu5, upd_same⟩
            | false =>
              tm_at "w"
              intro u2 nu2
              obtain ⟨J4, e4, s4, hu2⟩ := new_hide (Same.new (o := .lst [.str "let"]) (Same.refl J3) nu2)
              rw [e4]
              have hE4 := s4 _ _ hE1
              tm_at "w"
              intro u3 nu3
              obtain ⟨J5, e5, s5, hu3⟩ := new_hide (Same.new (o := .lst [.str "kind"]) (Same.refl J4) nu3)
              rw [e5]
              have hu2' := s5 _ _ hu2
              tm_at "w"
              refine ⟨u3, 2, [.str "kind"], rfl, rfl, hu3, by decide, by decide, by decide, fun u4 nu4 => ?_⟩
              obtain ⟨J6, e6, s6, hu4⟩ := new_hide (Same.new (o := .lst [.str "kind", .str "kind"]) (Same.refl J5) nu4)
              have e6' : upd J5 u4 (.lst (List.replicate (2 : Int).toNat [V.str "kind"]).flatten) = J6 := e6
              rw [e6']
              have hu2' := s6 _ _ hu2'
              tm_at "w"
              refine ⟨u2, u4, _, _, rfl, rfl, hu2', hu4, (by show 1 + 2 ≤ sizeLine; decide), fun u5 nu5 => ?_⟩
              exact ⟨u5, _, _, rfl, Same.new (Same.trans (Same.trans (Same.trans s03 s4) s5) s6) nu5, upd_same⟩
          | false =>
            cases c1 with
            | true =>
              tm_at "w"
              intro u2 nu2
              obtain ⟨J4, e4, s4, hu2⟩ := new_hide (Same.new (o := .lst [.str "kind"]) (Same.refl J3) nu2)
              rw [e4]
              have hE4 := s4 _ _ hE1
              tm_at "w"
              intro u3 nu3
              obtain ⟨J5, e5, s5, hu3⟩ := new_hide (Same.new (o := .lst [.str "kind"]) (Same.refl J4) nu3)
              rw [e5]
              have hu2' := s5 _ _ hu2
              tm_at "w"
              refine ⟨u3, 2, [.str "kind"], rfl, rfl, hu3, by decide, by decide, by decide, fun u4 nu4 => ?_⟩
              obtain ⟨J6, e6, s6, hu4⟩ := new_hide (Same.new (o := .lst [.str "kind", .str "kind"]) (Same.refl J5) nu4)
              have e6' : upd J5 u4 (.lst (List.replicate (2 : Int).toNat [V.str "kind"]).flatten) = J6 := e6
              rw [e6']
              have hu2' := s6 _ _ hu2'
              tm_at "w"
              refine ⟨u2, u4, _, _, rfl, rfl, hu2', hu4, (by show 1 + 2 ≤ sizeLine; decide), fun u5 nu5 => ?_⟩
              exact ⟨u5, _, _, rfl, Same.new (Same.trans (Same.trans (Same.trans s03 s4) s5) s6) nu5, upd_same⟩
            | false =>
              tm_at "w"
              intro u2 nu2
              obtain ⟨J4, e4, s4, hu2⟩ := new_hide (Same.new (o := .lst [.str "kind"]) (Same.refl J3) nu2)
              rw [e4]
              have hE4 := s4 _ _ hE1
              tm_at "w"
              intro u3 nu3
              obtain ⟨J5, e5, s5, hu3⟩ := new_hide (Same.new (o := .lst [.str "kind"]) (Same.refl J4) nu3)
              rw [e5]
              have hu2' := s5 _ _ hu2
              tm_at "w"
              refine ⟨u3, 2, [.str "kind"], rfl, rfl, hu3, by decide, by decide, by decide, fun u4 nu4 => ?_⟩
              obtain ⟨J6, e6, s6, hu4⟩ := new_hide (Same.new (o := .lst [.str "kind", .str "kind"]) (Same.refl J5) nu4)
              have e6' : upd J5 u4 (.lst (List.replicate (2 : Int).toNat [V.str "kind"]).flatten) = J6 := e6
              rw [e6']
              have hu2' := s6 _ _ hu2'
              tm_at "w"
              refine ⟨u2, u4, _, _, rfl, rfl, hu2', hu4, (by show 1 + 2 ≤ sizeLine; decide), fun u5 nu5 => ?_⟩
              exact ⟨u5, _, _, rfl, Same.new (Same.trans (Same.trans (Same.trans s03 s4) s5) s6) nu5, upd_same⟩
      rintro σ J1 ⟨d, v9, v10, rfl, s1, hd⟩
      have s01 := Same.trans s0 s1
      tm_at "w"
      intro E2 nE2
      refine lc_rangeF (fun w => some (.str (wordT J0 w vt vx vy))) nE2 (by decide) ?_ ?_
      · intro w J3 N M hw s3 kN kM
        have s03 := Same.trans s01 s3
        have s13 := Same.trans s1 s3
        tm_at "w"
        refine ⟨w, τ.t, vt, vx, vy, by rw [Int.zero_add]; rfl, kc, tt8.same s03, tx8.same s03, ty8.same s03, hw, fun J4 s4 => ?_⟩
        have e3 : wordT J3 w vt vx vy = wordT J0 w vt vx vy := by
          unfold wordT
          rw [schB_keep tt0 fun a o _ e => s13 a o e, kinB_keep tt0 fun a o _ e => s13 a o e]
        rw [e3]
        exact kN _ _ rfl s4
      intro J3 s3 hE2
      have hE2 : J3 E2 = some (.lst [.str (wordT J0 0 vt vx vy), .str (wordT J0 1 vt vx vy), .str (wordT J0 2 vt vx vy)]) := hE2
      have hd3 := s3 _ _ hd
      tm_at "w"
      refine ⟨.list [.str (wordT J0 0 vt vx vy), .str (wordT J0 1 vt vx vy), .str (wordT J0 2 vt vx vy)], .list [.str (wordT J0 0 vt vx vy), .str (wordT J0 1 vt vx vy), .str (wordT J0 2 vt vx vy)], .lst (SqL.of hE2) (.cons (.str _) (.cons (.str _) (.cons (.str _) .nil))), .lst (SqL.of hd3) (.cons (.str _) (.cons (.str _) (.cons (.str _) .nil))), shaped3 word_lay word_lay word_lay, shaped3 word_lay word_lay word_lay, ?_⟩
      rw [show PyData.eqv (.list [.str (wordT J0 0 vt vx vy), .str (wordT J0 1 vt vx vy), .str (wordT J0 2 vt vx vy)]) (.list [.str (wordT J0 0 vt vx vy), .str (wordT J0 1 vt vx vy), .str (wordT J0 2 vt vx vy)]) = true from SeqAt.eqv_refl _ (SeqAt.canLay_of_shaped (shaped3 word_lay word_lay word_lay))]
      tm_at "w"
      exact ⟨_, _, _, _, _, _, _, _, _, _, rfl, (tp8.same s01).same s3⟩
    · rintro σ H2 ⟨v2, v3, v4, v5, v6, v7, v8, v9, v10, v11, rfl, m2⟩
      tm_at "w"
      exact k _
end
theorem all_mk {l : PySem.W.OpenLaw} {w : World} {K : PySem.W.Frag} {h : Heap} {mg : Str → Option Value} {fa : Addr} (X : K.In h) (G : h.Ns mainGlobals mg) (hfa : mg "law" = some (.ref fa))
    {t_MOST_PARENTS : Tok}
    {t_MOST_KINDS : Tok}
    {C_Book : Addr}
    {C_NoKind fe_NoKind cc_NoKind cda_NoKind N_NoKind : Addr} {n0_NoKind q0_NoKind : Str} {bs_NoKind bm_NoKind sub_NoKind : List Value} {sn_NoKind : List Str} {ab_NoKind : Bool} {col_NoKind : Option Bool} {dd_NoKind cld_NoKind cdd_NoKind od_NoKind an_NoKind : Option Addr} {k0_NoKind k1_NoKind k2_NoKind k3_NoKind k5_NoKind : Option Value} {cl_NoKind ccl_NoKind oc_NoKind kV_NoKind doc_NoKind pm_NoKind ctv_NoKind : Value} {csl_NoKind ccs_NoKind osl_NoKind : Array (Option Value)} {vs_NoKind : Array Value} {file_NoKind : Str} {tf_NoKind : Tok}
    {C_NoScheme fe_NoScheme cc_NoScheme cda_NoScheme N_NoScheme : Addr} {n0_NoScheme q0_NoScheme : Str} {bs_NoScheme bm_NoScheme sub_NoScheme : List Value} {sn_NoScheme : List Str} {ab_NoScheme : Bool} {col_NoScheme : Option Bool} {dd_NoScheme cld_NoScheme cdd_NoScheme od_NoScheme an_NoScheme : Option Addr} {k0_NoScheme k1_NoScheme k2_NoScheme k3_NoScheme k5_NoScheme : Option Value} {cl_NoScheme ccl_NoScheme oc_NoScheme kV_NoScheme doc_NoScheme pm_NoScheme ctv_NoScheme : Value} {csl_NoScheme ccs_NoScheme osl_NoScheme : Array (Option Value)} {vs_NoScheme : Array Value} {file_NoScheme : Str} {tf_NoScheme : Tok}
    {C_KindError : Addr}
    {od0 an0 : Option Addr} {sl0 : Array (Option Value)} {oc0 kV0 dc0 pm0 cd0 ct0 : Value} {f0 : Addr}
    {od1 an1 : Option Addr} {sl1 : Array (Option Value)} {oc1 kV1 dc1 pm1 cd1 ct1 : Value} {f1 : Addr}
    {od2 an2 : Option Addr} {sl2 : Array (Option Value)} {oc2 kV2 dc2 pm2 cd2 ct2 : Value} {f2 : Addr}
    {od3 an3 : Option Addr} {sl3 : Array (Option Value)} {oc3 kV3 dc3 pm3 cd3 ct3 : Value} {f3 : Addr}
    {od4 an4 : Option Addr} {sl4 : Array (Option Value)} {oc4 kV4 dc4 pm4 cd4 ct4 : Value} {f4 : Addr}
    {od5 an5 : Option Addr} {sl5 : Array (Option Value)} {oc5 kV5 dc5 pm5 cd5 ct5 : Value} {f5 : Addr}
    {od6 an6 : Option Addr} {sl6 : Array (Option Value)} {oc6 kV6 dc6 pm6 cd6 ct6 : Value} {f6 : Addr}
    {od7 an7 : Option Addr} {sl7 : Array (Option Value)} {oc7 kV7 dc7 pm7 cd7 ct7 : Value} {f7 : Addr}
    {od8 an8 : Option Addr} {sl8 : Array (Option Value)} {oc8 kV8 dc8 pm8 cd8 ct8 : Value} {f8 : Addr}
    {od9 an9 : Option Addr} {sl9 : Array (Option Value)} {oc9 kV9 dc9 pm9 cd9 ct9 : Value} {f9 : Addr}
    {od10 an10 : Option Addr} {sl10 : Array (Option Value)} {oc10 kV10 dc10 pm10 cd10 ct10 : Value} {f10 : Addr}
    {od11 an11 : Option Addr} {sl11 : Array (Option Value)} {oc11 kV11 dc11 pm11 cd11 ct11 : Value} {f11 : Addr}
    {od12 an12 : Option Addr} {sl12 : Array (Option Value)} {oc12 kV12 dc12 pm12 cd12 ct12 : Value} {f12 : Addr}
    {od13 an13 : Option Addr} {sl13 : Array (Option Value)} {oc13 kV13 dc13 pm13 cd13 ct13 : Value} {f13 : Addr}
    {od14 an14 : Option Addr} {sl14 : Array (Option Value)} {oc14 kV14 dc14 pm14 cd14 ct14 : Value} {f14 : Addr}
    {od15 an15 : Option Addr} {sl15 : Array (Option Value)} {oc15 kV15 dc15 pm15 cd15 ct15 : Value} {f15 : Addr}
    {od16 an16 : Option Addr} {sl16 : Array (Option Value)} {oc16 kV16 dc16 pm16 cd16 ct16 : Value} {f16 : Addr}
    {od17 an17 : Option Addr} {sl17 : Array (Option Value)} {oc17 kV17 dc17 pm17 cd17 ct17 : Value} {f17 : Addr}
    {od18 an18 : Option Addr} {sl18 : Array (Option Value)} {oc18 kV18 dc18 pm18 cd18 ct18 : Value} {f18 : Addr}
    {od19 an19 : Option Addr} {sl19 : Array (Option Value)} {oc19 kV19 dc19 pm19 cd19 ct19 : Value} {f19 : Addr}
    {od20 an20 : Option Addr} {sl20 : Array (Option Value)} {oc20 kV20 dc20 pm20 cd20 ct20 : Value} {f20 : Addr}
    {od21 an21 : Option Addr} {sl21 : Array (Option Value)} {oc21 kV21 dc21 pm21 cd21 ct21 : Value} {f21 : Addr}
    {od22 an22 : Option Addr} {sl22 : Array (Option Value)} {oc22 kV22 dc22 pm22 cd22 ct22 : Value} {f22 : Addr}
    {od23 an23 : Option Addr} {sl23 : Array (Option Value)} {oc23 kV23 dc23 pm23 cd23 ct23 : Value} {f23 : Addr}
    {od24 an24 : Option Addr} {sl24 : Array (Option Value)} {oc24 kV24 dc24 pm24 cd24 ct24 : Value} {f24 : Addr}
    {od25 an25 : Option Addr} {sl25 : Array (Option Value)} {oc25 kV25 dc25 pm25 cd25 ct25 : Value} {f25 : Addr}
    {od26 an26 : Option Addr} {sl26 : Array (Option Value)} {oc26 kV26 dc26 pm26 cd26 ct26 : Value} {f26 : Addr}
    {od27 an27 : Option Addr} {sl27 : Array (Option Value)} {oc27 kV27 dc27 pm27 cd27 ct27 : Value} {f27 : Addr}
    {od28 an28 : Option Addr} {sl28 : Array (Option Value)} {oc28 kV28 dc28 pm28 cd28 ct28 : Value} {f28 : Addr}
    {od29 an29 : Option Addr} {sl29 : Array (Option Value)} {oc29 kV29 dc29 pm29 cd29 ct29 : Value} {f29 : Addr}
    {od30 an30 : Option Addr} {sl30 : Array (Option Value)} {oc30 kV30 dc30 pm30 cd30 ct30 : Value} {f30 : Addr}
    (gk_KindError : PySem.W.nsIn K mainGlobals "KindError" = some (some (.ref C_KindError)))
    (op_X : PySem.W.nsIn K cStatics "thirdparty.any" = some none) (tp_X : (l.prog.main.scope.names.lookup ("super" : Str)).isSome = false) (hn_X : PySem.W.specialIn K (.builtin "object.__class__") "__get__" = some (some (.builtin "getset_descriptor.__get__"))) (ht_X : PySem.W.takesIn K (.builtin "object.__class__") = some true) (ns_X : PySem.W.nsIn K mainGlobals "super" = some none)
    (gc_NoScheme : PySem.W.nsIn K mainGlobals "NoScheme" = some (some (.ref C_NoScheme)))
    (lc_NoScheme : K.lookup C_NoScheme = some (excClassObj n0_NoScheme q0_NoScheme C_NoScheme N_NoScheme bs_NoScheme bm_NoScheme true sn_NoScheme sub_NoScheme ab_NoScheme col_NoScheme dd_NoScheme k0_NoScheme k1_NoScheme k2_NoScheme k3_NoScheme k5_NoScheme "ValueError.__new__"))
    (rv_NoScheme : PySem.HandSPX.refsVE bm_NoScheme = true)
    (sa_NoScheme : PySem.W.findIn K (.ref C_NoScheme) "__setattr__" = some (some (.builtin "object.__setattr__")))
    (ex_NoScheme : PySem.W.subIn K (.ref C_NoScheme) (.type "BaseException") = some true)
    (ty_NoScheme : PySem.W.typeIn K (.ref C_NoScheme) = some (.type "type"))
    (kp_NoScheme : PySem.W.keepIn K (.ref C_NoScheme) = true)
    (su_NoScheme : PySem.W.ks_superIn K C_NoScheme C_NoScheme "__init__" = some (some (.builtin "ValueError.__init__")))
    (sv_NoScheme : PySem.W.subIn K (.ref C_NoScheme) (.type "ValueError") = some true)
    (mr_NoScheme : PySem.W.mroIn K C_NoScheme (.ref C_NoScheme) = some true)
    (a_NoScheme : PySem.W.findIn K (.ref C_NoScheme) "__init__" = some (some (.ref fe_NoScheme)))
    (t_NoScheme : PySem.W.typeIn K (.ref fe_NoScheme) = some (.type "function"))
    (lf_NoScheme : K.lookup fe_NoScheme = some ⟨oc_NoScheme, od_NoScheme, .func (PySem.W.fnX "__init__" "NoScheme.__init__" (defArgs s_NoScheme___init__) (defBody s_NoScheme___init__) (defScope s_NoScheme___init__) [(("__class__" : Str), cc_NoScheme)] .none kV_NoScheme doc_NoScheme pm_NoScheme an_NoScheme (.ref cda_NoScheme) ctv_NoScheme), osl_NoScheme⟩)
    (cd_NoScheme : PySem.W.codeIn K (.ref cda_NoScheme) "NoScheme.__init__" = true)
    (ce_NoScheme : K.lookup cc_NoScheme = some ⟨cl_NoScheme, cld_NoScheme, .cell (some (.ref C_NoScheme)), csl_NoScheme⟩)
    (co_NoScheme : K.lookup cda_NoScheme = some ⟨ccl_NoScheme, cdd_NoScheme, .fields vs_NoScheme, ccs_NoScheme⟩)
    (vf_NoScheme : vs_NoScheme[2]? = some (.str file_NoScheme tf_NoScheme))
    (ff_NoScheme : ((l.prog.main.file : Str) == file_NoScheme) = true)
    (ga_NoScheme : PySem.W.findIn K (.ref C_NoScheme) "__getattribute__" = some (some (.builtin "BaseException.__getattribute__")))
    (gk_NoScheme : PySem.W.findIn K (.ref C_NoScheme) "__getattr__" = some none)
    (hd_NoScheme : PySem.W.hasDictIn K C_NoScheme = true)
    (ha_NoScheme : PySem.W.findIn K (.ref C_NoScheme) "__class__" = some (some (.builtin "object.__class__")))
    (hm_NoScheme : PySem.W.mroIn K C_NoScheme (.type "object") = some true)
    (gc_NoKind : PySem.W.nsIn K mainGlobals "NoKind" = some (some (.ref C_NoKind)))
    (lc_NoKind : K.lookup C_NoKind = some (excClassObj n0_NoKind q0_NoKind C_NoKind N_NoKind bs_NoKind bm_NoKind true sn_NoKind sub_NoKind ab_NoKind col_NoKind dd_NoKind k0_NoKind k1_NoKind k2_NoKind k3_NoKind k5_NoKind "ValueError.__new__"))
    (rv_NoKind : PySem.HandSPX.refsVE bm_NoKind = true)
    (sa_NoKind : PySem.W.findIn K (.ref C_NoKind) "__setattr__" = some (some (.builtin "object.__setattr__")))
    (ex_NoKind : PySem.W.subIn K (.ref C_NoKind) (.type "BaseException") = some true)
    (ty_NoKind : PySem.W.typeIn K (.ref C_NoKind) = some (.type "type"))
    (kp_NoKind : PySem.W.keepIn K (.ref C_NoKind) = true)
    (su_NoKind : PySem.W.ks_superIn K C_NoKind C_NoKind "__init__" = some (some (.builtin "ValueError.__init__")))
    (sv_NoKind : PySem.W.subIn K (.ref C_NoKind) (.type "ValueError") = some true)
    (mr_NoKind : PySem.W.mroIn K C_NoKind (.ref C_NoKind) = some true)
    (a_NoKind : PySem.W.findIn K (.ref C_NoKind) "__init__" = some (some (.ref fe_NoKind)))
    (t_NoKind : PySem.W.typeIn K (.ref fe_NoKind) = some (.type "function"))
    (lf_NoKind : K.lookup fe_NoKind = some ⟨oc_NoKind, od_NoKind, .func (PySem.W.fnX "__init__" "NoKind.__init__" (defArgs s_NoKind___init__) (defBody s_NoKind___init__) (defScope s_NoKind___init__) [(("__class__" : Str), cc_NoKind)] .none kV_NoKind doc_NoKind pm_NoKind an_NoKind (.ref cda_NoKind) ctv_NoKind), osl_NoKind⟩)
    (cd_NoKind : PySem.W.codeIn K (.ref cda_NoKind) "NoKind.__init__" = true)
    (ce_NoKind : K.lookup cc_NoKind = some ⟨cl_NoKind, cld_NoKind, .cell (some (.ref C_NoKind)), csl_NoKind⟩)
    (co_NoKind : K.lookup cda_NoKind = some ⟨ccl_NoKind, cdd_NoKind, .fields vs_NoKind, ccs_NoKind⟩)
    (vf_NoKind : vs_NoKind[2]? = some (.str file_NoKind tf_NoKind))
    (ff_NoKind : ((l.prog.main.file : Str) == file_NoKind) = true)
    (ga_NoKind : PySem.W.findIn K (.ref C_NoKind) "__getattribute__" = some (some (.builtin "BaseException.__getattribute__")))
    (gk_NoKind : PySem.W.findIn K (.ref C_NoKind) "__getattr__" = some none)
    (hd_NoKind : PySem.W.hasDictIn K C_NoKind = true)
    (ha_NoKind : PySem.W.findIn K (.ref C_NoKind) "__class__" = some (some (.builtin "object.__class__")))
    (hm_NoKind : PySem.W.mroIn K C_NoKind (.type "object") = some true)
    (xm_NoScheme_KindError : PySem.W.exmOne K (.ref C_NoScheme) (.ref C_KindError) = some true)
    (xm_NoKind_KindError : PySem.W.exmOne K (.ref C_NoKind) (.ref C_KindError) = some true)
    (kt_NoScheme_NoScheme : PySem.W.kitOne K (.ref C_NoScheme) (.ref C_NoScheme) = some true)
    (kt_NoScheme_NoKind : PySem.W.kitOne K (.ref C_NoScheme) (.ref C_NoKind) = some false)
    (kt_NoKind_NoScheme : PySem.W.kitOne K (.ref C_NoKind) (.ref C_NoScheme) = some false)
    (kt_NoKind_NoKind : PySem.W.kitOne K (.ref C_NoKind) (.ref C_NoKind) = some true)
    (kt_NoScheme_ValueError : PySem.W.kitOne K (.ref C_NoScheme) (.type "ValueError") = some true)
    (kt_NoKind_ValueError : PySem.W.kitOne K (.ref C_NoKind) (.type "ValueError") = some true)
    (gc_Book : PySem.W.nsIn K mainGlobals "Book" = some (some (.ref C_Book))) (pg_Book : PySem.W.plainGet K C_Book Str.empty = true) (hd_Book : PySem.W.hasDictIn K C_Book = true) (po_Book : PySem.W.plainOver K C_Book = true) (sa_Book : PySem.W.findIn K (.ref C_Book) "__setattr__" = some (some (.builtin "object.__setattr__"))) (mk_Book : PySem.W.makesIn K C_Book = true) (kc_Book : PySem.W.keepIn K (.ref C_Book) = true) (ta_Book : PySem.W.findIn K (.ref C_Book) "__class__" = some (some (.builtin "object.__class__"))) (tn_Book : PySem.W.specialIn K (.builtin "object.__class__") "__get__" = some (some (.builtin "getset_descriptor.__get__"))) (tt_Book : PySem.W.takesIn K (.builtin "object.__class__") = some true) (tm_Book : PySem.W.mroIn K C_Book (.type "object") = some true)
    (n_Book_parents : PySem.W.findIn K (.ref C_Book) "parents" = some none)
    (n_Book_bits : PySem.W.findIn K (.ref C_Book) "bits" = some none)
    (kt_Book_int : PySem.W.kitOne K (.ref C_Book) (.type "int") = some false)
    (kt_Book_bool : PySem.W.kitOne K (.ref C_Book) (.type "bool") = some false)
    (kt_Book_tuple : PySem.W.kitOne K (.ref C_Book) (.type "tuple") = some false)
    (kt_Book_list : PySem.W.kitOne K (.ref C_Book) (.type "list") = some false)
    (k_MOST_KINDS : PySem.W.nsIn K mainGlobals "MOST_KINDS" = some (some (.int 400 t_MOST_KINDS)))
    (k_MOST_PARENTS : PySem.W.nsIn K mainGlobals "MOST_PARENTS" = some (some (.int 6 t_MOST_PARENTS)))
    (a0 : PySem.W.nsIn K mainGlobals "is_integer" = some (some (.ref f0)))
    (l0 : K.lookup f0 = some ⟨oc0, od0, .func (PySem.W.fnOf "is_integer" "is_integer" (defArgs s_is_integer) (defBody s_is_integer) (defScope s_is_integer) .none kV0 dc0 pm0 an0 cd0 ct0), sl0⟩) (c0 : PySem.W.codeIn K cd0 "is_integer" = true) (k0 : PySem.W.keepIn K (.ref f0) = true)
    (a1 : PySem.W.nsIn K mainGlobals "is_within" = some (some (.ref f1)))
    (l1 : K.lookup f1 = some ⟨oc1, od1, .func (PySem.W.fnOf "is_within" "is_within" (defArgs s_is_within) (defBody s_is_within) (defScope s_is_within) .none kV1 dc1 pm1 an1 cd1 ct1), sl1⟩) (c1 : PySem.W.codeIn K cd1 "is_within" = true) (k1 : PySem.W.keepIn K (.ref f1) = true)
    (a2 : PySem.W.nsIn K mainGlobals "is_lot" = some (some (.ref f2)))
    (l2 : K.lookup f2 = some ⟨oc2, od2, .func (PySem.W.fnOf "is_lot" "is_lot" (defArgs s_is_lot) (defBody s_is_lot) (defScope s_is_lot) .none kV2 dc2 pm2 an2 cd2 ct2), sl2⟩) (c2 : PySem.W.codeIn K cd2 "is_lot" = true) (k2 : PySem.W.keepIn K (.ref f2) = true)
    (a3 : PySem.W.nsIn K mainGlobals "are_parents" = some (some (.ref f3)))
    (l3 : K.lookup f3 = some ⟨oc3, od3, .func (PySem.W.fnOf "are_parents" "are_parents" (defArgs s_are_parents) (defBody s_are_parents) (defScope s_are_parents) .none kV3 dc3 pm3 an3 cd3 ct3), sl3⟩) (c3 : PySem.W.codeIn K cd3 "are_parents" = true) (k3 : PySem.W.keepIn K (.ref f3) = true)
    (a4 : PySem.W.findIn K (.ref C_Book) "fill" = some (some (.ref f4))) (i4 : PySem.W.isFn K (.ref f4) = true)
    (l4 : K.lookup f4 = some ⟨oc4, od4, .func (PySem.W.fnOf "fill" "Book.fill" (defArgs s_Book_fill) (defBody s_Book_fill) (defScope s_Book_fill) .none kV4 dc4 pm4 an4 cd4 ct4), sl4⟩) (c4 : PySem.W.codeIn K cd4 "Book.fill" = true) (k4 : PySem.W.keepIn K (.ref f4) = true)
    (a5 : PySem.W.findIn K (.ref C_Book) "__init__" = some (some (.ref f5))) (i5 : PySem.W.isFn K (.ref f5) = true)
    (l5 : K.lookup f5 = some ⟨oc5, od5, .func (PySem.W.fnOf "__init__" "Book.__init__" (defArgs s_Book___init__) (defBody s_Book___init__) (defScope s_Book___init__) .none kV5 dc5 pm5 an5 cd5 ct5), sl5⟩) (c5 : PySem.W.codeIn K cd5 "Book.__init__" = true) (k5 : PySem.W.keepIn K (.ref f5) = true)
    (a6 : PySem.W.nsIn K mainGlobals "is_triple" = some (some (.ref f6)))
    (l6 : K.lookup f6 = some ⟨oc6, od6, .func (PySem.W.fnOf "is_triple" "is_triple" (defArgs s_is_triple) (defBody s_is_triple) (defScope s_is_triple) .none kV6 dc6 pm6 an6 cd6 ct6), sl6⟩) (c6 : PySem.W.codeIn K cd6 "is_triple" = true) (k6 : PySem.W.keepIn K (.ref f6) = true)
    (a7 : PySem.W.nsIn K mainGlobals "check_kind_of" = some (some (.ref f7)))
    (l7 : K.lookup f7 = some ⟨oc7, od7, .func (PySem.W.fnOf "check_kind_of" "check_kind_of" (defArgs s_check_kind_of) (defBody s_check_kind_of) (defScope s_check_kind_of) .none kV7 dc7 pm7 an7 cd7 ct7), sl7⟩) (c7 : PySem.W.codeIn K cd7 "check_kind_of" = true) (k7 : PySem.W.keepIn K (.ref f7) = true)
    (a8 : PySem.W.nsIn K mainGlobals "is_given" = some (some (.ref f8)))
    (l8 : K.lookup f8 = some ⟨oc8, od8, .func (PySem.W.fnOf "is_given" "is_given" (defArgs s_is_given) (defBody s_is_given) (defScope s_is_given) .none kV8 dc8 pm8 an8 cd8 ct8), sl8⟩) (c8 : PySem.W.codeIn K cd8 "is_given" = true) (k8 : PySem.W.keepIn K (.ref f8) = true)
    (a9 : PySem.W.nsIn K mainGlobals "has_form" = some (some (.ref f9)))
    (l9 : K.lookup f9 = some ⟨oc9, od9, .func (PySem.W.fnOf "has_form" "has_form" (defArgs s_has_form) (defBody s_has_form) (defScope s_has_form) .none kV9 dc9 pm9 an9 cd9 ct9), sl9⟩) (c9 : PySem.W.codeIn K cd9 "has_form" = true) (k9 : PySem.W.keepIn K (.ref f9) = true)
    (a10 : PySem.W.nsIn K mainGlobals "check_scheme" = some (some (.ref f10)))
    (l10 : K.lookup f10 = some ⟨oc10, od10, .func (PySem.W.fnOf "check_scheme" "check_scheme" (defArgs s_check_scheme) (defBody s_check_scheme) (defScope s_check_scheme) .none kV10 dc10 pm10 an10 cd10 ct10), sl10⟩) (c10 : PySem.W.codeIn K cd10 "check_scheme" = true) (k10 : PySem.W.keepIn K (.ref f10) = true)
    (a11 : PySem.W.nsIn K mainGlobals "told" = some (some (.ref f11)))
    (l11 : K.lookup f11 = some ⟨oc11, od11, .func (PySem.W.fnOf "told" "told" (defArgs s_told) (defBody s_told) (defScope s_told) .none kV11 dc11 pm11 an11 cd11 ct11), sl11⟩) (c11 : PySem.W.codeIn K cd11 "told" = true) (k11 : PySem.W.keepIn K (.ref f11) = true)
    (a12 : PySem.W.nsIn K mainGlobals "check_kinds" = some (some (.ref f12)))
    (l12 : K.lookup f12 = some ⟨oc12, od12, .func (PySem.W.fnOf "check_kinds" "check_kinds" (defArgs s_check_kinds) (defBody s_check_kinds) (defScope s_check_kinds) .none kV12 dc12 pm12 an12 cd12 ct12), sl12⟩) (c12 : PySem.W.codeIn K cd12 "check_kinds" = true) (k12 : PySem.W.keepIn K (.ref f12) = true)
    (a13 : PySem.W.nsIn K mainGlobals "told_lot" = some (some (.ref f13)))
    (l13 : K.lookup f13 = some ⟨oc13, od13, .func (PySem.W.fnOf "told_lot" "told_lot" (defArgs s_told_lot) (defBody s_told_lot) (defScope s_told_lot) .none kV13 dc13 pm13 an13 cd13 ct13), sl13⟩) (c13 : PySem.W.codeIn K cd13 "told_lot" = true) (k13 : PySem.W.keepIn K (.ref f13) = true)
    (a14 : PySem.W.nsIn K mainGlobals "lot_of" = some (some (.ref f14)))
    (l14 : K.lookup f14 = some ⟨oc14, od14, .func (PySem.W.fnOf "lot_of" "lot_of" (defArgs s_lot_of) (defBody s_lot_of) (defScope s_lot_of) .none kV14 dc14 pm14 an14 cd14 ct14), sl14⟩) (c14 : PySem.W.codeIn K cd14 "lot_of" = true) (k14 : PySem.W.keepIn K (.ref f14) = true)
    (a15 : PySem.W.nsIn K mainGlobals "common" = some (some (.ref f15)))
    (l15 : K.lookup f15 = some ⟨oc15, od15, .func (PySem.W.fnOf "common" "common" (defArgs s_common) (defBody s_common) (defScope s_common) .none kV15 dc15 pm15 an15 cd15 ct15), sl15⟩) (c15 : PySem.W.codeIn K cd15 "common" = true) (k15 : PySem.W.keepIn K (.ref f15) = true)
    (a16 : PySem.W.nsIn K mainGlobals "meet" = some (some (.ref f16)))
    (l16 : K.lookup f16 = some ⟨oc16, od16, .func (PySem.W.fnOf "meet" "meet" (defArgs s_meet) (defBody s_meet) (defScope s_meet) .none kV16 dc16 pm16 an16 cd16 ct16), sl16⟩) (c16 : PySem.W.codeIn K cd16 "meet" = true) (k16 : PySem.W.keepIn K (.ref f16) = true)
    (a17 : PySem.W.nsIn K mainGlobals "_law_hand" = some (some (.ref f17)))
    (l17 : K.lookup f17 = some ⟨oc17, od17, .func (PySem.W.fnOf "_law_hand" "_law_hand" (defArgs s__law_hand) (defBody s__law_hand) (defScope s__law_hand) .none kV17 dc17 pm17 an17 cd17 ct17), sl17⟩) (c17 : PySem.W.codeIn K cd17 "_law_hand" = true) (k17 : PySem.W.keepIn K (.ref f17) = true)
    (a18 : PySem.W.nsIn K mainGlobals "_law_draw" = some (some (.ref f18)))
    (l18 : K.lookup f18 = some ⟨oc18, od18, .func (PySem.W.fnOf "_law_draw" "_law_draw" (defArgs s__law_draw) (defBody s__law_draw) (defScope s__law_draw) .none kV18 dc18 pm18 an18 cd18 ct18), sl18⟩) (c18 : PySem.W.codeIn K cd18 "_law_draw" = true) (k18 : PySem.W.keepIn K (.ref f18) = true)
    (a19 : PySem.W.nsIn K mainGlobals "_law_deep" = some (some (.ref f19)))
    (l19 : K.lookup f19 = some ⟨oc19, od19, .func (PySem.W.fnOf "_law_deep" "_law_deep" (defArgs s__law_deep) (defBody s__law_deep) (defScope s__law_deep) .none kV19 dc19 pm19 an19 cd19 ct19), sl19⟩) (c19 : PySem.W.codeIn K cd19 "_law_deep" = true) (k19 : PySem.W.keepIn K (.ref f19) = true)
    (a20 : PySem.W.nsIn K mainGlobals "_law_word" = some (some (.ref f20)))
    (l20 : K.lookup f20 = some ⟨oc20, od20, .func (PySem.W.fnOf "_law_word" "_law_word" (defArgs s__law_word) (defBody s__law_word) (defScope s__law_word) .none kV20 dc20 pm20 an20 cd20 ct20), sl20⟩) (c20 : PySem.W.codeIn K cd20 "_law_word" = true) (k20 : PySem.W.keepIn K (.ref f20) = true)
    (a21 : PySem.W.nsIn K mainGlobals "_law_is_whole" = some (some (.ref f21)))
    (l21 : K.lookup f21 = some ⟨oc21, od21, .func (PySem.W.fnOf "_law_is_whole" "_law_is_whole" (defArgs s__law_is_whole) (defBody s__law_is_whole) (defScope s__law_is_whole) .none kV21 dc21 pm21 an21 cd21 ct21), sl21⟩) (c21 : PySem.W.codeIn K cd21 "_law_is_whole" = true) (k21 : PySem.W.keepIn K (.ref f21) = true)
    (a22 : PySem.W.nsIn K mainGlobals "_law_has_form" = some (some (.ref f22)))
    (l22 : K.lookup f22 = some ⟨oc22, od22, .func (PySem.W.fnOf "_law_has_form" "_law_has_form" (defArgs s__law_has_form) (defBody s__law_has_form) (defScope s__law_has_form) .none kV22 dc22 pm22 an22 cd22 ct22), sl22⟩) (c22 : PySem.W.codeIn K cd22 "_law_has_form" = true) (k22 : PySem.W.keepIn K (.ref f22) = true)
    (a23 : PySem.W.nsIn K mainGlobals "_law_odd" = some (some (.ref f23)))
    (l23 : K.lookup f23 = some ⟨oc23, od23, .func (PySem.W.fnOf "_law_odd" "_law_odd" (defArgs s__law_odd) (defBody s__law_odd) (defScope s__law_odd) .none kV23 dc23 pm23 an23 cd23 ct23), sl23⟩) (c23 : PySem.W.codeIn K cd23 "_law_odd" = true) (k23 : PySem.W.keepIn K (.ref f23) = true)
    (a24 : PySem.W.nsIn K mainGlobals "_law_parents" = some (some (.ref f24)))
    (l24 : K.lookup f24 = some ⟨oc24, od24, .func (PySem.W.fnOf "_law_parents" "_law_parents" (defArgs s__law_parents) (defBody s__law_parents) (defScope s__law_parents) .none kV24 dc24 pm24 an24 cd24 ct24), sl24⟩) (c24 : PySem.W.codeIn K cd24 "_law_parents" = true) (k24 : PySem.W.keepIn K (.ref f24) = true)
    (a25 : PySem.W.nsIn K mainGlobals "_law_any_scheme" = some (some (.ref f25)))
    (l25 : K.lookup f25 = some ⟨oc25, od25, .func (PySem.W.fnOf "_law_any_scheme" "_law_any_scheme" (defArgs s__law_any_scheme) (defBody s__law_any_scheme) (defScope s__law_any_scheme) .none kV25 dc25 pm25 an25 cd25 ct25), sl25⟩) (c25 : PySem.W.codeIn K cd25 "_law_any_scheme" = true) (k25 : PySem.W.keepIn K (.ref f25) = true)
    (a26 : PySem.W.nsIn K mainGlobals "_law_sheet" = some (some (.ref f26)))
    (l26 : K.lookup f26 = some ⟨oc26, od26, .func (PySem.W.fnOf "_law_sheet" "_law_sheet" (defArgs s__law_sheet) (defBody s__law_sheet) (defScope s__law_sheet) .none kV26 dc26 pm26 an26 cd26 ct26), sl26⟩) (c26 : PySem.W.codeIn K cd26 "_law_sheet" = true) (k26 : PySem.W.keepIn K (.ref f26) = true)
    (a27 : PySem.W.nsIn K mainGlobals "_law_dealt" = some (some (.ref f27)))
    (l27 : K.lookup f27 = some ⟨oc27, od27, .func (PySem.W.fnOf "_law_dealt" "_law_dealt" (defArgs s__law_dealt) (defBody s__law_dealt) (defScope s__law_dealt) .none kV27 dc27 pm27 an27 cd27 ct27), sl27⟩) (c27 : PySem.W.codeIn K cd27 "_law_dealt" = true) (k27 : PySem.W.keepIn K (.ref f27) = true)
    (a28 : PySem.W.nsIn K mainGlobals "_law_right_scheme" = some (some (.ref f28)))
    (l28 : K.lookup f28 = some ⟨oc28, od28, .func (PySem.W.fnOf "_law_right_scheme" "_law_right_scheme" (defArgs s__law_right_scheme) (defBody s__law_right_scheme) (defScope s__law_right_scheme) .none kV28 dc28 pm28 an28 cd28 ct28), sl28⟩) (c28 : PySem.W.codeIn K cd28 "_law_right_scheme" = true) (k28 : PySem.W.keepIn K (.ref f28) = true)
    (a29 : PySem.W.nsIn K mainGlobals "_law_bent" = some (some (.ref f29)))
    (l29 : K.lookup f29 = some ⟨oc29, od29, .func (PySem.W.fnOf "_law_bent" "_law_bent" (defArgs s__law_bent) (defBody s__law_bent) (defScope s__law_bent) .none kV29 dc29 pm29 an29 cd29 ct29), sl29⟩) (c29 : PySem.W.codeIn K cd29 "_law_bent" = true) (k29 : PySem.W.keepIn K (.ref f29) = true)
    (a30 : PySem.W.nsIn K mainGlobals "law" = some (some (.ref f30)))
    (l30 : K.lookup f30 = some ⟨oc30, od30, .func (PySem.W.fnOf "law" "law" (defArgs s_law) (defBody s_law) (defScope s_law) .none kV30 dc30 pm30 an30 cd30 ct30), sl30⟩) (c30 : PySem.W.codeIn K cd30 "law" = true) (k30 : PySem.W.keepIn K (.ref f30) = true)
    (z_ValueError : PySem.W.nsIn K mainGlobals "ValueError" = some none)
    (z_abs : PySem.W.nsIn K mainGlobals "abs" = some none)
    (z_all : PySem.W.nsIn K mainGlobals "all" = some none)
    (z_bool : PySem.W.nsIn K mainGlobals "bool" = some none)
    (z_enumerate : PySem.W.nsIn K mainGlobals "enumerate" = some none)
    (z_int : PySem.W.nsIn K mainGlobals "int" = some none)
    (z_isinstance : PySem.W.nsIn K mainGlobals "isinstance" = some none)
    (z_len : PySem.W.nsIn K mainGlobals "len" = some none)
    (z_list : PySem.W.nsIn K mainGlobals "list" = some none)
    (z_min : PySem.W.nsIn K mainGlobals "min" = some none)
    (z_range : PySem.W.nsIn K mainGlobals "range" = some none)
    (z_set : PySem.W.nsIn K mainGlobals "set" = some none)
    (z_sorted : PySem.W.nsIn K mainGlobals "sorted" = some none)
    (z_tuple : PySem.W.nsIn K mainGlobals "tuple" = some none)
    (z_zip : PySem.W.nsIn K mainGlobals "zip" = some none) :
    ∃ fd : FuncData, (∀ (s : Shared) (v : Value), BindsTo s fd ⟨[v], []⟩ [("_law_script", v)]) ∧ ∀ base : Heap, K.In base → base.Ns mainGlobals mg → FnOk l.prog w K mg base CX0 9 fa fd ["_law_script"] (sp_law K) := by
  have e := hfa.symm.trans (PySem.W.mg_of X G a30)
  cases e
  exact ⟨_, fun s v => .of_eq rfl, fun base _ _ => ok_law {
    C_KindError := C_KindError, g_KindError := PySem.W.mg_of X G gk_KindError,
    C_NoScheme := C_NoScheme, f_NoScheme___init__ := fe_NoScheme, fd_NoScheme___init__ := _, er_NoScheme := err_mk (PySem.W.mg_of X G gc_NoScheme) lc_NoScheme rv_NoScheme sa_NoScheme ex_NoScheme ty_NoScheme kp_NoScheme op_X su_NoScheme sv_NoScheme mr_NoScheme ce_NoScheme co_NoScheme vf_NoScheme ff_NoScheme lf_NoScheme cd_NoScheme a_NoScheme t_NoScheme tp_X (PySem.W.mg_none_of X G ns_X) rfl rfl rfl rfl ⟨_, rfl, rfl⟩ (fun us hl => match us, hl with | [_], _ => rfl) ga_NoScheme gk_NoScheme hd_NoScheme ha_NoScheme hn_X ht_X hm_NoScheme,
    C_NoKind := C_NoKind, f_NoKind___init__ := fe_NoKind, fd_NoKind___init__ := _, er_NoKind := err_mk (PySem.W.mg_of X G gc_NoKind) lc_NoKind rv_NoKind sa_NoKind ex_NoKind ty_NoKind kp_NoKind op_X su_NoKind sv_NoKind mr_NoKind ce_NoKind co_NoKind vf_NoKind ff_NoKind lf_NoKind cd_NoKind a_NoKind t_NoKind tp_X (PySem.W.mg_none_of X G ns_X) rfl rfl rfl rfl ⟨_, rfl, rfl⟩ (fun us hl => match us, hl with | [_], _ => rfl) ga_NoKind gk_NoKind hd_NoKind ha_NoKind hn_X ht_X hm_NoKind,
    xm_NoScheme_KindError := xm_NoScheme_KindError,
    xm_NoKind_KindError := xm_NoKind_KindError,
    kt_NoScheme_NoScheme := kt_NoScheme_NoScheme,
    kt_NoScheme_NoKind := kt_NoScheme_NoKind,
    kt_NoKind_NoScheme := kt_NoKind_NoScheme,
    kt_NoKind_NoKind := kt_NoKind_NoKind,
    kt_NoScheme_ValueError := kt_NoScheme_ValueError,
    kt_NoKind_ValueError := kt_NoKind_ValueError,
    C_Book := C_Book, g_Book := PySem.W.mg_of X G gc_Book, cl_Book := ⟨pg_Book, hd_Book, po_Book, sa_Book⟩, ty_Book := ⟨ta_Book, tn_Book, tt_Book, tm_Book⟩,
    n_Book_parents := n_Book_parents,
    n_Book_bits := n_Book_bits,
    kt_Book_int := kt_Book_int,
    kt_Book_bool := kt_Book_bool,
    kt_Book_tuple := kt_Book_tuple,
    kt_Book_list := kt_Book_list,
    c_MOST_KINDS := ⟨_, PySem.W.mg_of X G k_MOST_KINDS⟩,
    c_MOST_PARENTS := ⟨_, PySem.W.mg_of X G k_MOST_PARENTS⟩,
    f_is_integer := f0, fd_is_integer := _, F_is_integer := (fun_mk (st := s_is_integer) l0 c0 k0), b_is_integer := (fun_mk (st := s_is_integer) l0 c0 k0).binds (ps := ["thing"]) (fun _ _ _ _ _ _ us hl => match us, hl with | [_], _ => rfl), g_is_integer := PySem.W.mg_of X G a0,
    f_is_within := f1, fd_is_within := _, F_is_within := (fun_mk (st := s_is_within) l1 c1 k1), b_is_within := (fun_mk (st := s_is_within) l1 c1 k1).binds (ps := ["thing", "least", "most"]) (fun _ _ _ _ _ _ us hl => match us, hl with | [_, _, _], _ => rfl), g_is_within := PySem.W.mg_of X G a1,
    f_is_lot := f2, fd_is_lot := _, F_is_lot := (fun_mk (st := s_is_lot) l2 c2 k2), b_is_lot := (fun_mk (st := s_is_lot) l2 c2 k2).binds (ps := ["thing", "many"]) (fun _ _ _ _ _ _ us hl => match us, hl with | [_, _], _ => rfl), g_is_lot := PySem.W.mg_of X G a2,
    f_are_parents := f3, fd_are_parents := _, F_are_parents := (fun_mk (st := s_are_parents) l3 c3 k3), b_are_parents := (fun_mk (st := s_are_parents) l3 c3 k3).binds (ps := ["thing", "number"]) (fun _ _ _ _ _ _ us hl => match us, hl with | [_, _], _ => rfl), g_are_parents := PySem.W.mg_of X G a3,
    f_Book_fill := f4, fd_Book_fill := _, F_Book_fill := (fun_mk (st := s_Book_fill) l4 c4 k4), b_Book_fill := (fun_mk (st := s_Book_fill) l4 c4 k4).binds (ps := ["self", "parents"]) (fun _ _ _ _ _ _ us hl => match us, hl with | [_, _], _ => rfl), m_Book_fill := ⟨a4, i4, k4⟩,
    f_Book___init__ := f5, fd_Book___init__ := _, F_Book___init__ := (fun_mk (st := s_Book___init__) l5 c5 k5), b_Book___init__ := (fun_mk (st := s_Book___init__) l5 c5 k5).binds (ps := ["self", "parents"]) (fun _ _ _ _ _ _ us hl => match us, hl with | [_, _], _ => rfl), m_Book___init__ := ⟨a5, i5, k5⟩, M_Book := ⟨mk_Book, a5, i5, kc_Book⟩,
    f_is_triple := f6, fd_is_triple := _, F_is_triple := (fun_mk (st := s_is_triple) l6 c6 k6), b_is_triple := (fun_mk (st := s_is_triple) l6 c6 k6).binds (ps := ["thing"]) (fun _ _ _ _ _ _ us hl => match us, hl with | [_], _ => rfl), g_is_triple := PySem.W.mg_of X G a6,
    f_check_kind_of := f7, fd_check_kind_of := _, F_check_kind_of := (fun_mk (st := s_check_kind_of) l7 c7 k7), b_check_kind_of := (fun_mk (st := s_check_kind_of) l7 c7 k7).binds (ps := ["thing", "many"]) (fun _ _ _ _ _ _ us hl => match us, hl with | [_, _], _ => rfl), g_check_kind_of := PySem.W.mg_of X G a7,
    f_is_given := f8, fd_is_given := _, F_is_given := (fun_mk (st := s_is_given) l8 c8 k8), b_is_given := (fun_mk (st := s_is_given) l8 c8 k8).binds (ps := ["thing"]) (fun _ _ _ _ _ _ us hl => match us, hl with | [_], _ => rfl), g_is_given := PySem.W.mg_of X G a8,
    f_has_form := f9, fd_has_form := _, F_has_form := (fun_mk (st := s_has_form) l9 c9 k9), b_has_form := (fun_mk (st := s_has_form) l9 c9 k9).binds (ps := ["thing"]) (fun _ _ _ _ _ _ us hl => match us, hl with | [_], _ => rfl), g_has_form := PySem.W.mg_of X G a9,
    f_check_scheme := f10, fd_check_scheme := _, F_check_scheme := (fun_mk (st := s_check_scheme) l10 c10 k10), b_check_scheme := (fun_mk (st := s_check_scheme) l10 c10 k10).binds (ps := ["thing"]) (fun _ _ _ _ _ _ us hl => match us, hl with | [_], _ => rfl), g_check_scheme := PySem.W.mg_of X G a10,
    f_told := f11, fd_told := _, F_told := (fun_mk (st := s_told) l11 c11 k11), b_told := (fun_mk (st := s_told) l11 c11 k11).binds (ps := ["scheme", "x", "p"]) (fun _ _ _ _ _ _ us hl => match us, hl with | [_, _, _], _ => rfl), g_told := PySem.W.mg_of X G a11,
    f_check_kinds := f12, fd_check_kinds := _, F_check_kinds := (fun_mk (st := s_check_kinds) l12 c12 k12), b_check_kinds := (fun_mk (st := s_check_kinds) l12 c12 k12).binds (ps := ["scheme", "some"]) (fun _ _ _ _ _ _ us hl => match us, hl with | [_, _], _ => rfl), g_check_kinds := PySem.W.mg_of X G a12,
    f_told_lot := f13, fd_told_lot := _, F_told_lot := (fun_mk (st := s_told_lot) l13 c13 k13), b_told_lot := (fun_mk (st := s_told_lot) l13 c13 k13).binds (ps := ["scheme", "some"]) (fun _ _ _ _ _ _ us hl => match us, hl with | [_, _], _ => rfl), g_told_lot := PySem.W.mg_of X G a13,
    f_lot_of := f14, fd_lot_of := _, F_lot_of := (fun_mk (st := s_lot_of) l14 c14 k14), b_lot_of := (fun_mk (st := s_lot_of) l14 c14 k14).binds (ps := ["scheme", "x"]) (fun _ _ _ _ _ _ us hl => match us, hl with | [_, _], _ => rfl), g_lot_of := PySem.W.mg_of X G a14,
    f_common := f15, fd_common := _, F_common := (fun_mk (st := s_common) l15 c15 k15), b_common := (fun_mk (st := s_common) l15 c15 k15).binds (ps := ["scheme", "x", "y"]) (fun _ _ _ _ _ _ us hl => match us, hl with | [_, _, _], _ => rfl), g_common := PySem.W.mg_of X G a15,
    f_meet := f16, fd_meet := _, F_meet := (fun_mk (st := s_meet) l16 c16 k16), b_meet := (fun_mk (st := s_meet) l16 c16 k16).binds (ps := ["scheme", "x", "y"]) (fun _ _ _ _ _ _ us hl => match us, hl with | [_, _, _], _ => rfl), g_meet := PySem.W.mg_of X G a16,
    f__law_hand := f17, fd__law_hand := _, F__law_hand := (fun_mk (st := s__law_hand) l17 c17 k17), b__law_hand := (fun_mk (st := s__law_hand) l17 c17 k17).binds (ps := ["_law_script"]) (fun _ _ _ _ _ _ us hl => match us, hl with | [_], _ => rfl), g__law_hand := PySem.W.mg_of X G a17,
    f__law_draw := f18, fd__law_draw := _, F__law_draw := (fun_mk (st := s__law_draw) l18 c18 k18), b__law_draw := (fun_mk (st := s__law_draw) l18 c18 k18).binds (ps := ["_law_hand_here", "_law_many"]) (fun _ _ _ _ _ _ us hl => match us, hl with | [_, _], _ => rfl), g__law_draw := PySem.W.mg_of X G a18,
    f__law_deep := f19, fd__law_deep := _, F__law_deep := (fun_mk (st := s__law_deep) l19 c19 k19), b__law_deep := (fun_mk (st := s__law_deep) l19 c19 k19).binds (ps := ["_law_hand_here"]) (fun _ _ _ _ _ _ us hl => match us, hl with | [_], _ => rfl), g__law_deep := PySem.W.mg_of X G a19,
    f__law_word := f20, fd__law_word := _, F__law_word := (fun_mk (st := s__law_word) l20 c20 k20), b__law_word := (fun_mk (st := s__law_word) l20 c20 k20).binds (ps := ["_law_which", "_law_scheme", "_law_x", "_law_y"]) (fun _ _ _ _ _ _ us hl => match us, hl with | [_, _, _, _], _ => rfl), g__law_word := PySem.W.mg_of X G a20,
    f__law_is_whole := f21, fd__law_is_whole := _, F__law_is_whole := (fun_mk (st := s__law_is_whole) l21 c21 k21), b__law_is_whole := (fun_mk (st := s__law_is_whole) l21 c21 k21).binds (ps := ["_law_thing"]) (fun _ _ _ _ _ _ us hl => match us, hl with | [_], _ => rfl), g__law_is_whole := PySem.W.mg_of X G a21,
    f__law_has_form := f22, fd__law_has_form := _, F__law_has_form := (fun_mk (st := s__law_has_form) l22 c22 k22), b__law_has_form := (fun_mk (st := s__law_has_form) l22 c22 k22).binds (ps := ["_law_thing"]) (fun _ _ _ _ _ _ us hl => match us, hl with | [_], _ => rfl), g__law_has_form := PySem.W.mg_of X G a22,
    f__law_odd := f23, fd__law_odd := _, F__law_odd := (fun_mk (st := s__law_odd) l23 c23 k23), b__law_odd := (fun_mk (st := s__law_odd) l23 c23 k23).binds (ps := ["_law_hand_here"]) (fun _ _ _ _ _ _ us hl => match us, hl with | [_], _ => rfl), g__law_odd := PySem.W.mg_of X G a23,
    f__law_parents := f24, fd__law_parents := _, F__law_parents := (fun_mk (st := s__law_parents) l24 c24 k24), b__law_parents := (fun_mk (st := s__law_parents) l24 c24 k24).binds (ps := ["_law_hand_here", "_law_many", "_law_most"]) (fun _ _ _ _ _ _ us hl => match us, hl with | [_, _, _], _ => rfl), g__law_parents := PySem.W.mg_of X G a24,
    f__law_any_scheme := f25, fd__law_any_scheme := _, F__law_any_scheme := (fun_mk (st := s__law_any_scheme) l25 c25 k25), b__law_any_scheme := (fun_mk (st := s__law_any_scheme) l25 c25 k25).binds (ps := ["_law_hand_here", "_law_many"]) (fun _ _ _ _ _ _ us hl => match us, hl with | [_, _], _ => rfl), g__law_any_scheme := PySem.W.mg_of X G a25,
    f__law_sheet := f26, fd__law_sheet := _, F__law_sheet := (fun_mk (st := s__law_sheet) l26 c26 k26), b__law_sheet := (fun_mk (st := s__law_sheet) l26 c26 k26).binds (ps := ["_law_parents_here"]) (fun _ _ _ _ _ _ us hl => match us, hl with | [_], _ => rfl), g__law_sheet := PySem.W.mg_of X G a26,
    f__law_dealt := f27, fd__law_dealt := _, F__law_dealt := (fun_mk (st := s__law_dealt) l27 c27 k27), b__law_dealt := (fun_mk (st := s__law_dealt) l27 c27 k27).binds (ps := ["_law_hand_here", "_law_sheet_here"]) (fun _ _ _ _ _ _ us hl => match us, hl with | [_, _], _ => rfl), g__law_dealt := PySem.W.mg_of X G a27,
    f__law_right_scheme := f28, fd__law_right_scheme := _, F__law_right_scheme := (fun_mk (st := s__law_right_scheme) l28 c28 k28), b__law_right_scheme := (fun_mk (st := s__law_right_scheme) l28 c28 k28).binds (ps := ["_law_hand_here", "_law_sheet_here"]) (fun _ _ _ _ _ _ us hl => match us, hl with | [_, _], _ => rfl), g__law_right_scheme := PySem.W.mg_of X G a28,
    f__law_bent := f29, fd__law_bent := _, F__law_bent := (fun_mk (st := s__law_bent) l29 c29 k29), b__law_bent := (fun_mk (st := s__law_bent) l29 c29 k29).binds (ps := ["_law_hand_here", "_law_scheme"]) (fun _ _ _ _ _ _ us hl => match us, hl with | [_, _], _ => rfl), g__law_bent := PySem.W.mg_of X G a29,
    f_law := _, fd_law := _, F_law := (fun_mk (st := s_law) l30 c30 k30), b_law := (fun_mk (st := s_law) l30 c30 k30).binds (ps := ["_law_script"]) (fun _ _ _ _ _ _ us hl => match us, hl with | [_], _ => rfl), g_law := PySem.W.mg_of X G a30,
    z_ValueError := PySem.W.mg_none_of X G z_ValueError,
    z_abs := PySem.W.mg_none_of X G z_abs,
    z_all := PySem.W.mg_none_of X G z_all,
    z_bool := PySem.W.mg_none_of X G z_bool,
    z_enumerate := PySem.W.mg_none_of X G z_enumerate,
    z_int := PySem.W.mg_none_of X G z_int,
    z_isinstance := PySem.W.mg_none_of X G z_isinstance,
    z_len := PySem.W.mg_none_of X G z_len,
    z_list := PySem.W.mg_none_of X G z_list,
    z_min := PySem.W.mg_none_of X G z_min,
    z_range := PySem.W.mg_none_of X G z_range,
    z_set := PySem.W.mg_none_of X G z_set,
    z_sorted := PySem.W.mg_none_of X G z_sorted,
    z_tuple := PySem.W.mg_none_of X G z_tuple,
    z_zip := PySem.W.mg_none_of X G z_zip }⟩
end Lk
open PySem PySem.W PyProof.Rows
set_option maxHeartbeats 0 in
theorem PySem.Challenge.cw_latekinds_k51_telling_refused_holds : PySem.Challenge.rw_latekinds_k51_telling_refused.Holds := by
  w_on; o_law; k_head; (case hw => w_witness2)
  k_fill
  refine L2.walk_of (l := PySem.Challenge.rw_latekinds_k51_telling_refused) (n := 63) (k := 9) (x := "_law_script") (CX := fun _ => L2.CX0) (sp := fun w => Lk.sp_law _) rfl (by decide) rfl ⟨rfl, by decide, by decide⟩ (fun w h Y => PySem.W.kIn_of Y) ?F (fun _ _ a ns hl _ hS => ⟨a, ns, rfl, hS, hl, fun _ => rfl⟩) (fun _ _ _ _ _ h => h)
  case F =>
    intro w mg fa h KX G hmg
    refine' Lk.all_mk KX G hmg ?gk_KindError ?op_X ?tp_X ?hn_X ?ht_X ?ns_X ?gc_NoScheme ?lc_NoScheme ?rv_NoScheme ?sa_NoScheme ?ex_NoScheme ?ty_NoScheme ?kp_NoScheme ?su_NoScheme ?sv_NoScheme ?mr_NoScheme ?a_NoScheme ?t_NoScheme ?lf_NoScheme ?cd_NoScheme ?ce_NoScheme ?co_NoScheme ?vf_NoScheme ?ff_NoScheme ?ga_NoScheme ?gk_NoScheme ?hd_NoScheme ?ha_NoScheme ?hm_NoScheme ?gc_NoKind ?lc_NoKind ?rv_NoKind ?sa_NoKind ?ex_NoKind ?ty_NoKind ?kp_NoKind ?su_NoKind ?sv_NoKind ?mr_NoKind ?a_NoKind ?t_NoKind ?lf_NoKind ?cd_NoKind ?ce_NoKind ?co_NoKind ?vf_NoKind ?ff_NoKind ?ga_NoKind ?gk_NoKind ?hd_NoKind ?ha_NoKind ?hm_NoKind ?xm_NoScheme_KindError ?xm_NoKind_KindError ?kt_NoScheme_NoScheme ?kt_NoScheme_NoKind ?kt_NoKind_NoScheme ?kt_NoKind_NoKind ?kt_NoScheme_ValueError ?kt_NoKind_ValueError ?gc_Book ?pg_Book ?hd_Book ?po_Book ?sa_Book ?mk_Book ?kc_Book ?ta_Book ?tn_Book ?tt_Book ?tm_Book ?n_Book_parents ?n_Book_bits ?kt_Book_int ?kt_Book_bool ?kt_Book_tuple ?kt_Book_list ?k_MOST_KINDS ?k_MOST_PARENTS ?a0 ?l0 ?c0 ?k0 ?a1 ?l1 ?c1 ?k1 ?a2 ?l2 ?c2 ?k2 ?a3 ?l3 ?c3 ?k3 ?a4 ?i4 ?l4 ?c4 ?k4 ?a5 ?i5 ?l5 ?c5 ?k5 ?a6 ?l6 ?c6 ?k6 ?a7 ?l7 ?c7 ?k7 ?a8 ?l8 ?c8 ?k8 ?a9 ?l9 ?c9 ?k9 ?a10 ?l10 ?c10 ?k10 ?a11 ?l11 ?c11 ?k11 ?a12 ?l12 ?c12 ?k12 ?a13 ?l13 ?c13 ?k13 ?a14 ?l14 ?c14 ?k14 ?a15 ?l15 ?c15 ?k15 ?a16 ?l16 ?c16 ?k16 ?a17 ?l17 ?c17 ?k17 ?a18 ?l18 ?c18 ?k18 ?a19 ?l19 ?c19 ?k19 ?a20 ?l20 ?c20 ?k20 ?a21 ?l21 ?c21 ?k21 ?a22 ?l22 ?c22 ?k22 ?a23 ?l23 ?c23 ?k23 ?a24 ?l24 ?c24 ?k24 ?a25 ?l25 ?c25 ?k25 ?a26 ?l26 ?c26 ?k26 ?a27 ?l27 ?c27 ?k27 ?a28 ?l28 ?c28 ?k28 ?a29 ?l29 ?c29 ?k29 ?a30 ?l30 ?c30 ?k30 ?z_ValueError ?z_abs ?z_all ?z_bool ?z_enumerate ?z_int ?z_isinstance ?z_len ?z_list ?z_min ?z_range ?z_set ?z_sorted ?z_tuple ?z_zip
    (case gk_KindError => k_is)
    (case op_X => k_is)
    (case tp_X => first | rfl | decide +kernel)
    (case hn_X => k_is)
    (case ht_X => k_is)
    (case ns_X => k_is)
    (case gc_NoScheme => k_is)
    (case lc_NoScheme => k_is)
    (case rv_NoScheme => first | rfl | decide +kernel)
    (case sa_NoScheme => k_is)
    (case ex_NoScheme => k_is)
    (case ty_NoScheme => k_is)
    (case kp_NoScheme => k_is)
    (case su_NoScheme => ks_is)
    (case sv_NoScheme => k_is)
    (case mr_NoScheme => k_is)
    (case a_NoScheme => k_is)
    (case t_NoScheme => k_is)
    (case lf_NoScheme => k_is)
    (case cd_NoScheme => k_is)
    (case ce_NoScheme => k_is)
    (case co_NoScheme => k_is)
    (case vf_NoScheme => rfl)
    (case ff_NoScheme => first | rfl | decide +kernel)
    (case ga_NoScheme => k_is)
    (case gk_NoScheme => k_is)
    (case hd_NoScheme => k_is)
    (case ha_NoScheme => k_is)
    (case hm_NoScheme => k_is)
    (case gc_NoKind => k_is)
    (case lc_NoKind => k_is)
    (case rv_NoKind => first | rfl | decide +kernel)
    (case sa_NoKind => k_is)
    (case ex_NoKind => k_is)
    (case ty_NoKind => k_is)
    (case kp_NoKind => k_is)
    (case su_NoKind => ks_is)
    (case sv_NoKind => k_is)
    (case mr_NoKind => k_is)
    (case a_NoKind => k_is)
    (case t_NoKind => k_is)
    (case lf_NoKind => k_is)
    (case cd_NoKind => k_is)
    (case ce_NoKind => k_is)
    (case co_NoKind => k_is)
    (case vf_NoKind => rfl)
    (case ff_NoKind => first | rfl | decide +kernel)
    (case ga_NoKind => k_is)
    (case gk_NoKind => k_is)
    (case hd_NoKind => k_is)
    (case ha_NoKind => k_is)
    (case hm_NoKind => k_is)
    (case xm_NoScheme_KindError => kts_exm)
    (case xm_NoKind_KindError => kts_exm)
    (case kt_NoScheme_NoScheme => kit_is)
    (case kt_NoScheme_NoKind => kit_is)
    (case kt_NoKind_NoScheme => kit_is)
    (case kt_NoKind_NoKind => kit_is)
    (case gc_Book => k_is)
    (case pg_Book => k_is)
    (case hd_Book => k_is)
    (case po_Book => k_is)
    (case sa_Book => k_is)
    (case mk_Book => k_is)
    (case kc_Book => k_is)
    (case ta_Book => k_is)
    (case tn_Book => k_is)
    (case tt_Book => k_is)
    (case tm_Book => k_is)
    (case n_Book_parents => k_is)
    (case n_Book_bits => k_is)
    (case a0 => k_is)
    (case l0 => k_is)
    (case c0 => k_is)
    (case k0 => k_is)
    (case a1 => k_is)
    (case l1 => k_is)
    (case c1 => k_is)
    (case k1 => k_is)
    (case a2 => k_is)
    (case l2 => k_is)
    (case c2 => k_is)
    (case k2 => k_is)
    (case a3 => k_is)
    (case l3 => k_is)
    (case c3 => k_is)
    (case k3 => k_is)
    (case a4 => k_is)
    (case i4 => k_is)
    (case l4 => k_is)
    (case c4 => k_is)
    (case k4 => k_is)
    (case a5 => k_is)
    (case i5 => k_is)
    (case l5 => k_is)
    (case c5 => k_is)
    (case k5 => k_is)
    (case a6 => k_is)
    (case l6 => k_is)
    (case c6 => k_is)
    (case k6 => k_is)
    (case a7 => k_is)
    (case l7 => k_is)
    (case c7 => k_is)
    (case k7 => k_is)
    (case a8 => k_is)
    (case l8 => k_is)
    (case c8 => k_is)
    (case k8 => k_is)
    (case a9 => k_is)
    (case l9 => k_is)
    (case c9 => k_is)
    (case k9 => k_is)
    (case a10 => k_is)
    (case l10 => k_is)
    (case c10 => k_is)
    (case k10 => k_is)
    (case a11 => k_is)
    (case l11 => k_is)
    (case c11 => k_is)
    (case k11 => k_is)
    (case a12 => k_is)
    (case l12 => k_is)
    (case c12 => k_is)
    (case k12 => k_is)
    (case a13 => k_is)
    (case l13 => k_is)
    (case c13 => k_is)
    (case k13 => k_is)
    (case a14 => k_is)
    (case l14 => k_is)
    (case c14 => k_is)
    (case k14 => k_is)
    (case a15 => k_is)
    (case l15 => k_is)
    (case c15 => k_is)
    (case k15 => k_is)
    (case a16 => k_is)
    (case l16 => k_is)
    (case c16 => k_is)
    (case k16 => k_is)
    (case a17 => k_is)
    (case l17 => k_is)
    (case c17 => k_is)
    (case k17 => k_is)
    (case a18 => k_is)
    (case l18 => k_is)
    (case c18 => k_is)
    (case k18 => k_is)
    (case a19 => k_is)
    (case l19 => k_is)
    (case c19 => k_is)
    (case k19 => k_is)
    (case a20 => k_is)
    (case l20 => k_is)
    (case c20 => k_is)
    (case k20 => k_is)
    (case a21 => k_is)
    (case l21 => k_is)
    (case c21 => k_is)
    (case k21 => k_is)
    (case a22 => k_is)
    (case l22 => k_is)
    (case c22 => k_is)
    (case k22 => k_is)
    (case a23 => k_is)
    (case l23 => k_is)
    (case c23 => k_is)
    (case k23 => k_is)
    (case a24 => k_is)
    (case l24 => k_is)
    (case c24 => k_is)
    (case k24 => k_is)
    (case a25 => k_is)
    (case l25 => k_is)
    (case c25 => k_is)
    (case k25 => k_is)
    (case a26 => k_is)
    (case l26 => k_is)
    (case c26 => k_is)
    (case k26 => k_is)
    (case a27 => k_is)
    (case l27 => k_is)
    (case c27 => k_is)
    (case k27 => k_is)
    (case a28 => k_is)
    (case l28 => k_is)
    (case c28 => k_is)
    (case k28 => k_is)
    (case a29 => k_is)
    (case l29 => k_is)
    (case c29 => k_is)
    (case k29 => k_is)
    (case a30 => k_is)
    (case l30 => k_is)
    (case c30 => k_is)
    (case k30 => k_is)
    (case kt_NoScheme_ValueError => kit_is)
    (case kt_NoKind_ValueError => kit_is)
    (case kt_Book_int => kit_is)
    (case kt_Book_bool => kit_is)
    (case kt_Book_tuple => kit_is)
    (case kt_Book_list => kit_is)
    (case k_MOST_KINDS => k_is)
    (case k_MOST_PARENTS => k_is)
    (case z_ValueError => k_is)
    (case z_abs => k_is)
    (case z_all => k_is)
    (case z_bool => k_is)
    (case z_enumerate => k_is)
    (case z_int => k_is)
    (case z_isinstance => k_is)
    (case z_len => k_is)
    (case z_list => k_is)
    (case z_min => k_is)
    (case z_range => k_is)
    (case z_set => k_is)
    (case z_sorted => k_is)
    (case z_tuple => k_is)
    (case z_zip => k_is)
#print axioms PySem.Challenge.cw_latekinds_k51_telling_refused_holds
