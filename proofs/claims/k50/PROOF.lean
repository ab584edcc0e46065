import PyProof.Rows.All
import Wide.All
import OpenK.AllK
import Wide.FinOn
import HandS.ForMost
import HandS.IsInst
import HandS.Rev
import HandS.Wide
import HandS.SortInts
import HandS.TupAny
import HandS.Codes
import HandS.Style
import HandS.SetFor
import HandS.Strs
import HandS.Zip
import HandS.Conv
import HandS.OwnEq
import HandS.TupMul
import HandS.Text
import HandS.WideBits
import KE.BitLaws
import KE.KDictList
import KE.GoesEnum
import PyProof.ReprRoads
import HandS.FStrTup
import PySem.Challenge.RW_latekinds_k50_whole_what_any_rows_tell
set_option Elab.async false
set_option linter.all false
set_option maxRecDepth 100000
set_option maxHeartbeats 4000000
namespace Lk
open PySem L2
def top (i : Nat) : Stmt := PySem.Challenge.pw_latekinds_k50_whole_what_any_rows_tell.main.body.getD i (.Pass ⟨0, 0, 0, 0⟩)
abbrev s_is_integer : Stmt := top 5
abbrev s_is_within : Stmt := top 6
abbrev s_is_triple : Stmt := top 7
abbrev s_check_kind_of : Stmt := top 8
abbrev s_is_given : Stmt := top 10
abbrev s_has_form : Stmt := top 11
abbrev s_check_scheme : Stmt := top 12
abbrev s_told : Stmt := top 13
abbrev s_check_kinds : Stmt := top 15
abbrev s_told_lot : Stmt := top 16
abbrev s_lot_of : Stmt := top 17
abbrev s_common : Stmt := top 18
abbrev s_meet : Stmt := top 19
abbrev s__law_hand : Stmt := top 21
abbrev s__law_draw : Stmt := top 22
abbrev s__law_is : Stmt := top 23
abbrev s__law_parents : Stmt := top 24
abbrev s__law_sheet : Stmt := top 25
abbrev s__law_dealt : Stmt := top 26
abbrev s__law_right_scheme : Stmt := top 27
abbrev s__law_any_scheme : Stmt := top 28
abbrev s__law_said : Stmt := top 29
abbrev s__law_bent : Stmt := top 30
abbrev s_law : Stmt := top 31
/-! ### what is kept -/
theorem Same.at {H H' : Hp} {a : Addr} {o : HO} (e : Same H H') (h : H a = some o) : H' a = some o := e a o h
theorem Same.new {H H' : Hp} {p : Addr} {o : HO} (e : Same H H') (h : H' p = none) : Same H (upd H' p o) := fun b u z => by
  have z2 := e b u z
  rw [upd_ne (ne_of_none z2 h)]
  exact z2
theorem Same.mut {H H' : Hp} {p : Addr} {o : HO} (e : Same H H') (h : H p = none) : Same H (upd H' p o) := fun b u z => by
  rw [upd_ne (ne_of_none z h)]
  exact e b u z
theorem upd_at {H : Hp} {p a : Addr} {o u : HO} (n : a ≠ p) (h : H a = some u) : upd H p o a = some u := by
  rw [upd_ne n]
  exact h
theorem upd_at' {H : Hp} {p a : Addr} {o u : HO} (h : H a = some u) (n : a ≠ p) : upd H p o a = some u := upd_at n h
/-- the readings of len, list(..), tuple(..) by name -/
def rLenQ (K : PySem.W.Frag) : List V → Hp → VK → Prop := fun xs H Q => ∃ p ys, xs = [.ref p] ∧ (SqL K H p ys ∨ SqT K H p ys) ∧ Q (.int ys.length) H
def rListQ (K : PySem.W.Frag) : List V → Hp → VK → Prop := fun xs H Q => ∃ p ys, xs = [.ref p] ∧ (SqL K H p ys ∨ SqT K H p ys) ∧ ∀ l, H l = none → Q (.ref l) (upd H l (.lst ys))
def rTupQ (K : PySem.W.Frag) : List V → Hp → VK → Prop := fun xs H Q => ∃ p ys, xs = [.ref p] ∧ ((SqL K H p ys ∧ ∀ l, H l = none → Q (.ref l) (upd H l (.tup ys))) ∨ (SqT K H p ys ∧ Q (.ref p) H))
/-- new in H -/
structure Nw (H : Hp) (p : Addr) : Prop where
  e : H p = none
theorem Nw.ne {H : Hp} {a p : Addr} {o : HO} (w : Nw H p) (h : H a = some o) : a ≠ p := ne_of_none h w.e
/-- a tape: its address, its list's, the list -/
structure Tp where
  t : Addr
  l : Addr
  ns : List Int
structure Tape (τ : Tp) (H : Hp) : Prop where
  list : H τ.l = some (.lst (τ.ns.map V.int))
  ne : τ.l ≠ τ.t
  here : ∃ i c s n : Int, H τ.t = some (.lst [.ref τ.l, .int i, .int c, .int s, .int n]) ∧ 0 ≤ i
/-- all but the tape is kept, the tape is a tape -/
structure Mv (τ : Tp) (H0 H : Hp) : Prop where
  was : Tape τ H0
  keep : ∀ a o, a ≠ τ.t → H0 a = some o → H a = some o
  now : Tape τ H
structure Mz (τ : Tp) (H0 H : Hp) : Prop where
  mv : Mv τ H0 H
section
variable {τ : Tp} {H0 H H1 H2 : Hp} {p a : Addr} {o : HO}
theorem Tape.mv (h : Tape τ H) : Mv τ H H := ⟨h, fun _ _ _ e => e, h⟩
theorem Tape.mz (h : Tape τ H) : Mz τ H H := ⟨h.mv⟩
theorem Mv.self (m : Mv τ H0 H) : Mv τ H H := m.now.mv
theorem Mv.trans (m : Mv τ H0 H1) (k : Mv τ H1 H2) : Mv τ H0 H2 := ⟨m.was, fun a o n e => k.keep a o n (m.keep a o n e), k.now⟩
theorem Mz.trans (m : Mz τ H0 H1) (k : Mv τ H1 H2) : Mz τ H0 H2 := ⟨m.mv.trans k⟩
theorem Tape.new (h : Tape τ H) (n : H p = none) : Tape τ (upd H p o) := by
  obtain ⟨h1, h2, i, c, s, k, h3, h4⟩ := h
  exact ⟨upd_at (ne_of_none h1 n) h1, h2, i, c, s, k, upd_at (ne_of_none h3 n) h3, h4⟩
theorem Mv.new (m : Mv τ H0 H) (n : H p = none) : Mv τ H0 (upd H p o) := ⟨m.was, fun a u e z => upd_at (ne_of_none (m.keep a u e z) n) (m.keep a u e z), m.now.new n⟩
theorem Mz.new (m : Mz τ H0 H) (n : H p = none) : Mz τ H0 (upd H p o) := ⟨m.mv.new n⟩
theorem Mv.neF (m : Mv τ H0 H) (n : H0 p = none) : p ≠ τ.t := fun e => by
  obtain ⟨_, _, _, _, h, _⟩ := m.was.here
  rw [e, h] at n
  cases n
theorem Mv.neN (m : Mv τ H0 H) (n : H p = none) : p ≠ τ.t := fun e => by
  obtain ⟨_, _, _, _, h, _⟩ := m.now.here
  rw [e, h] at n
  cases n
theorem Mv.mut (m : Mv τ H0 H) (n : H0 p = none) : Mv τ H0 (upd H p o) := by
  obtain ⟨i, c, s, k, h3, h4⟩ := m.now.here
  have n1 : τ.l ≠ p := ne_of_none m.was.list n
  exact ⟨m.was, fun a u e z => upd_at (ne_of_none z n) (m.keep a u e z), upd_at n1 m.now.list, m.now.ne, i, c, s, k, upd_at (m.neF n).symm h3, h4⟩
theorem Mz.mut (m : Mz τ H0 H) (n : H0 p = none) : Mz τ H0 (upd H p o) := ⟨m.mv.mut n⟩
theorem Mv.free (m : Mv τ H0 H) (n : H p = none) : H0 p = none := by
  cases e : H0 p with
  | none => rfl
  | some o =>
    by_cases z : p = τ.t
    · obtain ⟨_, _, _, _, h, _⟩ := m.now.here
      rw [z, h] at n
      cases n
    · rw [m.keep p o z e] at n
      cases n
theorem Mz.free (m : Mz τ H0 H) (n : H p = none) : H0 p = none := m.mv.free n
theorem Mv.at (m : Mv τ H0 H) (n : a ≠ τ.t) (h : H0 a = some o) : H a = some o := m.keep a o n h
theorem Mv.at' (m : Mv τ H0 H) (h : H0 a = some o) (n : a ≠ τ.t) : H a = some o := m.keep a o n h
theorem Mz.at (m : Mz τ H0 H) (n : a ≠ τ.t) (h : H0 a = some o) : H a = some o := m.mv.keep a o n h
theorem Mv.neT {xs : List V} (m : Mv τ H0 H) (h : H a = some (.tup xs)) : a ≠ τ.t := fun e => by
  obtain ⟨_, _, _, _, z, _⟩ := m.now.here
  rw [e, z] at h
  cases h
theorem Mv.neT0 {xs : List V} (m : Mv τ H0 H) (h : H0 a = some (.tup xs)) : a ≠ τ.t := m.was.mv.neT h
theorem Mv.atT {xs : List V} (m : Mv τ H0 H) (h : H0 a = some (.tup xs)) : H a = some (.tup xs) := m.keep a _ (m.neT0 h) h
theorem Tape.same (h : Tape τ H) (s : Same H H1) : Tape τ H1 := by
  obtain ⟨h1, h2, i, c, s', k, h3, h4⟩ := h
  exact ⟨s _ _ h1, h2, i, c, s', k, s _ _ h3, h4⟩
theorem Mv.same (m : Mv τ H0 H) (s : Same H H1) : Mv τ H0 H1 := by
  obtain ⟨h1, h2, i, c, s', k, h3, h4⟩ := m.now
  exact ⟨m.was, fun a o e z => s a o (m.keep a o e z), s _ _ h1, h2, i, c, s', k, s _ _ h3, h4⟩
theorem Mz.same (m : Mz τ H0 H) (s : Same H H1) : Mz τ H0 H1 := ⟨m.mv.same s⟩
end
theorem iteD {c A B : Prop} [Decidable c] (h1 : c → A) (h2 : ¬ c → B) : if decide c = true then A else B := by
  by_cases h : c
  · rw [decide_eq_true h]
    exact iteT (h1 h)
  · rw [decide_eq_false h]
    exact iteF (h2 h)
theorem iteDY {c A B : Prop} [Decidable c] (h : c) (h1 : A) : if decide c = true then A else B := by
  rw [decide_eq_true h]
  exact iteT h1
theorem iteDN {c A B : Prop} [Decidable c] (h : ¬ c) (h1 : B) : if decide c = true then A else B := by
  rw [decide_eq_false h]
  exact iteF h1
theorem iteET {b : Bool} {A B : Prop} (h : b = true) (k : A) : if b = true then A else B := by
  rw [h]
  exact iteT k
theorem iteEF {b : Bool} {A B : Prop} (h : b = false) (k : B) : if b = true then A else B := by
  rw [h]
  exact iteF k
theorem iteB {b : Bool} {A B : Prop} (h1 : b = true → A) (h2 : b = false → B) : if b = true then A else B := by
  cases b with
  | true => exact iteT (h1 rfl)
  | false => exact iteF (h2 rfl)
theorem fmod_in {x m : Int} (h : 0 < m) : 0 ≤ x.fmod m ∧ x.fmod m < m := by
  rw [Int.fmod_eq_emod_of_nonneg x (Int.le_of_lt h)]
  exact ⟨Int.emod_nonneg x (by omega), Int.emod_lt_of_pos x h⟩
theorem Mv.put {τ : Tp} {H0 H : Hp} (m : Mv τ H0 H) {xs : List V} {i c s n : Int} (e : xs = [.ref τ.l, .int i, .int c, .int s, .int n]) (h : 0 ≤ i) : Mv τ H0 (upd H τ.t (.lst xs)) := by
  subst e
  exact ⟨m.was, fun a o k z => upd_at k (m.keep a o k z), upd_at m.now.ne m.now.list, m.now.ne, i, c, s, n, upd_same, h⟩
theorem le_lineB {n : Nat} (h : Nat.ble n 100000 = true) : n ≤ sizeLine := Nat.le_trans (Nat.le_of_ble_eq_true h) (by decide)
theorem fmod64 {x m : Int} (h : 0 < m) (h2 : m ≤ 2 ^ 64) : -(2 ^ 64) < x.fmod m ∧ x.fmod m < 2 ^ 64 := by
  have q := fmod_in (x := x) h
  omega
theorem at_ints {ns : List Int} {i : Int} (h0 : 0 ≤ i) (h : i < ((ns.map V.int).length : Int)) : ∃ v : Int, atI (ns.map V.int) i = some (.int v) := by
  rw [List.length_map] at h
  have hj : i.toNat < ns.length := by omega
  refine ⟨ns[i.toNat], at_of (j := i.toNat) (by omega) ?_⟩
  rw [List.getElem?_map, List.getElem?_eq_getElem hj]
  rfl
theorem dec_int {a b : Int} : decide (V.int a = V.int b) = decide (a = b) := by
  by_cases h : a = b
  · rw [decide_eq_true h, h, decide_eq_true rfl]
  · rw [decide_eq_false h, decide_eq_false fun e => h (V.int.inj e)]
theorem dec_nat {a b : Nat} : decide (V.int (a : Int) = V.int (b : Int)) = decide (a = b) := by
  rw [dec_int]
  exact decide_eq_decide.mpr Int.ofNat_inj
theorem iteI {a b : Int} {A B : Prop} (h1 : a = b → A) (h2 : ¬ a = b → B) : if decide (V.int a = V.int b) = true then A else B := by
  rw [dec_int]
  exact iteD h1 h2
/-! ### kinds of things -/
def isIntB : V → Bool
  | .int _ => true
  | _ => false
def withinB (v : V) (lo hi : Int) : Bool := match v with
  | .int i => decide (lo ≤ i) && decide (i ≤ hi)
  | _ => false
structure IntK (K : PySem.W.Frag) (H : Hp) (v : V) : Prop where
  ex : ∃ (t : Value) (bi bb : Bool), TyX K H v t ∧ PySem.W.kitOne K t (.type "int") = some bi ∧ PySem.W.kitOne K t (.type "bool") = some bb ∧ (bi && !bb) = isIntB v
section
variable {K : PySem.W.Frag} {H : Hp}
theorem IntK.int (i : Int) : IntK K H (.int i) := ⟨_, true, false, .base (.int i), kit_ty (by decide +kernel), kit_ty (by decide +kernel), rfl⟩
theorem IntK.bl (b : Bool) : IntK K H (.bl b) := ⟨_, true, true, .base (.bl b), kit_ty (by decide +kernel), kit_ty (by decide +kernel), rfl⟩
theorem IntK.non : IntK K H .non := ⟨_, false, false, .base .non, kit_ty (by decide +kernel), kit_ty (by decide +kernel), rfl⟩
theorem IntK.str (s : Str) : IntK K H (.str s) := ⟨_, false, false, .base (.str s), kit_ty (by decide +kernel), kit_ty (by decide +kernel), rfl⟩
theorem IntK.tup {a : Addr} {xs : List V} (h : H a = some (.tup xs)) : IntK K H (.ref a) := ⟨_, false, false, .base (.tup h), kit_ty (by decide +kernel), kit_ty (by decide +kernel), rfl⟩
theorem IntK.lst {a : Addr} {xs : List V} (h : H a = some (.lst xs)) : IntK K H (.ref a) := ⟨_, false, false, .base (.lst h), kit_ty (by decide +kernel), kit_ty (by decide +kernel), rfl⟩
theorem IntK.dK {a : Addr} {xs : List (Key × V)} (h : H a = some (.dK xs)) : IntK K H (.ref a) := ⟨_, false, false, .base (.dK h), kit_ty (by decide +kernel), kit_ty (by decide +kernel), rfl⟩
theorem ty_tup {a : Addr} {xs : List V} (h : H a = some (.tup xs)) : TyX K H (.ref a) (.type "tuple") := .base (.tup h)
theorem ty_int (i : Int) : TyX K H (.int i) (.type "int") := .base (.int i)
theorem ty_bl (b : Bool) : TyX K H (.bl b) (.type "bool") := .base (.bl b)
theorem tup_tup : PySem.W.kitOne K (.type "tuple") (.type "tuple") = some true := kit_ty (by decide +kernel)
theorem int_tup : PySem.W.kitOne K (.type "int") (.type "tuple") = some false := kit_ty (by decide +kernel)
theorem int_int : PySem.W.kitOne K (.type "int") (.type "int") = some true := kit_ty (by decide +kernel)
theorem int_bool : PySem.W.kitOne K (.type "int") (.type "bool") = some false := kit_ty (by decide +kernel)
theorem bool_bool : PySem.W.kitOne K (.type "bool") (.type "bool") = some true := kit_ty (by decide +kernel)
end
/-- tuples stay -/
def TK (H H' : Hp) : Prop := ∀ a xs, H a = some (.tup xs) → H' a = some (.tup xs)
theorem Same.tk {H H' : Hp} (s : Same H H') : TK H H' := fun a _ h => s a _ h
theorem Mv.tk {τ : Tp} {H H' : Hp} (m : Mv τ H H') : TK H H' := fun a _ h => m.keep a _ (m.neT0 h) h
theorem TK.trans {H H1 H2 : Hp} (a : TK H H1) (b : TK H1 H2) : TK H H2 := fun x xs h => b x xs (a x xs h)
theorem TK.mut {H : Hp} {p : Addr} {o : HO} {ys : List V} (h : H p = some (.lst ys)) : TK H (upd H p o) := fun a xs e => upd_at (ne_of e h (by intro z; cases z)) e
theorem TK.new {H : Hp} {p : Addr} {o : HO} (h : H p = none) : TK H (upd H p o) := fun a xs e => upd_at (ne_of_none e h) e
/-! ### len(set(a tuple of whole numbers)); list(reversed(a list)) -/
section
open PySem.Spec PyProof.Rows
variable {X : Cx}
def tLenSetU (K : PySem.W.Frag) (ta : TE) : TE := fun σ H Q => ta σ H fun x H1 => ∃ (l : Addr) (ns : List Int), x = .ref l ∧ SqT K H1 l (ns.map V.int) ∧ ns.length ≤ 4000 ∧ ∀ ks : List Int, ks.Nodup → (∀ k, k ∈ ks ↔ k ∈ ns) → Q (.int (ks.length : Nat)) H1
theorem pe_lenSetU {a : Expr} {ta : TE} {p p2 q pos : Pos} (hg : Gl X "len") (hm : X.mg "len" = none) (hg2 : Gl X "set") (hm2 : X.mg "set" = none) (ha : PE X a ta) (calm : X.calm = true := by rfl)
    (na : starEach [a] X.env = (false, eval a X.env) :: starEach [] X.env := by rfl) : PE X (.Call (.Name "len" p) [.Call (.Name "set" p2) [a] [] q] [] pos) (tLenSetU X.K ta) := by
  constructor
  intro pins s σ H Q I h
  refine Call_ (ld_blt I hg hm boot_len (PyProof.Rows.callWith_builtin1 (PyProof.Rows.args_cons ?_ rfl) rfl rfl))
  refine Call_ (ld_blt I hg2 hm2 PyProof.Rows.boot_set (PyProof.Rows.callWith_type1 (PyProof.Rows.args_cons (thn (ha.run pins s σ H _ I h) fun v s1 ⟨x, H1, I1, r1, q1⟩ => PyProof.Rows.args_nil ?_) na) na rfl))
  obtain ⟨l, ns, ex, hq, hl, done⟩ := q1
  subst ex
  obtain rfl : v = Value.ref l := r1
  obtain ⟨its, rv, pt, hz⟩ := I1.tuple hq
  have hi : PyProof.Rows.IntsAre its.toArray.toList ns := by simpa using ints_of_vals rv
  refine call_set_tupI ns (I1.ok.hd calm) (show s1.heap.IsTuple l its.toArray from pt) hi (by unfold scanBound; omega) fun h' tk c R1 hcn kp => PyProof.Rows.args_nil ?_
  obtain ⟨o, es, ep, t, ho, hex, hdt, g, nd, mem, hb, hf, hn, hr, hl2⟩ := R1
  have I2 : Inv X pins σ H1 { s1 with heap := h', toks := tk } := I1.kept kp
  have le : (es.toList.map keyOf).length = es.size := by rw [List.length_map, Array.length_toList]
  refine call_len_set ho hex hdt hf (by omega) ⟨.int es.size, H1, I2.tok _, ⟨_, rfl⟩, ?_⟩
  rw [← le]
  exact done _ nd fun k => by rw [← mem k, decide_eq_true_eq]
end
/-! ### set(a list of whole numbers) -/
section
open PySem.Spec PyProof.Rows PySem.Calls
variable {P : Program} {w : World} {A : Around} {E : Value → Shared → Prop} {s : Shared}
set_option maxHeartbeats 4000000 in
theorem call_set_listR {l : Addr} {items : Array Value} (ns : List Int) {Q : Value → Shared → Prop} (hh : A.handled = none) (hl : s.heap.IsList l items) (hit : IntsAre items.toList ns) (hb : ns.length + 1 < scanBound)
    (h : ∀ (h' : Heap) (tk c : Nat), SetR w h' s.heap.objs.size (fun j => decide (j ∈ ns)) c → c ≤ ns.length → (∀ b o, s.heap.get? b = some o → h'.get? b = some o) → Q (.ref s.heap.objs.size) { s with heap := h', toks := tk }) :
    wpAny (model P w) A (call (.type "set") [.ref l]) Q E s := by
  have hisz : items.size = ns.length := by
    have q := IntsAre.length hit
    rw [Array.length_toList] at q
    exact q
  obtain ⟨c, tl, hmro⟩ := F.called_set.mro
  have hmade := F.called_set.made
  have hsub := F.called_set.sub
  refine wpAny_call (codeAny_of_tree ?_)
  show wpAny _ _ (callAny (.type "set") _) _ _ _
  refine wpAny_pure ⟨Code.quiet_builtin _ (by decide +kernel), codeAny_builtin F.entry_type_call ?_⟩
  rw [Around.under_plain (weight_type_call_type "set" [.ref l] []) rfl]
  have h1 := F.called_set.notType
  have h2 := F.called_set.canCreate
  have hct := F.typeCall_set_1 (.ref l)
  repeat (any_goals (first | assumption | wp_step))
  refine codeAny_mono (code_set_led1 (.ref l) (E := E) (Q₁ := fun obj s₁ => obj = .ref s.heap.objs.size ∧ s₁ = { s with heap := s.heap.push { cls := .type "set", dict := none, data := .set #[] 0 (.fresh 0 0 (!w.params.followText "set-order")) } }) ⟨rfl, rfl⟩) fun r s₁ hr => ?_
  cases r with
  | error e => exact hr
  | ok fl =>
    cases fl with
    | ret obj =>
      obtain ⟨rfl, rfl⟩ := hr
      have hS : (s.heap.push { cls := .type "set", dict := none, data := .set #[] 0 (.fresh 0 0 (!w.params.followText "set-order")) }).get? s.heap.objs.size = some { cls := .type "set", dict := none, data := .set #[] 0 (.fresh 0 0 (!w.params.followText "set-order")) } := Heap.get?_push_size _ rfl
      have hT : Shared.TypeIs { s with heap := s.heap.push { cls := .type "set", dict := none, data := .set #[] 0 (.fresh 0 0 (!w.params.followText "set-order")) } } (.ref s.heap.objs.size) "set" := ⟨_, hS, rfl⟩
      have hli := F.called_set.init.lookup
      have hbi := F.called_set.init.bind (.ref s.heap.objs.size)
      repeat (any_goals (first | assumption | wp_step))
      refine codeAny_mono (codeAny_call_builtin (R := wants (fun r s₂ => r = .none ∧ ∃ h' tk c, s₂ = { s with heap := h', toks := tk } ∧ SetR w h' s.heap.objs.size (fun j => decide (j ∈ ns)) c ∧ c ≤ ns.length ∧
          (∀ b o, s.heap.get? b = some o → h'.get? b = some o)) E) F.called_set.init.plain F.entry_set_init (check_set_init_1 hT ?_)) fun r₂ s₂ hr₂ => ?_
      · obtain ⟨ol, hol, hcl, nl, hdl⟩ := hl
        obtain ⟨ocls, odict, odata, oslots⟩ := ol
        simp only at hcl hdl
        subst hcl; subst hdl
        have hol' : (s.heap.push { cls := .type "set", dict := none, data := .set #[] 0 (.fresh 0 0 (!w.params.followText "set-order")) }).get? l = some { cls := .type "list", dict := odict, data := .seq items nl, slots := oslots } := Heap.get?_push_of_some _ hol
        have hsls := F.sub_list_set
        have hslf := F.sub_list_frozenset
        have hne : (Value.type "list" == Value.type "dict") = false := by decide
        have hl1 : (s.heap.push { cls := .type "set", dict := none, data := .set #[] 0 (.fresh 0 0 (!w.params.followText "set-order")) }).IsList l items := ⟨_, hol', rfl, nl, rfl⟩
        unfold Builtin.«set.__init__» noKeywords Builtin.Frozenset.updateFrom
        generalize hPI : pyIter = PI
        wp_walk
        subst hPI
        refine wpAny_pyIter_list hl1 ?_
        refine wpAny_bind (wpAny_runValue ?_)
        have hlS : l < s.heap.objs.size := Heap.lt_size hol
        have hh3 : A.in1.in1.in1.handled = none := by simp [hh]
        have hz1 : (s.heap.push { cls := .type "set", dict := none, data := .set #[] 0 (.fresh 0 0 (!w.params.followText "set-order")) }).objs.size = s.heap.objs.size + 1 := Heap.size_push ..
        have hneI : l ≠ (s.heap.push { cls := .type "set", dict := none, data := .set #[] 0 (.fresh 0 0 (!w.params.followText "set-order")) }).objs.size := by
          rw [Heap.size_push]; exact Nat.ne_of_lt (Nat.lt_succ_of_lt hlS)
        have hSf : s.heap.objs.size ∉ [(s.heap.push { cls := .type "set", dict := none, data := .set #[] 0 (.fresh 0 0 (!w.params.followText "set-order")) }).objs.size, l] := by
          rw [Heap.size_push]; simp only [List.mem_cons, List.mem_singleton, List.not_mem_nil, or_false, not_or]
          exact ⟨Nat.ne_of_lt (Nat.lt_succ_self _), Nat.ne_of_gt hlS⟩
        have hval : ∀ (i : Nat) (v : Value), items[i]? = some v → ∃ k t, ns[i]? = some k ∧ v = .int k t := fun i v hv => by
          have hi : i < ns.length := by rw [← hisz]; exact (Array.getElem?_eq_some_iff.mp hv).1
          obtain ⟨t, e⟩ := PyProof.Rows.IntsAre.int_at hit i v (by rw [Array.getElem?_toList]; exact hv)
          refine ⟨ns[i], t, List.getElem?_eq_getElem hi, ?_⟩
          rw [e, List.getD_eq_getElem?_getD, List.getElem?_eq_getElem hi] <;> rfl
        refine set_update_ints ((Walks.list hh3 _ l hneI items).toS) s.heap.objs.size
          hSf ns hisz hb hval (items.size - 0) 0 _ (by omega) (Nat.zero_le _)
          ⟨⟨_, Heap.get?_push_size _ rfl, rfl, rfl⟩, (hl1.push _)⟩ ?hS0 ?hR
        case hS0 =>
          have hget : ((s.heap.push { cls := .type "set", dict := none, data := .set #[] 0 (.fresh 0 0 (!w.params.followText "set-order")) }).push { cls := .type "list_iterator", data := .fields #[.ref l, .int 0 0] }).get? s.heap.objs.size
              = some { cls := .type "set", dict := none, data := .set #[] 0 (.fresh 0 0 (!w.params.followText "set-order")) } := Heap.get?_push_of_some _ hS
          exact ⟨0, Nat.le_refl 0, setR_new_at hget⟩
        case hR =>
          intro s' c' hm hc' hS'
          obtain ⟨h', g2, d', tk', os'⟩ := s'
          have eg : g2 = s.gens := hm.gens
          have ed : d' = s.drawn := hm.drawn
          have eo : os' = s.os := hm.os
          subst eg; subst ed; subst eo
          show wpAny _ _ _ _ _ _
          refine wpAny_pure ?_
          show wpAny _ _ (ret Value.none) _ _ _
          rw [hisz] at hc'
          refine wpAny_pure ⟨rfl, h', tk', c', rfl, hS', hc', fun b o e => ?_⟩
          have hb0 : b < s.heap.objs.size := Heap.lt_size e
          have hb1 : b ≠ s.heap.objs.size := Nat.ne_of_lt hb0
          have hb2 : b ≠ (s.heap.push { cls := .type "set", dict := none, data := .set #[] 0 (.fresh 0 0 (!w.params.followText "set-order")) }).objs.size := by
            rw [Heap.size_push]; exact Nat.ne_of_lt (Nat.lt_succ_of_lt hb0)
          exact hm.heap b o (by simp only [List.mem_cons, List.mem_singleton, List.not_mem_nil, or_false, not_or]; exact ⟨hb1, hb2⟩) (Heap.get?_push_of_some _ (Heap.get?_push_of_some _ e))
      · cases r₂ with
        | error e => exact hr₂
        | ok fl₂ =>
          cases fl₂ with
          | ret r =>
            obtain ⟨rfl, h', tk, c', rfl, hS', hc', hk'⟩ := hr₂
            repeat (any_goals (first | assumption | wp_step))
            exact h _ _ _ hS' hc' hk'
          | _ => exact hr₂.elim
    | _ => exact hr.elim
variable {X : Cx}
def rSetL (w : World) (K : PySem.W.Frag) : List V → Hp → VK → Prop := fun xs H Q => ∃ (a : Addr) (ns : List Int), xs = [.ref a] ∧ SqL K H a (ns.map V.int) ∧ ns.length ≤ 4000 ∧ ∀ (p : Addr) (c : Nat), c ≤ ns.length → (∃ ks : List Int, ks.Nodup ∧ ks.length = c ∧ ∀ k, k ∈ ks ↔ k ∈ ns) → H p = none → Q (.ref p) (upd H p (SetO w p (fun j => decide (j ∈ ns)) c))
theorem cr_setL (hc : X.calm = true) : CallR X (.type "set") (rSetL X.w X.K) := by
  intro pins s σ H xs us Q I r h
  obtain ⟨a, ns, rfl, hq, hl, q⟩ := h
  rw [Vals.ref1 r]
  obtain ⟨its, rv, pl, hz⟩ := I.list hq
  refine call_set_listR ns (I.ok.hd hc) pl.isList (by simpa using ints_of_vals rv) (by unfold scanBound; omega) fun h' tk c R hc' k => ?_
  have nw : H s.heap.objs.size = none := I.hok.fresh (Nat.le_refl _)
  have kk : ∃ ks : List Int, ks.Nodup ∧ ks.length = c ∧ ∀ k, k ∈ ks ↔ k ∈ ns := by
    obtain ⟨o, es, ep, t, ho, hex, hd, g, nd, mem, hb, hf, hn, hr, hl2⟩ := R
    exact ⟨es.toList.map keyOf, nd, by rw [List.length_map, Array.length_toList]; exact hn, fun k => by rw [← mem k, decide_eq_true_eq]⟩
  exact ⟨.ref _, _, I.laid (t' := tk) k (Nat.le_refl _) (setO_new R), rfl, q _ c hc' kk nw⟩
end
/-! ### enumerate(a tuple) -/
section
open PySem.Spec PyProof.Rows PySem.Calls
set_option maxHeartbeats 4000000 in
theorem meets_enum1 {v : Value} {o : Obj} {HH : Heap → Prop} (B : Begins v o HH) :
    Meets (Builtin.«enumerate.__new__» ⟨[.type "enumerate", v], []⟩) (fun _ R s => HH s.heap ∧
      R (.ok (.ret (.ref (s.heap.push o).objs.size))) { s with heap := (s.heap.push o).push { cls := .type "enumerate", data := .fields #[.none, .bool false, .ref s.heap.objs.size, rawInt 0, .none, .none] } }) :=
  .of_wp fun prog w A R s both => by
    obtain ⟨hp, g, d, tk, os⟩ := s
    obtain ⟨h1, h⟩ := both
    have hsub := sub_enumerate
    have it1 : ∀ {A' : Around} {E : Value → Shared → Prop} {Q : Value → Shared → Prop}, Q (.ref hp.objs.size) ⟨hp.push o, g, d, tk, os⟩ → wpAny (model prog w) A' (pyIter v) Q E ⟨hp, g, d, tk, os⟩ := fun q => B.iter prog w _ _ ⟨hp, g, d, tk, os⟩ _ h1 q
    wp_walk using it1
    refine wpAny_stack_any fun st => wpAny_pure ?_
    split
    · rename_i c _ _ _ _ _
      cases (c == Value.type "enumerate") <;> (wp_walk using it1; exact ⟨_, rfl, h⟩)
    · wp_walk using it1
      exact ⟨_, rfl, h⟩
section
variable {prog : Program} {w : World} {A : Around} {E : Value → Shared → Prop} {s : Shared}
theorem call_enum1 {v : Value} {o : Obj} {HH : Heap → Prop} {Q : Value → Shared → Prop} (B : Begins v o HH) (h1 : HH s.heap)
    (fin : ∀ h', IsEnum h' (s.heap.objs.size + 1) s.heap.objs.size 0 .none → h'.get? s.heap.objs.size = some o → h'.objs.size = s.heap.objs.size + 2 → (∀ b u, s.heap.get? b = some u → h'.get? b = some u) → Q (.ref (s.heap.objs.size + 1)) { s with heap := h' }) :
    wpAny (model prog w) A (call (.type "enumerate") [v]) Q E s := by
  refine callType_new F.called_enumerate (by decide) (F.typeCall_enumerate_1 _) (F.newCall_enumerate_1 _) (fun obj => F.args_object_init_2 obj _) F.entry_enumerate_new (meets_enum1 B) ⟨h1, ?_⟩
  have hz : (s.heap.push o).objs.size = s.heap.objs.size + 1 := Heap.size_push ..
  show _ ∧ _
  rw [hz]
  have he : ((s.heap.push o).push { cls := .type "enumerate", data := .fields #[.none, .bool false, .ref s.heap.objs.size, rawInt 0, .none, .none] }).get? (s.heap.objs.size + 1) = some { cls := .type "enumerate", data := .fields #[.none, .bool false, .ref s.heap.objs.size, rawInt 0, .none, .none] } := by
    rw [← hz]
    exact Heap.get?_push_size (s.heap.push o) rfl
  exact ⟨⟨_, he, rfl⟩, fin _ he (Heap.get?_push_of_some _ (Heap.get?_push_size _ B.free)) (by rw [Heap.size_push, hz]) fun b u x => Heap.get?_push_of_some _ (Heap.get?_push_of_some _ x)⟩
end
/-- a tuple's iterator behind its end -/
theorem draws_end {prog : Program} {w : World} {A : Around} (calm : A.handled = none) (it t : Addr) (items : Array Value) (i : Nat) (hi : items[i]? = none) :
    Draws prog w A it [it, t] i (fun _ _ => True) (fun j h => j = i ∧ h.IsTupleIter it t j ∧ h.IsTuple t items) where
  live := fun _ _ st => let ⟨o, ho, _⟩ := st.2.1; ⟨o, ho⟩
  frame := fun _ _ _ st hk => ⟨st.1, st.2.1.at fun o e => hk it (by simp) o e, st.2.2.at fun o e => hk t (by simp) o e⟩
  item := fun j s Q E hj st _ => absurd st.1 (Nat.ne_of_lt hj)
  done := fun s Q E st hE => wpAny_nextOf_tuple_end calm st.2.1 st.2.2 hi hE
/-- the tuple at a, each item in a new pair -/
def IteT (K : PySem.W.Frag) (a : Addr) : It :=
  ⟨fun i H => ∃ (xs : List V) (x : V), SqT K H a xs ∧ xs[i]? = some x, fun i H v H' => ∃ T x, v = .ref T ∧ H T = none ∧ H' = upd H T (.tup [.int (i : Nat), x]) ∧ ∀ xs, SqT K H a xs → xs[i]? = some x, fun i H => ∃ xs : List V, SqT K H a xs ∧ xs.length ≤ i⟩
theorem turn_enumT {P : Program} {w : World} {K : PySem.W.Frag} {elts : List Expr} {kk : Nat} {tpos : Pos} (a e it : Addr) :
    Turn P w K (.Tuple elts kk tpos) (IteT K a) [e, it] e (fun i h => (∃ old, IsEnum h e it ((i : Nat) : Int) old) ∧ h.IsTupleIter it a i ∧ e ≠ it ∧ e ≠ a ∧ it ≠ a) where
  mem := by simp
  obj := fun i h st b hb => by
    obtain ⟨⟨old, he⟩, ⟨o, ho, hc, hd⟩, _⟩ := st
    rcases List.mem_cons.mp hb with z | z
    · subst z
      exact ⟨_, he, fun v q => nomatch q⟩
    · have z2 := List.mem_singleton.mp z
      subst z2
      exact ⟨o, ho, fun v q => by rw [hd] at q; cases q⟩
  keep := fun i h h' st k => let ⟨⟨old, he⟩, hi, hne⟩ := st; ⟨⟨old, k e (by simp) _ he⟩, hi.at fun o q => k it (by simp) o q, hne⟩
  item := by
    intro X hP hw hK calm i pins s σ H E I hf st hg
    subst hP hw hK
    obtain ⟨⟨old, he⟩, hit, n1, n2, n3⟩ := st
    obtain ⟨xs, x, hq, hx⟩ := hg
    obtain ⟨its, rv, p, hz⟩ := I.tuple hq
    obtain ⟨u, hu, ru⟩ := rv.get hx
    have hel : e < s.heap.objs.size := Heap.lt_size he
    have hil : it < s.heap.objs.size := by obtain ⟨_, q, _⟩ := hit; exact Heap.lt_size q
    have ilt : i < its.toArray.size := by rw [List.size_toArray]; exact (List.getElem?_eq_some_iff.mp hu).1
    have D := Draws.tuple (prog := X.prog) (w := X.w) (A := X.A.in1) (by simpa using I.ok.hd calm) it a (Ne.symm n3) its.toArray
    refine wpAny_pyNext_enum_itemD D he ⟨hit, p⟩ ilt n1 (by simp [n1, n2]) fun y h' tk hy ho hst hT hsz hk => ?_
    have ey : y = u := by
      have q : its[i]? = some y := by simpa using hy
      rw [hu] at q
      exact (Option.some.inj q).symm
    subst ey
    refine ⟨_, rfl, wpAny_letOwnedTupleGo_enum (s := { s with heap := h', toks := tk + 1 }) ho fun h2 he2 sb => ?_⟩
    have nT : h2.get? s.heap.objs.size = some { cls := .type "tuple", data := .seq #[.int i tk, y] } := (sb.2 _ (Nat.ne_of_gt hel)).trans hT
    have mk : ObjOk X.prog X.w (upd H s.heap.objs.size (.tup [.int (i : Nat), x])) h2 s.heap.objs.size (.tup [.int (i : Nat), x]) :=
      ⟨by show 2 ≤ sizeLine; decide, [.int i tk, y], .cons ⟨_, rfl⟩ (.cons ru .nil), ⟨_, nT, rfl, _, rfl⟩⟩
    have I1 : Inv X pins σ (upd H s.heap.objs.size (.tup [.int (i : Nat), x])) { s with heap := h2, toks := tk + 1 } :=
      I.turnedNew (ch := [e, it]) (fun b ob hb q => (sb.2 b (fun z => hb (by simp [z]))).trans (hk b ob (fun z => hb (by simp [z])) (fun z => hb (by simp [z])) q)) hf (Nat.le_refl _) mk
    refine ⟨.ref s.heap.objs.size, _, I1, rfl, ⟨_, x, rfl, I.hok.fresh (Nat.le_refl _), rfl, fun ys hy2 => by rw [I.tuple_inj hy2 hq]; exact hx⟩, ⟨⟨y, ?_⟩, hst.1.at fun o q => (sb.2 it (Ne.symm n1)).trans q, n1, n2, n3⟩, fun b hb => ?_⟩
    · rw [show ((i + 1 : Nat) : Int) = (i : Int) + 1 by omega]
      exact he2
    · have lt : b < s.heap.objs.size := by
        rcases List.mem_cons.mp hb with z | z
        · rw [z]; exact hel
        · rw [List.mem_singleton.mp z]; exact hil
      rw [upd_ne (Nat.ne_of_lt lt)]
      exact (hf b hb).1
  done := by
    intro X hP hw hK calm i pins s σ H E I hf st hg
    subst hP hw hK
    obtain ⟨⟨old, he⟩, hit, n1, n2, n3⟩ := st
    obtain ⟨xs, hq, hx⟩ := hg
    obtain ⟨its, rv, p, hz⟩ := I.tuple hq
    obtain ⟨f0, f1, f2, f3, f4, f5⟩ := hf it (by simp)
    have hl := rv.length
    have over : its.toArray[i]? = none := by simp; omega
    exact wpAny_pyNext_enum_endD (draws_end (by simpa using I.ok.hd calm) it a its.toArray i over) he ⟨rfl, hit, p⟩ fun h' eb => ⟨rfl, I.turned (t' := s.toks) (fun b o hb q => eb b o hb q) f0 f1 f3 f4 f5⟩
  self := fun A i s Q E st h => let ⟨⟨_, he⟩, _⟩ := st; wpAny_pyIter_enum he h
def iEnumT (K : PySem.W.Frag) (ta : TA) : TI := fun σ H R => ta σ H fun vs H1 => ∃ a xs, vs = [.ref a] ∧ SqT K H1 a xs ∧ R (IteT K a) H1
theorem pi_enumT {X : Cx} {e : Expr} {ta : TA} {p pos tpos : Pos} {elts : List Expr} {kk : Nat} (hg : Gl X "enumerate") (hm : X.mg "enumerate" = none) (ha : PA X [e] ta) (hs : starEach [e] X.env = [(false, eval e X.env)] := by rfl) :
    PI X (.Tuple elts kk tpos) (.Call (.Name "enumerate" p) [e] [] pos) (iEnumT X.K ta) := by
  constructor
  intro pins s σ H R I h
  refine Call_ (ld_blt I hg hm boot_enumerate (PyProof.Rows.callWith_type1 (thn (ha.run pos pins s σ H _ I h) fun us s1 ⟨vs, H1, I1, r1, q1⟩ => ?_) hs rfl))
  obtain ⟨a, xs, ex, hq, q⟩ := q1
  subst ex
  cases r1 with
  | cons r rr =>
    cases rr
    cases r
    obtain ⟨its, rv, tp, hz⟩ := I1.tuple hq
    have al : a < s1.heap.objs.size := by obtain ⟨_, q, _⟩ := tp; exact Heap.lt_size q
    refine call_enum1 (begins_tuple a its.toArray) (show s1.heap.IsTuple a its.toArray from tp) fun h' he hit hsz hk => wpAny_pyIter_enum he ?_
    have I2 : Inv X pins σ H1 { s1 with heap := h' } := I1.kept (t' := s1.toks) hk
    refine ⟨s1.heap.objs.size + 1, [s1.heap.objs.size + 1, s1.heap.objs.size], _, _, H1, rfl, I2, turn_enumT a (s1.heap.objs.size + 1) s1.heap.objs.size, ⟨⟨.none, he⟩, ⟨_, hit, rfl, rfl⟩, Nat.succ_ne_self _, Nat.ne_of_gt (Nat.lt_succ_of_lt al), Nat.ne_of_gt al⟩, fun b hb => ?_, q⟩
    have le : s1.heap.objs.size ≤ b := by
      rcases List.mem_cons.mp hb with z | z
      · rw [z]; exact Nat.le_add_right _ _
      · rw [List.mem_singleton.mp z]; exact Nat.le_refl _
    exact I1.fpOk le (I1.hok.fresh le)
theorem for_enumT {K : PySem.W.Frag} {a : Addr} {xs : List V} {g : TG} {tb : TS} {D : Ends} {σ : L2.St} {H : Hp} (Pv : Nat → L2.St → Hp → Prop) (h0 : Pv 0 σ H) (hq : ∀ i σ H, Pv i σ H → SqT K H a xs)
    (hs : ∀ (i : Nat) (x : V) (t : Addr) (σ : L2.St) (H : Hp), xs[i]? = some x → Pv i σ H → H t = none → g (.ref t) σ (upd H t (.tup [.int (i : Nat), x])) fun σ2 H2 => tb { D with nx := Pv (i + 1), ct := Pv (i + 1), bk := D.nx } σ2 H2)
    (hd : ∀ σ H, Pv xs.length σ H → D.nx σ H) : ∃ W : Nat → Nat → L2.St → Hp → Prop, (∃ m, W 0 m σ H) ∧ ∀ i m σ H, W i m σ H →
      ((IteT K a).stop i H ∧ D.nx σ H) ∨ ((IteT K a).go i H ∧ ∃ N : L2.St → Hp → Prop, (∀ σ' H', N σ' H' → ∃ m', m' < m ∧ W (i + 1) m' σ' H') ∧ ∀ v H', (IteT K a).yld i H v H' → g v σ H' fun σ2 H2 => tb { D with nx := N, ct := N, bk := D.nx } σ2 H2) := by
  refine ⟨fun i m σ H => m = xs.length - i ∧ i ≤ xs.length ∧ Pv i σ H, ⟨_, rfl, Nat.zero_le _, h0⟩, ?_⟩
  rintro i m σ H ⟨rfl, hi, p⟩
  have q := hq i σ H p
  by_cases lt : i < xs.length
  · refine .inr ⟨⟨xs, _, q, List.getElem?_eq_getElem lt⟩, Pv (i + 1), fun σ' H' p2 => ⟨_, by omega, rfl, lt, p2⟩, fun v H' y => ?_⟩
    obtain ⟨t, x, rfl, nt, rfl, f⟩ := y
    exact hs i x t σ H (f xs q) p nt
  · have e : i = xs.length := by omega
    subst e
    exact .inl ⟨⟨xs, q, Nat.le_refl _⟩, hd σ H p⟩
end
/-! ### x |= e -/
theorem ip_or {X : Cx} : PIp X .BitOr (ipI fun i j => Builtin.bitOr i j) := by
  intro pins s σ H x y v u Q I r1 r2 h
  exact iop_or pins s σ H x y v u Q I r1 r2 h
/-! ### comprehensions -/
theorem filterMap_range_succ {α : Type} (f : Nat → Option α) (n : Nat) : (List.range (n + 1)).filterMap f = (List.range n).filterMap f ++ (f n).toList := by
  rw [List.range_succ, List.filterMap_append]
  cases e : f n with
  | none => simp [e]
  | some v => simp [e]
theorem filterMap_range_len {α : Type} (f : Nat → Option α) (n : Nat) : ((List.range n).filterMap f).length ≤ n := by
  have h := List.length_filterMap_le f (List.range n)
  rw [List.length_range] at h
  exact h
theorem lt_line {n : Nat} (h : n ≤ 100000) : n < sizeLine := Nat.lt_of_le_of_lt h (by decide)
theorem lc_rangeF {lo : Int} {n : Nat} {g : TG} {tt : TT} {te : TE} {vs : List Nat} {σ : St} {H1 : Hp} {D : Addr} {Qd : Hp → Prop} (f : Nat → Option V) (nD : H1 D = none) (hn : n ≤ 100000)
    (hs : ∀ (i : Nat) (H : Hp) (N : V → Hp → Prop) (M : Hp → Prop), i < n → Same H1 H → (∀ v H4, f i = some v → Same H H4 → N v H4) → (∀ H4, f i = none → Same H H4 → M H4) → g (.int (lo + (i : Int))) (wipe σ vs) H fun σ2 H2 => wipe σ2 vs = wipe σ vs ∧ tt σ2 H2 fun b H3 => if b = true then te σ2 H3 N else M H3)
    (hd : ∀ H, Same H1 H → H D = some (.lst ((List.range n).filterMap f)) → Qd H) : ∃ W : Nat → Nat → Hp → Prop, (∃ m, W 0 m (upd H1 D (.lst []))) ∧ ∀ i m H, W i m H →
      ((Itr lo n).stop i H ∧ Qd H) ∨ ((Itr lo n).go i H ∧ ∃ Nx : Hp → Prop, (∀ H', Nx H' → ∃ m', m' < m ∧ W (i + 1) m' H') ∧ ∀ x H', (Itr lo n).yld i H x H' → g x (wipe σ vs) H' fun σ2 H2 => wipe σ2 vs = wipe σ vs ∧ tt σ2 H2 fun b H3 =>
        if b = true then te σ2 H3 fun y H4 => ∃ acc, H4 D = some (.lst acc) ∧ acc.length < sizeLine ∧ Nx (upd H4 D (.lst (acc ++ [y]))) else Nx H3) := by
  refine lc_range (lo := lo) (n := n) (fun i H => Same H1 H ∧ H D = some (.lst ((List.range i).filterMap f))) ⟨Same.new (Same.refl H1) nD, upd_same⟩ (fun i H hi p => ?_) (fun H p => hd H p.1 p.2)
  have il : i < n := hi
  have hz := filterMap_range_len f i
  refine hs i H _ _ hi p.1 (fun v H4 e s => ⟨_, s _ _ p.2, lt_line (by omega), ?_, ?_⟩) (fun H4 e s => ⟨?_, ?_⟩)
  · exact Same.mut (Same.trans p.1 s) nD
  · rw [filterMap_range_succ, e]
    exact upd_same
  · exact Same.trans p.1 s
  · rw [filterMap_range_succ, e, s _ _ p.2]
    simp
theorem lc_rangeM {lo : Int} {n : Nat} {g : TG} {tt : TT} {te : TE} {vs : List Nat} {σ : St} {H1 : Hp} {D : Addr} {Qd : Hp → Prop} {τ : Tp} (R : Nat → V → Hp → Prop) (st : ∀ i v H H', R i v H → TK H H' → R i v H') (t : Tape τ H1) (nD : H1 D = none) (hn : n ≤ 100000)
    (hs : ∀ (i : Nat) (H : Hp) (N : V → Hp → Prop) (M : Hp → Prop), i < n → Mv τ H1 H → (∀ v H4, Mv τ H H4 → R i v H4 → N v H4) → g (.int (lo + (i : Int))) (wipe σ vs) H fun σ2 H2 => wipe σ2 vs = wipe σ vs ∧ tt σ2 H2 fun b H3 => if b = true then te σ2 H3 N else M H3)
    (hd : ∀ H acc, Mv τ H1 H → H D = some (.lst acc) → acc.length = n → (∀ (j : Nat) v, acc[j]? = some v → R j v H) → Qd H) : ∃ W : Nat → Nat → Hp → Prop, (∃ m, W 0 m (upd H1 D (.lst []))) ∧ ∀ i m H, W i m H →
      ((Itr lo n).stop i H ∧ Qd H) ∨ ((Itr lo n).go i H ∧ ∃ Nx : Hp → Prop, (∀ H', Nx H' → ∃ m', m' < m ∧ W (i + 1) m' H') ∧ ∀ x H', (Itr lo n).yld i H x H' → g x (wipe σ vs) H' fun σ2 H2 => wipe σ2 vs = wipe σ vs ∧ tt σ2 H2 fun b H3 =>
        if b = true then te σ2 H3 fun y H4 => ∃ acc, H4 D = some (.lst acc) ∧ acc.length < sizeLine ∧ Nx (upd H4 D (.lst (acc ++ [y]))) else Nx H3) := by
  refine lc_range (lo := lo) (n := n) (fun i H => Mv τ H1 H ∧ ∃ acc, H D = some (.lst acc) ∧ acc.length = i ∧ ∀ (j : Nat) v, acc[j]? = some v → R j v H) ⟨(t.mv).new nD, [], upd_same, rfl, fun j v e => by simp at e⟩ (fun i H hi p => ?_) (fun H p => ?_)
  · obtain ⟨m, acc, hD, hlen, hR⟩ := p
    have il : i < n := hi
    refine hs i H _ _ hi m (fun v H4 m4 r => ⟨acc, m4.keep _ _ (t.mv.neF nD) hD, lt_line (by omega), (m.trans m4).mut nD, acc ++ [v], upd_same, by rw [List.length_append, hlen]; rfl, fun j u e => ?_⟩)
    have k1 : TK H4 (upd H4 D (.lst (acc ++ [v]))) := TK.mut (m4.keep _ _ (t.mv.neF nD) hD)
    by_cases hj : j < acc.length
    · rw [List.getElem?_append_left hj] at e
      exact st _ _ _ _ (st _ _ _ _ (hR j u e) m4.tk) k1
    · rw [List.getElem?_append_right (by omega)] at e
      have hj2 : j = i := by
        have q := (List.getElem?_eq_some_iff.mp e).1
        rw [List.length_singleton] at q
        omega
      rw [hj2, hlen, Nat.sub_self] at e
      have e2 : v = u := Option.some.inj e
      rw [← e2, hj2]
      exact st _ _ _ _ r k1
  · obtain ⟨m, acc, hD, hlen, hR⟩ := p
    exact hd H acc m hD hlen hR
theorem lc_listF {K : PySem.W.Frag} {a : Addr} {xs : List V} {g : TG} {tt : TT} {te : TE} {vs : List Nat} {σ : St} {H1 : Hp} {D : Addr} {Qd : Hp → Prop} (f : Nat → Option V) (hx : H1 a = some (.lst xs)) (nD : H1 D = none) (hn : xs.length ≤ 100000)
    (hs : ∀ (i : Nat) (x : V) (H : Hp) (N : V → Hp → Prop) (M : Hp → Prop), xs[i]? = some x → Same H1 H → (∀ v H4, f i = some v → Same H H4 → N v H4) → (∀ H4, f i = none → Same H H4 → M H4) → g x (wipe σ vs) H fun σ2 H2 => wipe σ2 vs = wipe σ vs ∧ tt σ2 H2 fun b H3 => if b = true then te σ2 H3 N else M H3)
    (hd : ∀ H, Same H1 H → H D = some (.lst ((List.range xs.length).filterMap f)) → Qd H) : ∃ W : Nat → Nat → Hp → Prop, (∃ m, W 0 m (upd H1 D (.lst []))) ∧ ∀ i m H, W i m H →
      ((Itl K a).stop i H ∧ Qd H) ∨ ((Itl K a).go i H ∧ ∃ Nx : Hp → Prop, (∀ H', Nx H' → ∃ m', m' < m ∧ W (i + 1) m' H') ∧ ∀ x H', (Itl K a).yld i H x H' → g x (wipe σ vs) H' fun σ2 H2 => wipe σ2 vs = wipe σ vs ∧ tt σ2 H2 fun b H3 =>
        if b = true then te σ2 H3 fun y H4 => ∃ acc, H4 D = some (.lst acc) ∧ acc.length < sizeLine ∧ Nx (upd H4 D (.lst (acc ++ [y]))) else Nx H3) := by
  refine lc_list (K := K) (a := a) (xs := xs) (fun i H => Same H1 H ∧ H D = some (.lst ((List.range i).filterMap f))) ⟨Same.new (Same.refl H1) nD, upd_same⟩ (fun i H _ p => SqL.of (p.1 _ _ hx)) (fun i x H hi p => ?_) (fun H p => hd H p.1 p.2)
  have il : i < xs.length := (List.getElem?_eq_some_iff.mp hi).1
  have hz := filterMap_range_len f i
  refine hs i x H _ _ hi p.1 (fun v H4 e s => ⟨_, s _ _ p.2, lt_line (by omega), ?_, ?_⟩) (fun H4 e s => ⟨?_, ?_⟩)
  · exact Same.mut (Same.trans p.1 s) nD
  · rw [filterMap_range_succ, e]
    exact upd_same
  · exact Same.trans p.1 s
  · rw [filterMap_range_succ, e, s _ _ p.2]
    simp
theorem lc_listM {K : PySem.W.Frag} {a : Addr} {xs : List V} {g : TG} {tt : TT} {te : TE} {vs : List Nat} {σ : St} {H1 : Hp} {D : Addr} {Qd : Hp → Prop} {τ : Tp} (R : Nat → V → Hp → Prop) (st : ∀ i v H H', R i v H → TK H H' → R i v H') (hx : H1 a = some (.lst xs)) (ne_a : a ≠ τ.t) (t : Tape τ H1) (nD : H1 D = none) (hn : xs.length ≤ 100000)
    (hs : ∀ (i : Nat) (x : V) (H : Hp) (N : V → Hp → Prop) (M : Hp → Prop), xs[i]? = some x → Mv τ H1 H → (∀ v H4, Mv τ H H4 → R i v H4 → N v H4) → g x (wipe σ vs) H fun σ2 H2 => wipe σ2 vs = wipe σ vs ∧ tt σ2 H2 fun b H3 => if b = true then te σ2 H3 N else M H3)
    (hd : ∀ H acc, Mv τ H1 H → H D = some (.lst acc) → acc.length = xs.length → (∀ (j : Nat) v, acc[j]? = some v → R j v H) → Qd H) : ∃ W : Nat → Nat → Hp → Prop, (∃ m, W 0 m (upd H1 D (.lst []))) ∧ ∀ i m H, W i m H →
      ((Itl K a).stop i H ∧ Qd H) ∨ ((Itl K a).go i H ∧ ∃ Nx : Hp → Prop, (∀ H', Nx H' → ∃ m', m' < m ∧ W (i + 1) m' H') ∧ ∀ x H', (Itl K a).yld i H x H' → g x (wipe σ vs) H' fun σ2 H2 => wipe σ2 vs = wipe σ vs ∧ tt σ2 H2 fun b H3 =>
        if b = true then te σ2 H3 fun y H4 => ∃ acc, H4 D = some (.lst acc) ∧ acc.length < sizeLine ∧ Nx (upd H4 D (.lst (acc ++ [y]))) else Nx H3) := by
  refine lc_list (K := K) (a := a) (xs := xs) (fun i H => Mv τ H1 H ∧ ∃ acc, H D = some (.lst acc) ∧ acc.length = i ∧ ∀ (j : Nat) v, acc[j]? = some v → R j v H) ⟨(t.mv).new nD, [], upd_same, rfl, fun j v e => by simp at e⟩ (fun i H _ p => SqL.of (p.1.keep _ _ ne_a hx)) (fun i x H hi p => ?_) (fun H p => ?_)
  · obtain ⟨m, acc, hD, hlen, hR⟩ := p
    have il : i < xs.length := (List.getElem?_eq_some_iff.mp hi).1
    refine hs i x H _ _ hi m (fun v H4 m4 r => ⟨acc, m4.keep _ _ (t.mv.neF nD) hD, lt_line (by omega), (m.trans m4).mut nD, acc ++ [v], upd_same, by rw [List.length_append, hlen]; rfl, fun j u e => ?_⟩)
    have k1 : TK H4 (upd H4 D (.lst (acc ++ [v]))) := TK.mut (m4.keep _ _ (t.mv.neF nD) hD)
    by_cases hj : j < acc.length
    · rw [List.getElem?_append_left hj] at e
      exact st _ _ _ _ (st _ _ _ _ (hR j u e) m4.tk) k1
    · rw [List.getElem?_append_right (by omega)] at e
      have hj2 : j = i := by
        have q := (List.getElem?_eq_some_iff.mp e).1
        rw [List.length_singleton] at q
        omega
      rw [hj2, hlen, Nat.sub_self] at e
      have e2 : v = u := Option.some.inj e
      rw [← e2, hj2]
      exact st _ _ _ _ r k1
  · obtain ⟨m, acc, hD, hlen, hR⟩ := p
    exact hd H acc m hD hlen hR
theorem lc_tupF {K : PySem.W.Frag} {a : Addr} {xs : List V} {g : TG} {tt : TT} {te : TE} {vs : List Nat} {σ : St} {H1 : Hp} {D : Addr} {Qd : Hp → Prop} (f : Nat → Option V) (hx : H1 a = some (.tup xs)) (nD : H1 D = none) (hn : xs.length ≤ 100000)
    (hs : ∀ (i : Nat) (x : V) (H : Hp) (N : V → Hp → Prop) (M : Hp → Prop), xs[i]? = some x → Same H1 H → (∀ v H4, f i = some v → Same H H4 → N v H4) → (∀ H4, f i = none → Same H H4 → M H4) → g x (wipe σ vs) H fun σ2 H2 => wipe σ2 vs = wipe σ vs ∧ tt σ2 H2 fun b H3 => if b = true then te σ2 H3 N else M H3)
    (hd : ∀ H, Same H1 H → H D = some (.lst ((List.range xs.length).filterMap f)) → Qd H) : ∃ W : Nat → Nat → Hp → Prop, (∃ m, W 0 m (upd H1 D (.lst []))) ∧ ∀ i m H, W i m H →
      ((Itt K a).stop i H ∧ Qd H) ∨ ((Itt K a).go i H ∧ ∃ Nx : Hp → Prop, (∀ H', Nx H' → ∃ m', m' < m ∧ W (i + 1) m' H') ∧ ∀ x H', (Itt K a).yld i H x H' → g x (wipe σ vs) H' fun σ2 H2 => wipe σ2 vs = wipe σ vs ∧ tt σ2 H2 fun b H3 =>
        if b = true then te σ2 H3 fun y H4 => ∃ acc, H4 D = some (.lst acc) ∧ acc.length < sizeLine ∧ Nx (upd H4 D (.lst (acc ++ [y]))) else Nx H3) := by
  refine lc_tup (K := K) (a := a) (xs := xs) (fun i H => Same H1 H ∧ H D = some (.lst ((List.range i).filterMap f))) ⟨Same.new (Same.refl H1) nD, upd_same⟩ (fun i H _ p => SqT.of (p.1 _ _ hx)) (fun i x H hi p => ?_) (fun H p => hd H p.1 p.2)
  have il : i < xs.length := (List.getElem?_eq_some_iff.mp hi).1
  have hz := filterMap_range_len f i
  refine hs i x H _ _ hi p.1 (fun v H4 e s => ⟨_, s _ _ p.2, lt_line (by omega), ?_, ?_⟩) (fun H4 e s => ⟨?_, ?_⟩)
  · exact Same.mut (Same.trans p.1 s) nD
  · rw [filterMap_range_succ, e]
    exact upd_same
  · exact Same.trans p.1 s
  · rw [filterMap_range_succ, e, s _ _ p.2]
    simp
theorem lc_tupM {K : PySem.W.Frag} {a : Addr} {xs : List V} {g : TG} {tt : TT} {te : TE} {vs : List Nat} {σ : St} {H1 : Hp} {D : Addr} {Qd : Hp → Prop} {τ : Tp} (R : Nat → V → Hp → Prop) (st : ∀ i v H H', R i v H → TK H H' → R i v H') (hx : H1 a = some (.tup xs)) (ne_a : a ≠ τ.t) (t : Tape τ H1) (nD : H1 D = none) (hn : xs.length ≤ 100000)
    (hs : ∀ (i : Nat) (x : V) (H : Hp) (N : V → Hp → Prop) (M : Hp → Prop), xs[i]? = some x → Mv τ H1 H → (∀ v H4, Mv τ H H4 → R i v H4 → N v H4) → g x (wipe σ vs) H fun σ2 H2 => wipe σ2 vs = wipe σ vs ∧ tt σ2 H2 fun b H3 => if b = true then te σ2 H3 N else M H3)
    (hd : ∀ H acc, Mv τ H1 H → H D = some (.lst acc) → acc.length = xs.length → (∀ (j : Nat) v, acc[j]? = some v → R j v H) → Qd H) : ∃ W : Nat → Nat → Hp → Prop, (∃ m, W 0 m (upd H1 D (.lst []))) ∧ ∀ i m H, W i m H →
      ((Itt K a).stop i H ∧ Qd H) ∨ ((Itt K a).go i H ∧ ∃ Nx : Hp → Prop, (∀ H', Nx H' → ∃ m', m' < m ∧ W (i + 1) m' H') ∧ ∀ x H', (Itt K a).yld i H x H' → g x (wipe σ vs) H' fun σ2 H2 => wipe σ2 vs = wipe σ vs ∧ tt σ2 H2 fun b H3 =>
        if b = true then te σ2 H3 fun y H4 => ∃ acc, H4 D = some (.lst acc) ∧ acc.length < sizeLine ∧ Nx (upd H4 D (.lst (acc ++ [y]))) else Nx H3) := by
  refine lc_tup (K := K) (a := a) (xs := xs) (fun i H => Mv τ H1 H ∧ ∃ acc, H D = some (.lst acc) ∧ acc.length = i ∧ ∀ (j : Nat) v, acc[j]? = some v → R j v H) ⟨(t.mv).new nD, [], upd_same, rfl, fun j v e => by simp at e⟩ (fun i H _ p => SqT.of (p.1.keep _ _ ne_a hx)) (fun i x H hi p => ?_) (fun H p => ?_)
  · obtain ⟨m, acc, hD, hlen, hR⟩ := p
    have il : i < xs.length := (List.getElem?_eq_some_iff.mp hi).1
    refine hs i x H _ _ hi m (fun v H4 m4 r => ⟨acc, m4.keep _ _ (t.mv.neF nD) hD, lt_line (by omega), (m.trans m4).mut nD, acc ++ [v], upd_same, by rw [List.length_append, hlen]; rfl, fun j u e => ?_⟩)
    have k1 : TK H4 (upd H4 D (.lst (acc ++ [v]))) := TK.mut (m4.keep _ _ (t.mv.neF nD) hD)
    by_cases hj : j < acc.length
    · rw [List.getElem?_append_left hj] at e
      exact st _ _ _ _ (st _ _ _ _ (hR j u e) m4.tk) k1
    · rw [List.getElem?_append_right (by omega)] at e
      have hj2 : j = i := by
        have q := (List.getElem?_eq_some_iff.mp e).1
        rw [List.length_singleton] at q
        omega
      rw [hj2, hlen, Nat.sub_self] at e
      have e2 : v = u := Option.some.inj e
      rw [← e2, hj2]
      exact st _ _ _ _ r k1
  · obtain ⟨m, acc, hD, hlen, hR⟩ := p
    exact hd H acc m hD hlen hR
/-! ### comprehensions over zip -/
theorem lc_zipLF {K : PySem.W.Frag} {a b : Addr} {xs ys : List V} {g : TG} {tt : TT} {te : TE} {vs : List Nat} {σ : St} {H1 : Hp} {D : Addr} {Qd : Hp → Prop} (f : Nat → Option V) (hx : H1 a = some (.lst xs)) (hy : H1 b = some (.lst ys)) (hl : xs.length = ys.length) (nD : H1 D = none) (hn : xs.length ≤ 100000)
    (hs : ∀ (i : Nat) (x y : V) (Z : Addr) (H : Hp) (N : V → Hp → Prop) (M : Hp → Prop), xs[i]? = some x → ys[i]? = some y → Same H1 H → H Z = some (.tup [x, y]) → (∀ v H4, f i = some v → Same H H4 → N v H4) → (∀ H4, f i = none → Same H H4 → M H4) → g (.ref Z) (wipe σ vs) H fun σ2 H2 => wipe σ2 vs = wipe σ vs ∧ tt σ2 H2 fun b H3 => if b = true then te σ2 H3 N else M H3)
    (hd : ∀ H, Same H1 H → H D = some (.lst ((List.range xs.length).filterMap f)) → Qd H) : ∃ W : Nat → Nat → Hp → Prop, (∃ m, W 0 m (upd H1 D (.lst []))) ∧ ∀ i m H, W i m H →
      ((Itz K a b).stop i H ∧ Qd H) ∨ ((Itz K a b).go i H ∧ ∃ Nx : Hp → Prop, (∀ H', Nx H' → ∃ m', m' < m ∧ W (i + 1) m' H') ∧ ∀ x H', (Itz K a b).yld i H x H' → g x (wipe σ vs) H' fun σ2 H2 => wipe σ2 vs = wipe σ vs ∧ tt σ2 H2 fun b H3 =>
        if b = true then te σ2 H3 fun y H4 => ∃ acc, H4 D = some (.lst acc) ∧ acc.length < sizeLine ∧ Nx (upd H4 D (.lst (acc ++ [y]))) else Nx H3) := by
  refine ⟨fun i m H => m = xs.length - i ∧ i ≤ xs.length ∧ Same H1 H ∧ H D = some (.lst ((List.range i).filterMap f)), ⟨xs.length, rfl, Nat.zero_le _, Same.new (Same.refl H1) nD, upd_same⟩, ?_⟩
  rintro i m H ⟨rfl, hi, s, hD⟩
  have qx : SqL K H a xs := SqL.of (s _ _ hx)
  have qy : SqL K H b ys := SqL.of (s _ _ hy)
  have hz := filterMap_range_len f i
  by_cases hlt : i < xs.length
  · have ex : xs[i]? = some xs[i] := List.getElem?_eq_getElem hlt
    have hlt2 : i < ys.length := by omega
    have ey : ys[i]? = some ys[i] := List.getElem?_eq_getElem hlt2
    refine .inr ⟨⟨xs, ys, _, _, qx, qy, ex, ey⟩, fun H => i < xs.length ∧ Same H1 H ∧ H D = some (.lst ((List.range (i + 1)).filterMap f)), fun H' p' => ⟨xs.length - (i + 1), by omega, rfl, hlt, p'.2⟩, fun v H' y => ?_⟩
    obtain ⟨Z, x', y', rfl, hZ, rfl, f1, f2⟩ := y
    have s1 : Same H (upd H Z (.tup [x', y'])) := Same.new (Same.refl H) hZ
    refine hs i x' y' Z _ _ _ (f1 xs qx) (f2 ys qy) (s.trans s1) upd_same (fun v H4 e s4 => ⟨_, s4 _ _ (s1 _ _ hD), lt_line (by omega), hlt, ?_, ?_⟩) (fun H4 e s4 => ⟨hlt, ?_, ?_⟩)
    · exact Same.mut ((s.trans s1).trans s4) nD
    · rw [filterMap_range_succ, e]
      exact upd_same
    · exact (s.trans s1).trans s4
    · rw [filterMap_range_succ, e, s4 _ _ (s1 _ _ hD)]
      simp
  · have e : i = xs.length := by omega
    subst e
    exact .inl ⟨⟨xs, ys, qx, qy, Or.inl (Nat.le_refl _)⟩, hd H s hD⟩
theorem lc_zipTF {K : PySem.W.Frag} {a b : Addr} {xs ys : List V} {g : TG} {tt : TT} {te : TE} {vs : List Nat} {σ : St} {H1 : Hp} {D : Addr} {Qd : Hp → Prop} (f : Nat → Option V) (hx : H1 a = some (.tup xs)) (hy : H1 b = some (.tup ys)) (hl : xs.length = ys.length) (nD : H1 D = none) (hn : xs.length ≤ 100000)
    (hs : ∀ (i : Nat) (x y : V) (Z : Addr) (H : Hp) (N : V → Hp → Prop) (M : Hp → Prop), xs[i]? = some x → ys[i]? = some y → Same H1 H → H Z = some (.tup [x, y]) → (∀ v H4, f i = some v → Same H H4 → N v H4) → (∀ H4, f i = none → Same H H4 → M H4) → g (.ref Z) (wipe σ vs) H fun σ2 H2 => wipe σ2 vs = wipe σ vs ∧ tt σ2 H2 fun b H3 => if b = true then te σ2 H3 N else M H3)
    (hd : ∀ H, Same H1 H → H D = some (.lst ((List.range xs.length).filterMap f)) → Qd H) : ∃ W : Nat → Nat → Hp → Prop, (∃ m, W 0 m (upd H1 D (.lst []))) ∧ ∀ i m H, W i m H →
      ((RZ.ItzT K a b).stop i H ∧ Qd H) ∨ ((RZ.ItzT K a b).go i H ∧ ∃ Nx : Hp → Prop, (∀ H', Nx H' → ∃ m', m' < m ∧ W (i + 1) m' H') ∧ ∀ x H', (RZ.ItzT K a b).yld i H x H' → g x (wipe σ vs) H' fun σ2 H2 => wipe σ2 vs = wipe σ vs ∧ tt σ2 H2 fun b H3 =>
        if b = true then te σ2 H3 fun y H4 => ∃ acc, H4 D = some (.lst acc) ∧ acc.length < sizeLine ∧ Nx (upd H4 D (.lst (acc ++ [y]))) else Nx H3) := by
  refine ⟨fun i m H => m = xs.length - i ∧ i ≤ xs.length ∧ Same H1 H ∧ H D = some (.lst ((List.range i).filterMap f)), ⟨xs.length, rfl, Nat.zero_le _, Same.new (Same.refl H1) nD, upd_same⟩, ?_⟩
  rintro i m H ⟨rfl, hi, s, hD⟩
  have qx : SqT K H a xs := SqT.of (s _ _ hx)
  have qy : SqT K H b ys := SqT.of (s _ _ hy)
  have hz := filterMap_range_len f i
  by_cases hlt : i < xs.length
  · have ex : xs[i]? = some xs[i] := List.getElem?_eq_getElem hlt
    have hlt2 : i < ys.length := by omega
    have ey : ys[i]? = some ys[i] := List.getElem?_eq_getElem hlt2
    refine .inr ⟨⟨xs, ys, _, _, qx, qy, ex, ey⟩, fun H => i < xs.length ∧ Same H1 H ∧ H D = some (.lst ((List.range (i + 1)).filterMap f)), fun H' p' => ⟨xs.length - (i + 1), by omega, rfl, hlt, p'.2⟩, fun v H' y => ?_⟩
    obtain ⟨Z, x', y', rfl, hZ, rfl, f1, f2⟩ := y
    have s1 : Same H (upd H Z (.tup [x', y'])) := Same.new (Same.refl H) hZ
    refine hs i x' y' Z _ _ _ (f1 xs qx) (f2 ys qy) (s.trans s1) upd_same (fun v H4 e s4 => ⟨_, s4 _ _ (s1 _ _ hD), lt_line (by omega), hlt, ?_, ?_⟩) (fun H4 e s4 => ⟨hlt, ?_, ?_⟩)
    · exact Same.mut ((s.trans s1).trans s4) nD
    · rw [filterMap_range_succ, e]
      exact upd_same
    · exact (s.trans s1).trans s4
    · rw [filterMap_range_succ, e, s4 _ _ (s1 _ _ hD)]
      simp
  · have e : i = xs.length := by omega
    subst e
    exact .inl ⟨⟨xs, ys, qx, qy, Or.inl (Nat.le_refl _)⟩, hd H s hD⟩
/-! comprehensions whose items are new things -/
theorem lc_rangeR {lo : Int} {n : Nat} {g : TG} {tt : TT} {te : TE} {vs : List Nat} {σ : St} {H1 : Hp} {D : Addr} {Qd : Hp → Prop} (R : Nat → V → Hp → Prop) (st : ∀ i v H H', R i v H → TK H H' → R i v H') (nD : H1 D = none) (hn : n ≤ 100000)
    (hs : ∀ (i : Nat) (H : Hp) (N : V → Hp → Prop) (M : Hp → Prop), i < n → Same H1 H → (∀ v H4, Same H H4 → R i v H4 → N v H4) → g (.int (lo + (i : Int))) (wipe σ vs) H fun σ2 H2 => wipe σ2 vs = wipe σ vs ∧ tt σ2 H2 fun b H3 => if b = true then te σ2 H3 N else M H3)
    (hd : ∀ H acc, Same H1 H → H D = some (.lst acc) → acc.length = n → (∀ (j : Nat) v, acc[j]? = some v → R j v H) → Qd H) : ∃ W : Nat → Nat → Hp → Prop, (∃ m, W 0 m (upd H1 D (.lst []))) ∧ ∀ i m H, W i m H →
      ((Itr lo n).stop i H ∧ Qd H) ∨ ((Itr lo n).go i H ∧ ∃ Nx : Hp → Prop, (∀ H', Nx H' → ∃ m', m' < m ∧ W (i + 1) m' H') ∧ ∀ x H', (Itr lo n).yld i H x H' → g x (wipe σ vs) H' fun σ2 H2 => wipe σ2 vs = wipe σ vs ∧ tt σ2 H2 fun b H3 =>
        if b = true then te σ2 H3 fun y H4 => ∃ acc, H4 D = some (.lst acc) ∧ acc.length < sizeLine ∧ Nx (upd H4 D (.lst (acc ++ [y]))) else Nx H3) := by
  refine lc_range (lo := lo) (n := n) (fun i H => Same H1 H ∧ ∃ acc, H D = some (.lst acc) ∧ acc.length = i ∧ ∀ (j : Nat) v, acc[j]? = some v → R j v H) ⟨Same.new (Same.refl H1) nD, [], upd_same, rfl, fun j v e => by simp at e⟩ (fun i H hi p => ?_) (fun H p => ?_)
  · obtain ⟨m, acc, hD, hlen, hR⟩ := p
    have il : i < n := hi
    refine hs i H _ _ hi m (fun v H4 m4 r => ⟨acc, m4 _ _ hD, lt_line (by omega), Same.mut (Same.trans m m4) nD, acc ++ [v], upd_same, by rw [List.length_append, hlen]; rfl, fun j u e => ?_⟩)
    have k1 : TK H4 (upd H4 D (.lst (acc ++ [v]))) := TK.mut (m4 _ _ hD)
    by_cases hj : j < acc.length
    · rw [List.getElem?_append_left hj] at e
      exact st _ _ _ _ (st _ _ _ _ (hR j u e) (Same.tk m4)) k1
    · rw [List.getElem?_append_right (by omega)] at e
      have hj2 : j = i := by
        have q := (List.getElem?_eq_some_iff.mp e).1
        rw [List.length_singleton] at q
        omega
      rw [hj2, hlen, Nat.sub_self] at e
      have e2 : v = u := Option.some.inj e
      rw [← e2, hj2]
      exact st _ _ _ _ r k1
  · obtain ⟨m, acc, hD, hlen, hR⟩ := p
    exact hd H acc m hD hlen hR
theorem lc_listR {K : PySem.W.Frag} {a : Addr} {xs : List V} {g : TG} {tt : TT} {te : TE} {vs : List Nat} {σ : St} {H1 : Hp} {D : Addr} {Qd : Hp → Prop} (R : Nat → V → Hp → Prop) (st : ∀ i v H H', R i v H → TK H H' → R i v H') (hx : H1 a = some (.lst xs)) (nD : H1 D = none) (hn : xs.length ≤ 100000)
    (hs : ∀ (i : Nat) (x : V) (H : Hp) (N : V → Hp → Prop) (M : Hp → Prop), xs[i]? = some x → Same H1 H → (∀ v H4, Same H H4 → R i v H4 → N v H4) → g x (wipe σ vs) H fun σ2 H2 => wipe σ2 vs = wipe σ vs ∧ tt σ2 H2 fun b H3 => if b = true then te σ2 H3 N else M H3)
    (hd : ∀ H acc, Same H1 H → H D = some (.lst acc) → acc.length = xs.length → (∀ (j : Nat) v, acc[j]? = some v → R j v H) → Qd H) : ∃ W : Nat → Nat → Hp → Prop, (∃ m, W 0 m (upd H1 D (.lst []))) ∧ ∀ i m H, W i m H →
      ((Itl K a).stop i H ∧ Qd H) ∨ ((Itl K a).go i H ∧ ∃ Nx : Hp → Prop, (∀ H', Nx H' → ∃ m', m' < m ∧ W (i + 1) m' H') ∧ ∀ x H', (Itl K a).yld i H x H' → g x (wipe σ vs) H' fun σ2 H2 => wipe σ2 vs = wipe σ vs ∧ tt σ2 H2 fun b H3 =>
        if b = true then te σ2 H3 fun y H4 => ∃ acc, H4 D = some (.lst acc) ∧ acc.length < sizeLine ∧ Nx (upd H4 D (.lst (acc ++ [y]))) else Nx H3) := by
  refine lc_list (K := K) (a := a) (xs := xs) (fun i H => Same H1 H ∧ ∃ acc, H D = some (.lst acc) ∧ acc.length = i ∧ ∀ (j : Nat) v, acc[j]? = some v → R j v H) ⟨Same.new (Same.refl H1) nD, [], upd_same, rfl, fun j v e => by simp at e⟩ (fun i H _ p => SqL.of (p.1 _ _ hx)) (fun i x H hi p => ?_) (fun H p => ?_)
  · obtain ⟨m, acc, hD, hlen, hR⟩ := p
    have il : i < xs.length := (List.getElem?_eq_some_iff.mp hi).1
    refine hs i x H _ _ hi m (fun v H4 m4 r => ⟨acc, m4 _ _ hD, lt_line (by omega), Same.mut (Same.trans m m4) nD, acc ++ [v], upd_same, by rw [List.length_append, hlen]; rfl, fun j u e => ?_⟩)
    have k1 : TK H4 (upd H4 D (.lst (acc ++ [v]))) := TK.mut (m4 _ _ hD)
    by_cases hj : j < acc.length
    · rw [List.getElem?_append_left hj] at e
      exact st _ _ _ _ (st _ _ _ _ (hR j u e) (Same.tk m4)) k1
    · rw [List.getElem?_append_right (by omega)] at e
      have hj2 : j = i := by
        have q := (List.getElem?_eq_some_iff.mp e).1
        rw [List.length_singleton] at q
        omega
      rw [hj2, hlen, Nat.sub_self] at e
      have e2 : v = u := Option.some.inj e
      rw [← e2, hj2]
      exact st _ _ _ _ r k1
  · obtain ⟨m, acc, hD, hlen, hR⟩ := p
    exact hd H acc m hD hlen hR
theorem lc_tupR {K : PySem.W.Frag} {a : Addr} {xs : List V} {g : TG} {tt : TT} {te : TE} {vs : List Nat} {σ : St} {H1 : Hp} {D : Addr} {Qd : Hp → Prop} (R : Nat → V → Hp → Prop) (st : ∀ i v H H', R i v H → TK H H' → R i v H') (hx : H1 a = some (.tup xs)) (nD : H1 D = none) (hn : xs.length ≤ 100000)
    (hs : ∀ (i : Nat) (x : V) (H : Hp) (N : V → Hp → Prop) (M : Hp → Prop), xs[i]? = some x → Same H1 H → (∀ v H4, Same H H4 → R i v H4 → N v H4) → g x (wipe σ vs) H fun σ2 H2 => wipe σ2 vs = wipe σ vs ∧ tt σ2 H2 fun b H3 => if b = true then te σ2 H3 N else M H3)
    (hd : ∀ H acc, Same H1 H → H D = some (.lst acc) → acc.length = xs.length → (∀ (j : Nat) v, acc[j]? = some v → R j v H) → Qd H) : ∃ W : Nat → Nat → Hp → Prop, (∃ m, W 0 m (upd H1 D (.lst []))) ∧ ∀ i m H, W i m H →
      ((Itt K a).stop i H ∧ Qd H) ∨ ((Itt K a).go i H ∧ ∃ Nx : Hp → Prop, (∀ H', Nx H' → ∃ m', m' < m ∧ W (i + 1) m' H') ∧ ∀ x H', (Itt K a).yld i H x H' → g x (wipe σ vs) H' fun σ2 H2 => wipe σ2 vs = wipe σ vs ∧ tt σ2 H2 fun b H3 =>
        if b = true then te σ2 H3 fun y H4 => ∃ acc, H4 D = some (.lst acc) ∧ acc.length < sizeLine ∧ Nx (upd H4 D (.lst (acc ++ [y]))) else Nx H3) := by
  refine lc_tup (K := K) (a := a) (xs := xs) (fun i H => Same H1 H ∧ ∃ acc, H D = some (.lst acc) ∧ acc.length = i ∧ ∀ (j : Nat) v, acc[j]? = some v → R j v H) ⟨Same.new (Same.refl H1) nD, [], upd_same, rfl, fun j v e => by simp at e⟩ (fun i H _ p => SqT.of (p.1 _ _ hx)) (fun i x H hi p => ?_) (fun H p => ?_)
  · obtain ⟨m, acc, hD, hlen, hR⟩ := p
    have il : i < xs.length := (List.getElem?_eq_some_iff.mp hi).1
    refine hs i x H _ _ hi m (fun v H4 m4 r => ⟨acc, m4 _ _ hD, lt_line (by omega), Same.mut (Same.trans m m4) nD, acc ++ [v], upd_same, by rw [List.length_append, hlen]; rfl, fun j u e => ?_⟩)
    have k1 : TK H4 (upd H4 D (.lst (acc ++ [v]))) := TK.mut (m4 _ _ hD)
    by_cases hj : j < acc.length
    · rw [List.getElem?_append_left hj] at e
      exact st _ _ _ _ (st _ _ _ _ (hR j u e) (Same.tk m4)) k1
    · rw [List.getElem?_append_right (by omega)] at e
      have hj2 : j = i := by
        have q := (List.getElem?_eq_some_iff.mp e).1
        rw [List.length_singleton] at q
        omega
      rw [hj2, hlen, Nat.sub_self] at e
      have e2 : v = u := Option.some.inj e
      rw [← e2, hj2]
      exact st _ _ _ _ r k1
  · obtain ⟨m, acc, hD, hlen, hR⟩ := p
    exact hd H acc m hD hlen hR
/-! comprehensions within comprehensions -/
theorem blk_in {X : Cx} {s : Shared} {H : Hp} {sc0 sc1 scope : Scope} {cl : List (Str × Addr)} {C : Addr} {env : Env} {fp : List Addr} {N : List Str} {own : List (Str × Nat)} (hN : X.N = N) (hs : env.scope = sc1) (h : blkC N (relS sc0 sc1) scope own = true) :
    BlkOk (X.blk s H sc0 (compEnvC sc0 cl C env) fp).N (X.blk s H sc0 (compEnvC sc0 cl C env) fp).env.scope scope own := by
  subst hN hs
  exact blkOk_by h
theorem pi_tupK {X : Cx} {K : PySem.W.Frag} {tg l : Expr} {tl : TE} (hK : X.K = K) (h : PE X l tl) : PI X tg l (iTup K tl) := by
  subst hK
  exact pi_tup h
theorem pi_listK {X : Cx} {K : PySem.W.Frag} {tg l : Expr} {tl : TE} (hK : X.K = K) (h : PE X l tl) : PI X tg l (iList K tl) := by
  subst hK
  exact pi_list h
theorem pe_fldK {X : Cx} {K : PySem.W.Frag} {e : Expr} {f : Str} {pos : Pos} {ta : TE} (hK : X.K = K) (h : PE X e ta) (hb : attributeBase e f X.env (eval e X.env) = eval e X.env) : PE X (.Attribute e f pos) (tFld K ta f) := by
  subst hK
  exact pe_fld h hb
theorem pg_tupK {X : Cx} {K : PySem.W.Frag} {es : List Expr} {k : Nat} {pos : Pos} {t : TGs} (n : Nat) (hc : X.calm = true) (hK : X.K = K) (h : PGs X es t)
    (hn : (assignEach es X.env).length = n := by rfl) (hst : (assignEach es X.env).findIdx? (·.1) = none := by rfl) : PG X (.Tuple es k pos) (gTup K n t) := by
  subst hK
  exact pg_tup hc h hn hst
/-! ### words -/
theorem tYes_go {σ : L2.St} {H : Hp} {Q : Bool → Hp → Prop} (h : Q true H) : tYes σ H Q := h
local macro_rules | `(tactic| tm_at "fld") => `(tactic| fail "fld")
local macro_rules | `(tactic| tm_at "hp") => `(tactic| first
  | assumption
  | (with_reducible exact upd_same)
  | exact Same.at (by assumption) (by tm_at "hp")
  | exact Mv.atT (by assumption) (by tm_at "hp")
  | exact Mv.at' (by assumption) (by tm_at "hp") (by tm_at "ne")
  | ((rw [upd_ne ?n]) <;> first | (tm_at "hp") | (tm_at "ne") | fail "upd")
  | fail "hp")
local macro_rules | `(tactic| tm_at "ne") => `(tactic| first
  | assumption
  | exact Ne.symm (by assumption)
  | exact Nw.ne (by assumption) (by tm_at "hp")
  | exact Ne.symm (Nw.ne (by assumption) (by tm_at "hp"))
  | fail "ne")
local macro_rules | `(tactic| tm_at "sq") => `(tactic| first
  | assumption
  | exact SqL.of (by tm_at "hp")
  | exact Same.seq (by assumption) (by tm_at "sq")
  | fail "sq")
local macro_rules | `(tactic| tm_at "sqt") => `(tactic| first
  | assumption
  | exact SqT.of (by tm_at "hp")
  | fail "sqt")
local macro_rules | `(tactic| tm_at "len") => `(tactic| first
  | omega
  | ((simp only [List.length_map, List.length_append, List.length_singleton, List.length_cons, List.length_nil, List.length_replicate, List.length_range]); omega)
  | fail "len")
local macro_rules | `(tactic| tm_at "sd") => `(tactic| first
  | decide
  | omega
  | exact ⟨by decide, by decide⟩
  | exact ⟨by omega, by omega⟩
  | exact Or.inr ⟨by decide, by decide⟩
  | exact Or.inl ⟨by omega, by omega⟩
  | exact Or.inl ⟨by decide, by decide⟩
  | exact Or.inr ⟨by omega, by omega⟩
  | exact Or.inl (fmod64 (by decide) (by decide))
  | exact ⟨by decide, by decide, by decide⟩
  | fail "sd")
local macro_rules | `(tactic| tm_at "w") => `(tactic| repeat (first
  | (with_reducible refine iteDY (by omega) ?_)
  | (with_reducible refine iteDN (by omega) ?_)
  | (refine ⟨_, rfl, ?_⟩)
  | (refine ⟨_, _, rfl, rfl, ?_⟩)
  | (refine ⟨_, _, _, _, rfl, rfl, by tm_at "sq", by rfl, ?_⟩)
  | (refine ⟨_, _, _, _, rfl, rfl, by tm_at "hp", by rfl, ?_⟩)
  | (refine ⟨_, _, _, _, rfl, rfl, by tm_at "sqt", by rfl, ?_⟩)
  | (refine ⟨_, _, _, _, rfl, rfl, by tm_at "sqt", atI_nat (by assumption), ?_⟩)
  | (refine ⟨_, _, _, _, rfl, rfl, by tm_at "sq", atI_nat (by assumption), ?_⟩)
  | (refine ⟨_, _, rfl, by tm_at "sqt", rfl, _, _, rfl, _, _, rfl, rfl, ?_⟩)
  | (refine ⟨_, _, rfl, by tm_at "sqt", rfl, _, _, rfl, _, _, rfl, _, _, rfl, rfl, ?_⟩)
  | (refine ⟨_, _, _, _, _, rfl, ClsV.ty _, by assumption, by assumption, ?_⟩)
  | (refine And.intro (rfl : scal _ _ = true) ?_)
  | (with_reducible refine iteET (by rfl) ?_)
  | (with_reducible refine iteEF (by rfl) ?_)
  | (refine And.intro (IntK.int _) ?_)
  | (with_reducible refine tYes_go ?_)
  | (refine And.intro (by (with_reducible refine le_lineB ?_); rfl) ?_)
  | (refine ⟨_, _, rfl, Or.inl ⟨SqL.of (by tm_at "hp"), ?_⟩⟩)
  | (refine And.intro (Or.inl ⟨rfl, _, SqL.of (by tm_at "hp")⟩) ?_)
  | (refine ⟨_, _, _, rfl, rfl, by tm_at "hp", lt_line (by tm_at "len"), ?_⟩)
  | (refine And.intro rfl ?_)
  | (refine Or.inl ⟨_, rfl, ?_⟩)
  | (refine ⟨_, _, rfl, Or.inl (by tm_at "sq"), ?_⟩)
  | (refine ⟨_, _, rfl, Or.inr (by tm_at "sqt"), ?_⟩)
  | (refine And.intro (by tm_at "sd") ?_)
  | (tm_at "fld")
  | fail "w"))
/-! ### lists of whole numbers -/
/-- an item of a list is a whole number -/
def IsI (v : V) : Prop := ∃ i : Int, v = .int i
theorem ints_of {xs : List V} (h : ∀ v ∈ xs, IsI v) : ∃ ns : List Int, xs = ns.map V.int := by
  induction xs with
  | nil => exact ⟨[], rfl⟩
  | cons x r ih =>
    obtain ⟨ns, e⟩ := ih fun v hv => h v (List.mem_cons_of_mem _ hv)
    obtain ⟨i, ei⟩ := h x List.mem_cons_self
    exact ⟨i :: ns, by rw [ei, e]; rfl⟩
theorem ints_at {xs : List V} (h : ∀ (j : Nat) v, xs[j]? = some v → IsI v) : ∃ ns : List Int, xs = ns.map V.int := ints_of fun v hv => by
  obtain ⟨j, hj, e⟩ := List.mem_iff_getElem.mp hv
  exact h j v (by rw [List.getElem?_eq_getElem hj, e])
theorem mem_app {P : V → Prop} {xs : List V} {y : V} (h : ∀ v ∈ xs, P v) (hy : P y) : ∀ v ∈ xs ++ [y], P v := fun v hv => by
  rcases List.mem_append.mp hv with hv | hv
  · exact h v hv
  · rw [List.mem_singleton.mp hv]
    exact hy
theorem len_app {xs : List V} {y : V} {n : Nat} (h : xs.length = n) : (xs ++ [y]).length = n + 1 := by
  rw [List.length_append, h]
  rfl
/-- the item at a place of a list of whole numbers -/
theorem int_here {ns : List Int} {i : Nat} {x : V} (h : (ns.map V.int)[i]? = some x) : ∃ z, ns[i]? = some z ∧ x = .int z ∧ i < ns.length := by
  rw [List.getElem?_map] at h
  cases e : ns[i]? with
  | none => rw [e] at h; cases h
  | some z => rw [e] at h; exact ⟨z, rfl, (Option.some.inj h).symm, (List.getElem?_eq_some_iff.mp e).1⟩
theorem map_snoc (ks : List Int) (k : Int) : ks.map V.int ++ [V.int k] = (ks ++ [k]).map V.int := by rw [List.map_append]; rfl
theorem inV_int (k : Int) (ks : List Int) : inV (.int k) (ks.map V.int) = decide (k ∈ ks) := by
  unfold inV
  rw [List.any_map]
  by_cases h : k ∈ ks
  · rw [decide_eq_true h]
    exact List.any_eq_true.mpr ⟨k, h, beq_self_eq_true k⟩
  · rw [decide_eq_false h]
    refine List.any_eq_false.mpr fun y hy z => h ?_
    have e : y = k := eq_of_beq (show (y == k) = true from z)
    rw [← e]
    exact hy
theorem flat_ints (ks : List Int) : (ks.map V.int).all flatV = true := List.all_eq_true.mpr fun v hv => by
  obtain ⟨i, _, rfl⟩ := List.mem_map.mp hv
  rfl
theorem len_of_same {a b : List Int} (ha : a.Nodup) (hb : b.Nodup) (h : ∀ k, k ∈ a ↔ k ∈ b) : a.length = b.length := ((List.perm_ext_iff_of_nodup ha hb).mpr h).length_eq
theorem dp_ints {K : PySem.W.Frag} {H : Hp} : ∀ ns : List Int, DpAll K H (ns.map V.int) (ns.map PyData.int)
  | [] => .nil
  | n :: r => .cons (.int n) (dp_ints r)
theorem range_items {α : Type} (S : List α) (f : α → V) : (List.range S.length).filterMap (fun i => S[i]?.map f) = S.map f := by
  have key : ∀ n, n ≤ S.length → (List.range n).filterMap (fun i => S[i]?.map f) = (S.take n).map f := by
    intro n
    induction n with
    | zero => intro _; rfl
    | succ n ih =>
      intro h
      rw [filterMap_range_succ, ih (by omega), List.take_add_one, List.map_append]
      rw [List.getElem?_eq_getElem (show n < S.length by omega)]
      rfl
  rw [key _ (Nat.le_refl _), List.take_length]
theorem lay_ints : ∀ ns : List Int, PyData.canLayAll0 (ns.map PyData.int) = true
  | [] => rfl
  | n :: r => by
    show (PyData.canLay0 (.int n) && PyData.canLayAll0 (r.map PyData.int)) = true
    rw [lay_ints r]
    rfl
theorem deep_ints : ∀ ns : List Int, PyData.depthAll (ns.map PyData.int) ≤ 1
  | [] => by simp [PyData.depthAll]
  | n :: r => by
    have ih := deep_ints r
    simp only [List.map_cons, PyData.depthAll, PyData.depth]
    omega
theorem shaped_ints (ns : List Int) : SeqAt.shaped (.tuple (ns.map PyData.int)) = true := by
  have h := deep_ints ns
  have h2 : PyData.depth (.tuple (ns.map PyData.int)) ≤ 64 := by
    simp only [PyData.depth]
    omega
  exact Bool.and_eq_true_iff.mpr ⟨lay_ints ns, decide_eq_true h2⟩
theorem same_ints (ns : List Int) : PyData.eqv (.tuple (ns.map PyData.int)) (.tuple (ns.map PyData.int)) = true := SeqAt.eqv_refl _ (lay_ints ns)
theorem at_map {r : List Int} {i : Int} (h0 : 0 ≤ i) (h : i < (r.length : Int)) : atI (r.map V.int) i = some (.int (r.getD i.toNat 0)) := by
  have hj : i.toNat < r.length := by omega
  refine at_of (j := i.toNat) (by omega) ?_
  rw [List.getElem?_map, List.getElem?_eq_getElem hj, List.getD_eq_getElem?_getD, List.getElem?_eq_getElem hj]
  rfl
/-! ### bits of what each kind is -/
def upBits (acc : List Nat) (n : Nat) (p : List Nat) : Nat := p.foldl (fun f q => f ||| acc.getD q 0) (2 ^ n)
theorem fold_bits (acc : List Nat) (j : Nat) : ∀ (p : List Nat) (f : Nat), (p.foldl (fun f q => f ||| acc.getD q 0) f).testBit j = (f.testBit j || p.any fun q => (acc.getD q 0).testBit j)
  | [], f => by simp
  | q :: r, f => by
    have ih := fold_bits acc j r (f ||| acc.getD q 0)
    rw [List.foldl_cons, ih, Nat.testBit_or, List.any_cons, Bool.or_assoc]
theorem upBits_at (acc : List Nat) (n : Nat) (p : List Nat) (j : Nat) : (upBits acc n p).testBit j = (decide (n = j) || p.any fun q => (acc.getD q 0).testBit j) := by
  unfold upBits
  rw [fold_bits, Nat.testBit_two_pow]
/-! ### books -/
structure InsT (K : PySem.W.Frag) (C : Addr) : Prop where
  ha : PySem.W.findIn K (.ref C) "__class__" = some (some (.builtin "object.__class__"))
  hn : PySem.W.specialIn K (.builtin "object.__class__") "__get__" = some (some (.builtin "getset_descriptor.__get__"))
  htk : PySem.W.takesIn K (.builtin "object.__class__") = some true
  hm : PySem.W.mroIn K C (.type "object") = some true
theorem pb_ne : ¬ (("parents" : Str) = "bits") := by decide +kernel
theorem bp_ne : ¬ (("bits" : Str) = "parents") := by decide +kernel
def bkF (pa lb : Addr) : List (Str × V) := putF "bits" (.ref lb) (putF "parents" (.ref pa) [])
theorem bkF_eq (pa lb : Addr) : bkF pa lb = ([("parents", V.ref pa), ("bits", V.ref lb)] : List (Str × V)) := by
  show (if ("parents" : Str) = "bits" then [(("parents" : Str), V.ref lb)] else (("parents" : Str), V.ref pa) :: putF "bits" (V.ref lb) []) = ([("parents", V.ref pa), ("bits", V.ref lb)] : List (Str × V))
  rw [if_neg pb_ne]
  all_goals rfl
theorem bkF_parents (pa lb : Addr) : (bkF pa lb).lookup ("parents" : Str) = some (.ref pa) := by
  unfold bkF
  rw [lookup_putF, if_neg pb_ne, lookup_putF, if_pos rfl]
theorem bkF_bits (pa lb : Addr) : (bkF pa lb).lookup ("bits" : Str) = some (.ref lb) := by
  unfold bkF
  rw [lookup_putF, if_pos rfl]
theorem bkF_no (pa lb : Addr) {m : Str} (h1 : ¬ m = "bits") (h2 : ¬ m = "parents") : (bkF pa lb).lookup m = none := by
  unfold bkF
  rw [lookup_putF, if_neg h1, lookup_putF, if_neg h2]
  all_goals rfl
theorem bkF_putP (pa lb p : Addr) : putF "parents" (.ref p) (bkF pa lb) = bkF p lb := by
  rw [bkF_eq, bkF_eq]
  show (if ("parents" : Str) = "parents" then (("parents" : Str), V.ref p) :: [(("bits" : Str), V.ref lb)] else _) = ([("parents", V.ref p), ("bits", V.ref lb)] : List (Str × V))
  rw [if_pos rfl]
theorem bkF_putB (pa lb l : Addr) : putF "bits" (.ref l) (bkF pa lb) = bkF pa l := by
  rw [bkF_eq, bkF_eq]
  show (if ("parents" : Str) = "bits" then _ else (("parents" : Str), V.ref pa) :: (if ("bits" : Str) = "bits" then [(("bits" : Str), V.ref l)] else _)) = ([("parents", V.ref pa), ("bits", V.ref l)] : List (Str × V))
  rw [if_neg pb_ne, if_pos rfl]
/-- the fields of a book that is being made: none, or an elder filling's -/
def BkFs (fs : List (Str × V)) : Prop := fs = [] ∨ ∃ pa lb, fs = bkF pa lb
theorem BkFs.put {fs : List (Str × V)} (h : BkFs fs) (p l : Addr) : putF "bits" (.ref l) (putF "parents" (.ref p) fs) = bkF p l := by
  rcases h with rfl | ⟨a, b, rfl⟩
  · rfl
  · rw [bkF_putP, bkF_putB]
theorem BkFs.len {fs : List (Str × V)} (h : BkFs fs) : fs.length < 500 := by
  rcases h with rfl | ⟨a, b, rfl⟩
  · decide
  · rw [bkF_eq]
    show 2 < 500
    decide
theorem BkFs.len1 {fs : List (Str × V)} (h : BkFs fs) (p : Addr) : (putF "parents" (.ref p) fs).length < 1000 := by
  have q := length_putF "parents" (.ref p) fs
  have r := h.len
  omega
theorem BkFs.fill {fs : List (Str × V)} (h : BkFs fs) : fs.lookup ("fill" : Str) = none := by
  rcases h with rfl | ⟨a, b, rfl⟩
  · rfl
  · exact bkF_no _ _ (by decide +kernel) (by decide +kernel)
def natsV (p : List Nat) : List V := p.map fun q : Nat => V.int (q : Int)
/-- parents: a tuple of tuples of numbers -/
def ParL (H : Hp) (vs : List V) (P : List (List Nat)) : Prop := vs.length = P.length ∧ ∀ (j : Nat) p, P[j]? = some p → ∃ a, vs[j]? = some (.ref a) ∧ H a = some (.tup (natsV p))
def ParAt (H : Hp) (pa : Addr) (P : List (List Nat)) : Prop := ∃ vs, H pa = some (.tup vs) ∧ ParL H vs P
theorem ParL.tk {H H' : Hp} {vs : List V} {P : List (List Nat)} (h : ParL H vs P) (k : TK H H') : ParL H' vs P := ⟨h.1, fun j p e => by
  obtain ⟨a, e1, e2⟩ := h.2 j p e
  exact ⟨a, e1, k _ _ e2⟩⟩
theorem ParAt.tk {H H' : Hp} {pa : Addr} {P : List (List Nat)} (h : ParAt H pa P) (k : TK H H') : ParAt H' pa P := by
  obtain ⟨vs, e, l⟩ := h
  exact ⟨vs, k _ _ e, l.tk k⟩
/-- each parent stands ahead -/
def RtP (P : List (List Nat)) : Prop := ∀ (j : Nat) p, P[j]? = some p → ∀ q ∈ p, q < j
/-- the bits of all kinds -/
def bitsOf (P : List (List Nat)) : List Nat := P.foldl (fun acc p => acc ++ [upBits acc acc.length p]) []
def isA (P : List (List Nat)) (x p : Nat) : Bool := ((bitsOf P).getD x 0).testBit p
theorem bitsOf_snoc (P : List (List Nat)) (p : List Nat) : bitsOf (P ++ [p]) = bitsOf P ++ [upBits (bitsOf P) (bitsOf P).length p] := by
  unfold bitsOf
  rw [List.foldl_append]
  rfl
theorem bitsOf_len (P : List (List Nat)) : (bitsOf P).length = P.length := by
  have key : ∀ (r : List (List Nat)) (acc : List Nat), (r.foldl (fun acc p => acc ++ [upBits acc acc.length p]) acc).length = acc.length + r.length := by
    intro r
    induction r with
    | nil => intro acc; simp
    | cons x r ih =>
      intro acc
      rw [List.foldl_cons, ih, List.length_append]
      simp only [List.length_cons, List.length_nil]
      omega
  rw [show bitsOf P = P.foldl (fun acc p => acc ++ [upBits acc acc.length p]) [] from rfl, key]
  simp
/-- a book: its address, its dict, its parents' tuple, its bits' list -/
structure Bk where
  b : Addr
  dx : Addr
  pa : Addr
  lb : Addr
structure BookAt (C : Addr) (H : Hp) (k : Bk) (P : List (List Nat)) : Prop where
  ins : H k.b = some (.ins C k.dx (bkF k.pa k.lb))
  par : ParAt H k.pa P
  bits : H k.lb = some (.lst (natsV (bitsOf P)))
theorem BookAt.same {C : Addr} {H H' : Hp} {k : Bk} {P : List (List Nat)} (h : BookAt C H k P) (s : Same H H') : BookAt C H' k P := ⟨s _ _ h.ins, h.par.tk (Same.tk s), s _ _ h.bits⟩
/-- all but b is kept -/
def But (b : Addr) (H H' : Hp) : Prop := ∀ a o, a ≠ b → H a = some o → H' a = some o
/-- the parents of a kind with a number are right -/
structure OkL (q : List Nat) (m : Nat) : Prop where
  asc : q.Pairwise (· < ·)
  lt : ∀ x ∈ q, x < m
  few : q.length ≤ 6
structure OkP (P : List (List Nat)) : Prop where
  ok : ∀ (j : Nat) q, P[j]? = some q → OkL q j
  few : P.length ≤ 400
theorem OkP.rt {P : List (List Nat)} (h : OkP P) : RtP P := fun j p e q hq => (h.ok j p e).lt q hq
theorem OkP.nil : OkP [] := ⟨fun j q e => by simp at e, by decide⟩
theorem OkP.take {P : List (List Nat)} (h : OkP P) (m : Nat) : OkP (P.take m) := by
  refine ⟨fun j q e => ?_, ?_⟩
  · rw [List.getElem?_take] at e
    split at e
    · exact h.ok j q e
    · cases e
  · have := h.few
    rw [List.length_take]
    omega
theorem natsV_len (q : List Nat) : (natsV q).length = q.length := by unfold natsV; rw [List.length_map]
theorem natsV_int {K : PySem.W.Frag} {H : Hp} (q : List Nat) : ∀ x ∈ natsV q, IntK K H x := fun x hx => by
  unfold natsV at hx
  obtain ⟨n, _, rfl⟩ := List.mem_map.mp hx
  exact IntK.int _
theorem natsV_at {q : List Nat} {i : Nat} {n : Nat} (h : q[i]? = some n) : (natsV q)[i]? = some (.int (n : Int)) := by
  unfold natsV
  rw [List.getElem?_map, h]
  rfl
theorem natsV_here {q : List Nat} {i : Nat} {x : V} (h : (natsV q)[i]? = some x) : ∃ n : Nat, q[i]? = some n ∧ x = .int (n : Int) ∧ i < q.length := by
  unfold natsV at h
  rw [List.getElem?_map] at h
  cases e : q[i]? with
  | none => rw [e] at h; cases h
  | some z => rw [e] at h; exact ⟨z, rfl, (Option.some.inj h).symm, (List.getElem?_eq_some_iff.mp e).1⟩
theorem natsV_snoc (q : List Nat) (n : Nat) : natsV q ++ [V.int (n : Int)] = natsV (q ++ [n]) := by unfold natsV; rw [List.map_append]; rfl
theorem ParL.here {H : Hp} {vs : List V} {P : List (List Nat)} (h : ParL H vs P) {j : Nat} {x : V} (e : vs[j]? = some x) : ∃ a p, x = .ref a ∧ P[j]? = some p ∧ H a = some (.tup (natsV p)) := by
  have hj := (List.getElem?_eq_some_iff.mp e).1
  rw [h.1] at hj
  obtain ⟨a, e1, e2⟩ := h.2 j _ (List.getElem?_eq_getElem hj)
  rw [e] at e1
  exact ⟨a, _, Option.some.inj e1, List.getElem?_eq_getElem hj, e2⟩
theorem ParL.nil {H : Hp} : ParL H [] [] := ⟨rfl, fun j p e => by simp at e⟩
theorem ParL.snoc {H : Hp} {vs : List V} {P : List (List Nat)} (h : ParL H vs P) {a : Addr} {p : List Nat} (e : H a = some (.tup (natsV p))) : ParL H (vs ++ [.ref a]) (P ++ [p]) := by
  refine ⟨by rw [List.length_append, List.length_append, h.1]; rfl, fun j q hq => ?_⟩
  by_cases hj : j < P.length
  · rw [List.getElem?_append_left hj] at hq
    rw [List.getElem?_append_left (by rw [h.1]; exact hj)]
    exact h.2 j q hq
  · rw [List.getElem?_append_right (by omega)] at hq
    have l := (List.getElem?_eq_some_iff.mp hq).1
    rw [List.length_singleton] at l
    have ej : j - P.length = 0 := by omega
    rw [ej] at hq
    have er : p = q := Option.some.inj hq
    rw [List.getElem?_append_right (by rw [h.1]; omega), h.1, ej, ← er]
    exact ⟨a, rfl, e⟩
theorem ParL.take {H : Hp} {vs : List V} {P : List (List Nat)} (h : ParL H vs P) (m : Nat) : ParL H (vs.take m) (P.take m) := by
  refine ⟨by rw [List.length_take, List.length_take, h.1], fun j q hq => ?_⟩
  rw [List.getElem?_take] at hq
  split at hq
  · rename_i hm
    rw [List.getElem?_take_of_lt hm]
    exact h.2 j q hq
  · cases hq
theorem But.same {b : Addr} {H H1 H2 : Hp} (s : Same H H1) (k : But b H1 H2) : But b H H2 := fun a o n e => k a o n (s a o e)
theorem But.new {b : Addr} {H H1 H2 : Hp} (s : Same H H1) (n : H b = none) (k : But b H1 H2) : Same H H2 := fun a o e => k a o (ne_of_none e n) (s a o e)
/-- a book that was made between H and H' -/
structure Made (C : Addr) (H H' : Hp) (k : Bk) (P : List (List Nat)) : Prop where
  same : Same H H'
  here : BookAt C H' k P
  nb : Nw H k.b
  nl : Nw H k.lb
theorem Made.later {C : Addr} {H H1 H2 : Hp} {k : Bk} {P : List (List Nat)} (m : Made C H H1 k P) (s : Same H1 H2) : Made C H H2 k P := ⟨m.same.trans s, m.here.same s, m.nb, m.nl⟩
theorem Made.early {C : Addr} {H H1 H2 : Hp} {k : Bk} {P : List (List Nat)} (s : Same H H1) (m : Made C H1 H2 k P) : Made C H H2 k P := ⟨s.trans m.same, m.here, ⟨s.free m.nb.e⟩, ⟨s.free m.nl.e⟩⟩
theorem BookAt.mv {C : Addr} {H H' : Hp} {k : Bk} {P : List (List Nat)} {τ : Tp} (h : BookAt C H k P) (m : Mv τ H H') (n : k.lb ≠ τ.t) : BookAt C H' k P :=
  ⟨m.keep _ _ (fun e => by obtain ⟨_, _, _, _, z, _⟩ := m.was.here; rw [← e, h.ins] at z; cases z) h.ins, h.par.tk m.tk, m.keep _ _ n h.bits⟩
/-! ### who is what: the plain law -/
theorem bitsOf_take : ∀ (P : List (List Nat)) (m : Nat), bitsOf (P.take m) = (bitsOf P).take m := by
  have key : ∀ (n : Nat) (P : List (List Nat)), P.length = n → ∀ m, bitsOf (P.take m) = (bitsOf P).take m := by
    intro n
    induction n with
    | zero =>
      intro P h m
      have e : P = [] := List.length_eq_zero_iff.mp h
      subst e
      simp [bitsOf]
    | succ n ih =>
      intro P h m
      have hne : P ≠ [] := by intro e; rw [e] at h; cases h
      have e : P = P.dropLast ++ [P.getLast hne] := (List.dropLast_concat_getLast hne).symm
      have hl : P.dropLast.length = n := by rw [List.length_dropLast, h]; rfl
      by_cases hm : m ≤ n
      · rw [e, List.take_append_of_le_length (by omega), ih _ hl, bitsOf_snoc, List.take_append_of_le_length (by rw [bitsOf_len]; omega)]
      · rw [List.take_of_length_le (by omega), List.take_of_length_le (by rw [bitsOf_len]; omega)]
  exact fun P => key P.length P rfl
theorem bitsOf_at (P : List (List Nat)) (j : Nat) (p : List Nat) (h : P[j]? = some p) : (bitsOf P)[j]? = some (upBits ((bitsOf P).take j) j p) := by
  have hj := (List.getElem?_eq_some_iff.mp h).1
  have e : P.take (j + 1) = P.take j ++ [p] := by rw [List.take_add_one, h]; rfl
  have e2 : (bitsOf P).take (j + 1) = (bitsOf P).take j ++ [upBits ((bitsOf P).take j) j p] := by
    have hl : ((bitsOf P).take j).length = j := by rw [List.length_take, bitsOf_len]; omega
    rw [← bitsOf_take, e, bitsOf_snoc, bitsOf_take, hl]
  have e3 : ((bitsOf P).take (j + 1))[j]? = (bitsOf P)[j]? := List.getElem?_take_of_lt (Nat.lt_succ_self j)
  have hl : ((bitsOf P).take j).length = j := by rw [List.length_take, bitsOf_len]; omega
  rw [← e3, e2, List.getElem?_append_right (by omega), hl, Nat.sub_self]
  rfl
theorem upBits_take {acc : List Nat} {j : Nat} {p : List Nat} (h : ∀ q ∈ p, q < j) : upBits (acc.take j) j p = upBits acc j p := by
  unfold upBits
  have key : ∀ (p : List Nat) (f : Nat), (∀ q ∈ p, q < j) → p.foldl (fun f q => f ||| (acc.take j).getD q 0) f = p.foldl (fun f q => f ||| acc.getD q 0) f := by
    intro p
    induction p with
    | nil => intro f _; rfl
    | cons q r ih =>
      intro f hq
      have e : (acc.take j).getD q 0 = acc.getD q 0 := by
        rw [List.getD_eq_getElem?_getD, List.getD_eq_getElem?_getD, List.getElem?_take_of_lt (hq q List.mem_cons_self)]
      rw [List.foldl_cons, List.foldl_cons, e, ih _ fun z hz => hq z (List.mem_cons_of_mem _ hz)]
  exact key p _ h
theorem isA_rec {P : List (List Nat)} (hR : RtP P) {x : Nat} {p : List Nat} (h : P[x]? = some p) (j : Nat) : isA P x j = (decide (x = j) || p.any fun q => isA P q j) := by
  have e : (bitsOf P).getD x 0 = upBits (bitsOf P) x p := by
    rw [List.getD_eq_getElem?_getD, bitsOf_at P x p h, upBits_take (hR x p h)]
    rfl
  unfold isA
  rw [e, upBits_at]
theorem isA_out {P : List (List Nat)} {x : Nat} (h : P.length ≤ x) (j : Nat) : isA P x j = false := by
  unfold isA
  rw [List.getD_eq_getElem?_getD, List.getElem?_eq_none (by rw [bitsOf_len]; exact h)]
  exact Nat.zero_testBit j
theorem isA_lt {P : List (List Nat)} {x j : Nat} (h : isA P x j = true) : x < P.length := by
  by_cases hx : x < P.length
  · exact hx
  · rw [isA_out (by omega)] at h
    cases h
theorem isA_le {P : List (List Nat)} (hR : RtP P) : ∀ {x j : Nat}, isA P x j = true → j ≤ x := by
  intro x
  induction x using Nat.strongRecOn with
  | ind x ih =>
    intro j h
    have hx := isA_lt h
    rw [isA_rec hR (List.getElem?_eq_getElem hx), Bool.or_eq_true, decide_eq_true_eq, List.any_eq_true] at h
    rcases h with h | ⟨q, hq, h⟩
    · omega
    · have l := hR x _ (List.getElem?_eq_getElem hx) q hq
      have := ih q l h
      omega
theorem isA_refl {P : List (List Nat)} (hR : RtP P) {x : Nat} (hx : x < P.length) : isA P x x = true := by
  rw [isA_rec hR (List.getElem?_eq_getElem hx), decide_eq_true rfl]
  rfl
theorem isA_trans {P : List (List Nat)} (hR : RtP P) : ∀ {x y z : Nat}, isA P x y = true → isA P y z = true → isA P x z = true := by
  intro x
  induction x using Nat.strongRecOn with
  | ind x ih =>
    intro y z h h2
    have hx := isA_lt h
    rw [isA_rec hR (List.getElem?_eq_getElem hx), Bool.or_eq_true, decide_eq_true_eq, List.any_eq_true] at h
    rcases h with h | ⟨q, hq, h⟩
    · rw [h]
      exact h2
    · have l := hR x _ (List.getElem?_eq_getElem hx) q hq
      rw [isA_rec hR (List.getElem?_eq_getElem hx), Bool.or_eq_true, List.any_eq_true]
      exact .inr ⟨q, hq, ih q l h h2⟩
theorem isA_take {P : List (List Nat)} {m x : Nat} (h : x < m) (j : Nat) : isA (P.take m) x j = isA P x j := by
  unfold isA
  rw [bitsOf_take, List.getD_eq_getElem?_getD, List.getD_eq_getElem?_getD, List.getElem?_take_of_lt h]
theorem RtP.take {P : List (List Nat)} (h : RtP P) (m : Nat) : RtP (P.take m) := fun j p e q hq => by
  rw [List.getElem?_take] at e
  split at e
  · exact h j p e q hq
  · cases e
theorem RtP.snoc {P : List (List Nat)} (h : RtP P) {p : List Nat} (hp : ∀ q ∈ p, q < P.length) : RtP (P ++ [p]) := fun j r e q hq => by
  by_cases hj : j < P.length
  · rw [List.getElem?_append_left hj] at e
    exact h j r e q hq
  · rw [List.getElem?_append_right (by omega)] at e
    have l := (List.getElem?_eq_some_iff.mp e).1
    rw [List.length_singleton] at l
    have ej : j - P.length = 0 := by omega
    rw [ej] at e
    have er : p = r := Option.some.inj e
    rw [← er] at hq
    have := hp q hq
    omega
/-- forebears, heirs; the lowest of a lot; plain parents -/
def foreB (P : List (List Nat)) (x : Nat) : List Nat := (List.range x).filter fun p => isA P x p
def heirB (P : List (List Nat)) (p : Nat) : List Nat := (List.range P.length).filter fun x => decide (p < x) && isA P x p
def lowB (P : List (List Nat)) (L : List Nat) : List Nat := L.filter fun p => !(L.any fun x => !decide (x = p) && isA P x p)
def plainB (P : List (List Nat)) : List (List Nat) := (List.range P.length).map fun x => lowB P (foreB P x)
theorem plainB_len (P : List (List Nat)) : (plainB P).length = P.length := by
  unfold plainB
  rw [List.length_map, List.length_range]
theorem plainB_at {P : List (List Nat)} {x : Nat} (h : x < P.length) : (plainB P)[x]? = some (lowB P (foreB P x)) := by
  unfold plainB
  rw [List.getElem?_map, List.getElem?_range h]
  rfl
theorem mem_foreB {P : List (List Nat)} {x p : Nat} : p ∈ foreB P x ↔ p < x ∧ isA P x p = true := by
  unfold foreB
  rw [List.mem_filter, List.mem_range]
theorem plainB_rt (P : List (List Nat)) : RtP (plainB P) := fun j p e q hq => by
  have hj := (List.getElem?_eq_some_iff.mp e).1
  rw [plainB_len] at hj
  rw [plainB_at hj] at e
  rw [← Option.some.inj e] at hq
  exact (mem_foreB.mp (List.mem_filter.mp hq).1).1
theorem low_above {P : List (List Nat)} (hR : RtP P) {x p : Nat} (hp : p < x) (h : isA P x p = true) : ∃ q ∈ lowB P (foreB P x), isA P q p = true := by
  have key : ∀ n q, x - q = n → q < x → isA P x q = true → isA P q p = true → ∃ q ∈ lowB P (foreB P x), isA P q p = true := by
    intro n
    induction n using Nat.strongRecOn with
    | ind n ih =>
      intro q hn hq hxq hqp
      by_cases hl : q ∈ lowB P (foreB P x)
      · exact ⟨q, hl, hqp⟩
      · have hf : q ∈ foreB P x := mem_foreB.mpr ⟨hq, hxq⟩
        have ha : ((foreB P x).any fun y => !decide (y = q) && isA P y q) = true := by
          cases e : ((foreB P x).any fun y => !decide (y = q) && isA P y q) with
          | true => rfl
          | false => exact absurd (List.mem_filter.mpr ⟨hf, by simp [e]⟩) hl
        obtain ⟨y, hy, hz⟩ := List.any_eq_true.mp ha
        rw [Bool.and_eq_true, Bool.not_eq_true', decide_eq_false_iff_not] at hz
        have l := isA_le hR hz.2
        obtain ⟨y1, y2⟩ := mem_foreB.mp hy
        exact ih (x - y) (by omega) y rfl y1 y2 (isA_trans hR hz.2 hqp)
  exact key _ p rfl hp h (isA_refl hR (by have := isA_lt h; omega))
theorem isA_plain {P : List (List Nat)} (hR : RtP P) : ∀ (x j : Nat), isA (plainB P) x j = isA P x j := by
  intro x
  induction x using Nat.strongRecOn with
  | ind x ih =>
    intro j
    by_cases hx : x < P.length
    · have l : ∀ q ∈ lowB P (foreB P x), q < x ∧ isA P x q = true := fun q hq => mem_foreB.mp (List.mem_filter.mp hq).1
      rw [isA_rec (plainB_rt P) (plainB_at hx)]
      rw [Bool.eq_iff_iff, Bool.or_eq_true, decide_eq_true_eq, List.any_eq_true]
      constructor
      · rintro (h | ⟨q, hq, h⟩)
        · rw [← h]
          exact isA_refl hR hx
        · rw [ih q (l q hq).1] at h
          exact isA_trans hR (l q hq).2 h
      · intro h
        by_cases e : x = j
        · exact .inl e
        · have := isA_le hR h
          obtain ⟨q, hq, hz⟩ := low_above hR (by omega) h
          exact .inr ⟨q, hq, by rw [ih q (l q hq).1]; exact hz⟩
    · rw [isA_out (P := P) (by omega), isA_out (P := plainB P) (by rw [plainB_len]; omega)]
theorem foreB_plain {P : List (List Nat)} (hR : RtP P) (x : Nat) : foreB (plainB P) x = foreB P x := by
  unfold foreB
  congr 1
  funext j
  rw [isA_plain hR]
theorem lowB_plain {P : List (List Nat)} (hR : RtP P) (L : List Nat) : lowB (plainB P) L = lowB P L := by
  unfold lowB
  congr 1
  funext p
  congr 2
  funext x
  rw [isA_plain hR]
theorem plainB_plainB {P : List (List Nat)} (hR : RtP P) : plainB (plainB P) = plainB P := by
  show (List.range (plainB P).length).map (fun x => lowB (plainB P) (foreB (plainB P) x)) = (List.range P.length).map fun x => lowB P (foreB P x)
  rw [plainB_len]
  congr 1
  funext x
  rw [foreB_plain hR, lowB_plain hR]
/-- 300 in a row, 300 beside one another -/
def chainP (n : Nat) : List (List Nat) := [] :: (List.range n).map fun k => [k]
def wideP (n : Nat) : List (List Nat) := List.replicate n []
theorem chainP_len (n : Nat) : (chainP n).length = n + 1 := by simp [chainP]
theorem chainP_at {n j : Nat} (h : j < n) : (chainP n)[j + 1]? = some [j] := by
  unfold chainP
  rw [List.getElem?_cons_succ, List.getElem?_map, List.getElem?_range h]
  rfl
theorem chainP_rt (n : Nat) : RtP (chainP n) := fun j p e q hq => by
  cases j with
  | zero => rw [show (chainP n)[0]? = some [] from rfl] at e; rw [← Option.some.inj e] at hq; cases hq
  | succ j =>
    have hj := (List.getElem?_eq_some_iff.mp e).1
    rw [chainP_len] at hj
    rw [chainP_at (by omega)] at e
    rw [← Option.some.inj e, List.mem_singleton] at hq
    omega
theorem isA_chain {n : Nat} : ∀ {x : Nat}, x ≤ n → ∀ j, isA (chainP n) x j = decide (j ≤ x)
  | 0, _, j => by
    rw [isA_rec (chainP_rt n) (show (chainP n)[0]? = some [] from rfl)]
    simp only [List.any_nil, Bool.or_false]
    exact decide_eq_decide.mpr (by omega)
  | x + 1, h, j => by
    rw [isA_rec (chainP_rt n) (chainP_at (by omega)), List.any_cons, List.any_nil, Bool.or_false, isA_chain (by omega) j, ← Bool.decide_or]
    exact decide_eq_decide.mpr (by omega)
theorem wideP_rt (n : Nat) : RtP (wideP n) := fun j p e q hq => by
  have := List.mem_of_getElem? e
  rw [List.eq_of_mem_replicate this] at hq
  cases hq
theorem isA_wide {n x : Nat} (h : x < n) (j : Nat) : isA (wideP n) x j = decide (x = j) := by
  rw [isA_rec (wideP_rt n) (p := []) (by unfold wideP; rw [List.getElem?_replicate, if_pos h])]
  simp
/-- the items of a list are tuples of numbers -/
def RN (f : Nat → List Nat) (i : Nat) (v : V) (H : Hp) : Prop := ∃ a, v = .ref a ∧ H a = some (.tup (natsV (f i)))
theorem RN.tk (f : Nat → List Nat) (i : Nat) (v : V) (H H' : Hp) (h : RN f i v H) (k : TK H H') : RN f i v H' := by
  obtain ⟨a, e, x⟩ := h
  exact ⟨a, e, k _ _ x⟩
theorem parL_of {H : Hp} {acc : List V} {n : Nat} {f : Nat → List Nat} (hl : acc.length = n) (h : ∀ (j : Nat) v, acc[j]? = some v → RN f j v H) : ParL H acc ((List.range n).map f) := by
  refine ⟨by rw [hl, List.length_map, List.length_range], fun j p e => ?_⟩
  have hj := (List.getElem?_eq_some_iff.mp e).1
  rw [List.length_map, List.length_range] at hj
  rw [List.getElem?_map, List.getElem?_range hj] at e
  have ep : f j = p := Option.some.inj e
  obtain ⟨a, e1, e2⟩ := h j _ (List.getElem?_eq_getElem (by omega))
  rw [ep] at e2
  exact ⟨a, by rw [List.getElem?_eq_getElem (by omega), e1], e2⟩
/-- the parents of the kind i -/
def RowR (i : Nat) (v : V) (H : Hp) : Prop := ∃ a q, v = .ref a ∧ H a = some (.tup (natsV q)) ∧ OkL q i
theorem RowR.tk {i : Nat} {v : V} {H H' : Hp} (h : RowR i v H) (k : TK H H') : RowR i v H' := by
  obtain ⟨a, q, e, x, o⟩ := h
  exact ⟨a, q, e, k _ _ x, o⟩
theorem rows_of {H : Hp} {acc : List V} {n : Nat} (hn : n ≤ 400) (hl : acc.length = n) (h : ∀ (j : Nat) v, acc[j]? = some v → RowR j v H) : ∃ P, ParL H acc P ∧ OkP P ∧ P.length = n := by
  obtain ⟨f, hf⟩ := Classical.axiomOfChoice (r := fun (j : Nat) (q : List Nat) => j < n → ∃ a, acc[j]? = some (.ref a) ∧ H a = some (.tup (natsV q)) ∧ OkL q j) (fun j => by
    by_cases hj : j < n
    · obtain ⟨a, q, e, x, o⟩ := h j _ (List.getElem?_eq_getElem (by omega))
      exact ⟨q, fun _ => ⟨a, by rw [List.getElem?_eq_getElem (by omega), e], x, o⟩⟩
    · exact ⟨[], fun z => absurd z hj⟩)
  refine ⟨(List.range n).map f, parL_of hl fun j v e => ?_, ⟨fun j q e => ?_, ?_⟩, ?_⟩
  · have hj := (List.getElem?_eq_some_iff.mp e).1
    obtain ⟨a, e1, e2, _⟩ := hf j (by omega)
    rw [e] at e1
    exact ⟨a, Option.some.inj e1, e2⟩
  · have hj := (List.getElem?_eq_some_iff.mp e).1
    rw [List.length_map, List.length_range] at hj
    rw [List.getElem?_map, List.getElem?_range hj] at e
    obtain ⟨_, _, _, o⟩ := hf j hj
    rw [← Option.some.inj e]
    exact o
  · rw [List.length_map, List.length_range]
    exact hn
  · rw [List.length_map, List.length_range]
theorem nats_of {n : Nat} : ∀ {ns : List Int}, ns.Pairwise (· < ·) → (∀ x ∈ ns, ∃ z : Nat, z < n ∧ x = (z : Int)) → ∃ ks : List Nat, ns = ks.map (fun z : Nat => (z : Int)) ∧ (∀ k ∈ ks, k < n) ∧ ks.Pairwise (· < ·)
  | [], _, _ => ⟨[], rfl, (fun k hk => by cases hk), List.Pairwise.nil⟩
  | x :: r, hp, h => by
    obtain ⟨h1, h2⟩ := List.pairwise_cons.mp hp
    obtain ⟨ks, e, hk, hkp⟩ := nats_of h2 fun y hy => h y (List.mem_cons_of_mem _ hy)
    obtain ⟨z, hz, ez⟩ := h x List.mem_cons_self
    refine ⟨z :: ks, by rw [e, ez]; rfl, fun k hk2 => ?_, List.pairwise_cons.mpr ⟨fun k hk2 => ?_, hkp⟩⟩
    · rcases List.mem_cons.mp hk2 with e2 | e2
      · rw [e2]; exact hz
      · exact hk k e2
    · have := h1 (k : Int) (by rw [e]; exact List.mem_map.mpr ⟨k, hk2, rfl⟩)
      omega
theorem nodup_le : ∀ (m : Nat) {ks : List Nat}, ks.Nodup → (∀ k ∈ ks, k < m) → ks.length ≤ m
  | 0, [], _, _ => Nat.le_refl _
  | 0, k :: r, _, h => absurd (h k List.mem_cons_self) (Nat.not_lt_zero _)
  | m + 1, ks, hn, h => by
    by_cases z : m ∈ ks
    · have l := List.length_erase_of_mem z
      have ih := nodup_le m (hn.erase m) fun k hk => by
        have q := (List.Nodup.mem_erase_iff hn).mp hk
        have := h k q.2
        omega
      have := List.length_pos_of_mem z
      omega
    · have ih := nodup_le m hn fun k hk => by
        have := h k hk
        have : k ≠ m := fun e => z (e ▸ hk)
        omega
      omega
/-! ### clauses -/
def optV : Option Int → V
  | none => .non
  | some i => .int i
def ClsL (H : Hp) (vs : List V) (Cs : List (Nat × Int)) : Prop := vs.length = Cs.length ∧ ∀ (j : Nat) c, Cs[j]? = some c → ∃ a, vs[j]? = some (.ref a) ∧ H a = some (.tup [.int (c.1 : Int), .int c.2])
def ClsAt (H : Hp) (a : Addr) (Cs : List (Nat × Int)) : Prop := ∃ vs, H a = some (.tup vs) ∧ ClsL H vs Cs
theorem ClsL.tk {H H' : Hp} {vs : List V} {Cs : List (Nat × Int)} (h : ClsL H vs Cs) (k : TK H H') : ClsL H' vs Cs := ⟨h.1, fun j p e => by
  obtain ⟨a, e1, e2⟩ := h.2 j p e
  exact ⟨a, e1, k _ _ e2⟩⟩
theorem ClsAt.tk {H H' : Hp} {a : Addr} {Cs : List (Nat × Int)} (h : ClsAt H a Cs) (k : TK H H') : ClsAt H' a Cs := by
  obtain ⟨vs, e, l⟩ := h
  exact ⟨vs, k _ _ e, l.tk k⟩
theorem ClsL.here {H : Hp} {vs : List V} {Cs : List (Nat × Int)} (h : ClsL H vs Cs) {j : Nat} {x : V} (e : vs[j]? = some x) : ∃ a c, x = .ref a ∧ Cs[j]? = some c ∧ H a = some (.tup [.int (c.1 : Int), .int c.2]) := by
  have hj := (List.getElem?_eq_some_iff.mp e).1
  rw [h.1] at hj
  obtain ⟨a, e1, e2⟩ := h.2 j _ (List.getElem?_eq_getElem hj)
  rw [e] at e1
  exact ⟨a, _, Option.some.inj e1, List.getElem?_eq_getElem hj, e2⟩
theorem ClsL.take {H : Hp} {vs : List V} {Cs : List (Nat × Int)} (h : ClsL H vs Cs) (m : Nat) : ClsL H (vs.take m) (Cs.take m) := by
  refine ⟨by rw [List.length_take, List.length_take, h.1], fun j q hq => ?_⟩
  rw [List.getElem?_take] at hq
  split at hq
  · rename_i hm
    rw [List.getElem?_take_of_lt hm]
    exact h.2 j q hq
  · cases hq
theorem ClsL.snoc {H : Hp} {vs : List V} {Cs : List (Nat × Int)} (h : ClsL H vs Cs) {a : Addr} {c : Nat × Int} (e : H a = some (.tup [.int (c.1 : Int), .int c.2])) : ClsL H (vs ++ [.ref a]) (Cs ++ [c]) := by
  refine ⟨by rw [List.length_append, List.length_append, h.1]; rfl, fun j q hq => ?_⟩
  by_cases hj : j < Cs.length
  · rw [List.getElem?_append_left hj] at hq
    rw [List.getElem?_append_left (by rw [h.1]; exact hj)]
    exact h.2 j q hq
  · rw [List.getElem?_append_right (by omega)] at hq
    have l := (List.getElem?_eq_some_iff.mp hq).1
    rw [List.length_singleton] at l
    have ej : j - Cs.length = 0 := by omega
    rw [ej] at hq
    have er : c = q := Option.some.inj hq
    rw [List.getElem?_append_right (by rw [h.1]; omega), h.1, ej, ← er]
    exact ⟨a, rfl, e⟩
/-- the first place that is met; the label there -/
def firstB (Cs : List (Nat × Int)) (S : Nat → Bool) : Nat := Cs.findIdx fun c => S c.1
def labB (Cs : List (Nat × Int)) (S : Nat → Bool) : Option Int := (Cs[firstB Cs S]?).map (·.2)
theorem labB_congr {Cs : List (Nat × Int)} {S T : Nat → Bool} (h : ∀ c ∈ Cs, S c.1 = T c.1) : labB Cs S = labB Cs T := by
  have key : ∀ Cs : List (Nat × Int), (∀ c ∈ Cs, S c.1 = T c.1) → firstB Cs S = firstB Cs T := by
    intro Cs
    induction Cs with
    | nil => intro _; rfl
    | cons c r ih =>
      intro h
      have ih := ih fun d hd => h d (List.mem_cons_of_mem _ hd)
      unfold firstB at ih ⊢
      rw [List.findIdx_cons, List.findIdx_cons, h c List.mem_cons_self, ih]
  unfold labB
  rw [key Cs h]
theorem first_drop {Cs : List (Nat × Int)} {S : Nat → Bool} {i : Nat} {c : Nat × Int} (hc : Cs[i]? = some c) (h : firstB Cs S = i + firstB (Cs.drop i) S) : firstB Cs S = if S c.1 then i else (i + 1) + firstB (Cs.drop (i + 1)) S := by
  have il := (List.getElem?_eq_some_iff.mp hc).1
  have hd : Cs.drop i = c :: Cs.drop (i + 1) := by
    rw [List.drop_eq_getElem_cons il]
    rw [List.getElem?_eq_getElem il] at hc
    rw [Option.some.inj hc]
  rw [h, hd]
  unfold firstB
  rw [List.findIdx_cons]
  cases S c.1 with
  | true => rfl
  | false => show i + ((Cs.drop (i + 1)).findIdx (fun c => S c.1) + 1) = _; simp only [Bool.false_eq_true, if_false]; omega
theorem all_true (n : Nat) : (List.range n).filterMap (fun _ => some (V.bl true)) = (List.replicate n true).map V.bl := by
  rw [show (fun _ : Nat => some (V.bl true)) = some ∘ (fun _ : Nat => V.bl true) from rfl, List.filterMap_eq_map, List.map_replicate]
  exact List.eq_replicate_iff.mpr ⟨by rw [List.length_map, List.length_range], fun b hb => by
    obtain ⟨x, _, e⟩ := List.mem_map.mp hb
    exact e.symm⟩
theorem all_id (n : Nat) : (List.replicate n true).all id = true := List.all_eq_true.mpr fun x hx => (List.eq_of_mem_replicate hx)
theorem filter_natsV (p : Nat → Bool) (f : Nat → Nat) (n : Nat) : (List.range n).filterMap (fun i => if p i = true then some (V.int ((f i : Nat) : Int)) else none) = natsV (((List.range n).filter p).map f) := by
  unfold natsV
  induction n with
  | zero => rfl
  | succ n ih =>
    rw [filterMap_range_succ, ih, List.range_succ, List.filter_append, List.map_append, List.map_append]
    congr 1
    rw [List.filter_cons]
    cases p n <;> rfl
theorem filter_nats (p : Nat → Bool) (n : Nat) : (List.range n).filterMap (fun i => if p i = true then some (V.int (i : Int)) else none) = natsV ((List.range n).filter p) := by
  have h := filter_natsV p id n
  rw [List.map_id] at h
  exact h
theorem slice_any {K : PySem.W.Frag} {H : Hp} {a : Addr} {xs : List V} {m : Nat} {Q : VK} (hx : H a = some (.tup xs)) (hm : m ≤ xs.length)
    (k : ∀ p H', Same H H' → H' p = some (.tup (xs.take m)) → Q (.ref p) H') : rSlA K (.ref a) none (some (m : Int)) H Q := by
  have e0 : HT.sIx xs.length 0 none = 0 := rfl
  have e1 : HT.sIx xs.length xs.length (some (m : Int)) = m := by
    rw [HT.sIx_nat]
    omega
  refine ⟨a, xs, rfl, SqT.of hx, fun e => ?_, fun _ p np => ?_⟩
  · rw [e1] at e
    exact k a H (Same.refl H) (by rw [hx, e.2, List.take_length])
  · refine k p _ (Same.new (Same.refl H) np) ?_
    rw [upd_same]
    unfold cutV
    rw [e0, e1]
    rfl
theorem ixn_nat {n j : Nat} (hj : j < n) : ixN n (j : Int) = some j := by
  unfold ixN
  rw [if_pos (by omega), if_pos (by omega)]
  simp
/-! ### words for books -/
local macro_rules | `(tactic| tm_at "fld") => `(tactic| refine ⟨_, _, _, _, _, rfl, by tm_at "hp", by assumption, by assumption, by first | exact bkF_bits _ _ | exact bkF_parents _ _ | fail "fld", ?_⟩)
/-! ### schemes -/
abbrev Tr := Int × Int × List Int
def Trip (H : Hp) (v : V) (e : Tr) : Prop := ∃ (p q : Addr), v = .ref p ∧ H p = some (.tup [.int e.1, .int e.2.1, .ref q]) ∧ H q = some (.tup (e.2.2.map V.int))
def SchAt (H : Hp) (a : Addr) (S : List Tr) : Prop := ∃ vs : List V, H a = some (.tup vs) ∧ vs.length = S.length ∧ ∀ (i : Nat) (e : Tr), S[i]? = some e → ∃ v, vs[i]? = some v ∧ Trip H v e
theorem Trip.tk {H H' : Hp} {v : V} {e : Tr} (h : Trip H v e) (k : TK H H') : Trip H' v e := by
  obtain ⟨p, q, e1, e2, e3⟩ := h
  exact ⟨p, q, e1, k _ _ e2, k _ _ e3⟩
theorem SchAt.tk {H H' : Hp} {a : Addr} {S : List Tr} (h : SchAt H a S) (k : TK H H') : SchAt H' a S := by
  obtain ⟨vs, h1, h2, h3⟩ := h
  refine ⟨vs, k _ _ h1, h2, fun i e he => ?_⟩
  obtain ⟨v, hv, ht⟩ := h3 i e he
  exact ⟨v, hv, ht.tk k⟩
theorem SchAt.at {H : Hp} {a : Addr} {S : List Tr} (h : SchAt H a S) {i : Nat} {e : Tr} (he : S[i]? = some e) : ∃ vs p q, H a = some (.tup vs) ∧ vs.length = S.length ∧ vs[i]? = some (.ref p) ∧ H p = some (.tup [.int e.1, .int e.2.1, .ref q]) ∧ H q = some (.tup (e.2.2.map V.int)) := by
  obtain ⟨vs, h1, h2, h3⟩ := h
  obtain ⟨v, hv, p, q, e1, e2, e3⟩ := h3 i e he
  exact ⟨vs, p, q, h1, h2, by rw [hv, e1], e2, e3⟩
def saysB (ex ep : Tr) : Bool := decide (ep.1 < (ex.2.2.length : Int)) && decide (ep.2.1 ≤ ex.2.2.getD ep.1.toNat 0)
def Good (e : Tr) : Prop := 0 ≤ e.1 ∧ e.2.2.length ≤ 1000
def GoodT (v : V) (H : Hp) : Prop := ∃ e, Good e ∧ Trip H v e
theorem GoodT.tk {v : V} {H H' : Hp} (h : GoodT v H) (k : TK H H') : GoodT v H' := by
  obtain ⟨e, g, t⟩ := h
  exact ⟨e, g, t.tk k⟩
theorem sch_of {H : Hp} {a : Addr} : ∀ {vs : List V}, (∀ v ∈ vs, GoodT v H) → ∃ S : List Tr, S.length = vs.length ∧ (∀ e ∈ S, Good e) ∧ ∀ (i : Nat) (e : Tr), S[i]? = some e → ∃ v, vs[i]? = some v ∧ Trip H v e
  | [], _ => ⟨[], rfl, (fun e h => by cases h), (fun i e h => by simp at h)⟩
  | v :: r, h => by
    obtain ⟨S, h1, h2, h3⟩ := sch_of (a := a) (vs := r) fun u hu => h u (List.mem_cons_of_mem _ hu)
    obtain ⟨e, g, t⟩ := h v List.mem_cons_self
    refine ⟨e :: S, by rw [List.length_cons, List.length_cons, h1], fun x hx => ?_, fun i x hx => ?_⟩
    · rcases List.mem_cons.mp hx with rfl | hx
      · exact g
      · exact h2 x hx
    · cases i with
      | zero =>
        have q : e = x := Option.some.inj hx
        exact ⟨v, rfl, q ▸ t⟩
      | succ i => exact h3 i x hx
/-- a list of triples' addresses -/
structure ScL (H : Hp) (vs : List V) (S : List Tr) : Prop where
  len : vs.length = S.length
  item : ∀ (i : Nat) (e : Tr), S[i]? = some e → ∃ v, vs[i]? = some v ∧ Trip H v e
theorem ScL.nil {H : Hp} : ScL H [] [] := ⟨rfl, fun i e h => by simp at h⟩
theorem ScL.tk {H H' : Hp} {vs : List V} {S : List Tr} (h : ScL H vs S) (k : TK H H') : ScL H' vs S := ⟨h.len, fun i e he => by
  obtain ⟨v, hv, ht⟩ := h.item i e he
  exact ⟨v, hv, ht.tk k⟩⟩
theorem ScL.snoc {H : Hp} {vs : List V} {S : List Tr} {v : V} {e : Tr} (h : ScL H vs S) (t : Trip H v e) : ScL H (vs ++ [v]) (S ++ [e]) := by
  refine ⟨by rw [List.length_append, List.length_append, h.len]; rfl, fun i x hx => ?_⟩
  by_cases hi : i < S.length
  · rw [List.getElem?_append_left hi] at hx
    obtain ⟨u, hu, ht⟩ := h.item i x hx
    exact ⟨u, by rw [List.getElem?_append_left (by rw [h.len]; exact hi)]; exact hu, ht⟩
  · rw [List.getElem?_append_right (by omega)] at hx
    have q := (List.getElem?_eq_some_iff.mp hx).1
    rw [List.length_singleton] at q
    have e0 : i - S.length = 0 := by omega
    rw [e0] at hx
    have ex : e = x := Option.some.inj hx
    refine ⟨v, ?_, ex ▸ t⟩
    rw [List.getElem?_append_right (by rw [h.len]; omega), h.len, e0]
    rfl
theorem ScL.sch {H : Hp} {a : Addr} {vs : List V} {S : List Tr} (h : ScL H vs S) (ha : H a = some (.tup vs)) : SchAt H a S := ⟨vs, ha, h.len, h.item⟩
theorem ScL.rev {H : Hp} {vs : List V} {S : List Tr} (h : ScL H vs S) : ScL H vs.reverse S.reverse := by
  refine ⟨by rw [List.length_reverse, List.length_reverse, h.len], fun i e he => ?_⟩
  have il : i < S.length := by
    have q := (List.getElem?_eq_some_iff.mp he).1
    rw [List.length_reverse] at q
    exact q
  rw [List.getElem?_reverse il] at he
  obtain ⟨v, hv, ht⟩ := h.item _ _ he
  exact ⟨v, by rw [List.getElem?_reverse (by rw [h.len]; exact il), h.len]; exact hv, ht⟩
/-! ### defs that show things: where they are called, no showing is under way -/
section
open PySem.Spec PyProof.Rows
/-- what a def promises where no guard is under way -/
structure FnG (P : Program) (w : World) (K : PySem.W.Frag) (mg : Str → Option Value) (base : Heap) (CX : CXT) (k : Nat) (f : Addr) (fd : FuncData) (ps : List Str) (sp : Sp) : Prop where
  len : ∀ vs H Q E, sp vs H Q E → vs.length = ps.length
  run : ∀ (A : Around) (outer : List Env) (s : Shared) (H : Hp) (args : Args) (us : List Value) (vs : List V) (Q : VK) (E : XK), A.guards = some [] → Room k A → Env0 P w K mg base A outer s H → BindsTo s fd args (ps.zip us) → Vals vs us → sp vs H Q E →
    codeAny (model P w) A (.call (.ref f) args) (CR CX outer P w H s Q E) s
section
variable {P : Program} {w : World} {K : PySem.W.Frag} {mg mb : Str → Option Value} {base : Heap} {CX : CXT} {k : Nat}
theorem _root_.L2.Fun.okG {x qual : Str} {st : Stmt} {f : Addr} {fd : FuncData} {N ps : List Str} {sp : Sp} (F : Fun K x qual st f fd) (S : FnScope N ps (defScope st)) (len : ∀ vs H Q E, sp vs H Q E → vs.length = ps.length)
    (hbody : ∀ (cdv : Value) (A : Around) (outer : List Env) (s : Shared) (H : Hp) (vs : List V) (Q : VK) (E : XK), A.guards = some [] → Room k (A.deeper (envOfC qual (defScope st) s.heap.objs.size f cdv)) → sp vs H Q E →
      ∃ t, PSs (cxOf CX0 P w K mg base N qual (defScope st) f cdv A outer s H E).nox (defBody st) t ∧ t { nx := fun _ H' => Q .non H', rt := Q } (start N vs) H) : FnG P w K mg base CX0 (k + 1) f fd ps sp := by
  obtain ⟨oc, od, kV, doc, pm, an, cdv, ct, osl, rfl, lk, hcd⟩ := F.ex
  constructor
  · exact len
  intro A outer s H args us vs Q E hG hr e0 hb r hsp
  have KX : K.In s.heap := e0.mod.kin.keeps fun b o e => (e0.bs b o e).1
  refine codeAny_call_function hr.depth (KX _ _ lk) rfl S.co S.gen rfl (PySem.W.codeRec_of KX hcd) (hb _ _ _ _ (wpAny_newFunctionEnv_cells S.kind (fun y hy => ?_) fun env he s1 x => ?_))
  · obtain ⟨y1, y2⟩ := y
    rcases S.par y1 (List.of_mem_zip hy).1 with q | q
    · exact .inl q
    · exact .inr ⟨q, PySem.W.cellsFrom_some _ _ _ (.inl q)⟩
  · subst he
    obtain ⟨t, ht, hq⟩ := hbody cdv A outer s H vs Q E hG (hr.deeper _) hsp
    have lim : s.heap.NoLimit := e0.mod.nolimit.keeps fun b o e => (e0.bs b o e).1
    refine ⟨lim.keeps x.toInCall.keep, codeAny_func ?_⟩
    have I : Inv (cxOf CX0 P w K mg base N qual (defScope st) f cdv A outer s H E) [] (start N vs) H s1 := inv_start S hr.hd e0 (len _ _ _ _ hsp) r x
    refine wpAny_mono (ht.nox.run [] s1 (start N vs) H _ I hq) (fun fl s' hs => ?_) fun e s' hs => hs
    cases fl with
    | ret u =>
      obtain ⟨v, σ', H', J, rv, q⟩ := hs
      exact ⟨v, H', J.os, J.bare, J.base, J.hok, rv, q⟩
    | next =>
      obtain ⟨σ', H', J, q⟩ := hs
      exact ⟨V.non, H', J.os, J.bare, J.base, J.hok, rfl, q⟩
    | brk =>
      obtain ⟨_, _, _, q⟩ := hs
      exact q.elim
    | cont =>
      obtain ⟨_, _, _, q⟩ := hs
      exact q.elim
end
section
variable {X : Cx} {CX : CXT} {k : Nat} {f : Addr} {fd : FuncData} {ps : List Str} {sp : Sp} {dvs : List V} {ds : List Value} {E : XK} {x : Str} {p pos : Pos} {e : Expr} {es : List Expr} {t : TA}
theorem run_fnG {pins : List (Addr × Obj)} {σ : L2.St} {H : Hp} {s : Shared} {Q : VK} {us : List Value} {vs : List V} (F : FnG X.prog X.w X.K X.mg X.base CX k f fd ps sp) (hG : X.A.guards = some []) (hr : Room k X.A) (hb : Binds X.K fd ps ds) (hd : Vals dvs ds) (hx : Passes CX X E)
    (I : Inv X pins σ H s) (r : Vals vs us) (h : sp (vs ++ dvs) H Q E) : wpAny (model X.prog X.w) X.A (call (.ref f) us) (EP X pins σ Q) X.xe s := by
  have r2 : Vals (vs ++ dvs) (us ++ ds) := r.append hd
  have hl : (us ++ ds).length = ps.length := r2.length ▸ F.len _ _ _ _ h
  have c := F.run X.A X.stack s H ⟨us, []⟩ (us ++ ds) (vs ++ dvs) Q E hG hr I.env0 (hb s us I.kIn hl) r2 h
  refine wpAny_call (codeAny_mono c fun r s' hq => ?_)
  match r, hq with
  | .error e, hq => exact hx pins σ H s e s' I hq
  | .ok (.ret u), hq => exact I.after hq
/-- f(e, ..) of such a def -/
theorem pe_callG (F : FnG X.prog X.w X.K X.mg X.base CX k f fd ps sp) (hG : X.A.guards = some []) (hr : Room k X.A) (hg : Gl X x) (hm : X.mg x = some (.ref f)) (hk : PySem.W.keepIn X.K (.ref f) = true) (hb : Binds X.K fd ps ds) (hd : Vals dvs ds) (hx : Passes CX X E)
    (ha : PA X (e :: es) t) (hdb : (x == ("__debug__" : Str)) = false := by decide) (he : starEach (e :: es) X.env = (false, eval e X.env) :: starEach es X.env := by rfl) (hpl : (backTo pos (starEach es X.env)).any (·.1) = false := by rfl) :
    PE X (.Call (.Name x p) (e :: es) [] pos) (tCall sp dvs E t) :=
  ⟨fun pins s σ H Q I h => wpAny_Call_Name_kw (ld_glob I hg hm (PySem.W.callWith_K (h₀ := X.base) I.ok.mod.kin hk (thn (ha.run pos pins s σ H _ I h) fun us s1 ⟨vs, H1, I1, r, q⟩ => ⟨I1.kIn, run_fnG F hG hr hb hd hx I1 r q⟩) he hpl) hdb)⟩
/-- a thing whose text is told -/
structure ShowD (d : PyData) : Prop where
  can : d.showable = true
  nod : d.hasDict = false
  deep : d.depth ≤ 40
  short : d.shown.length ≤ sizeLine
def rRepr (K : PySem.W.Frag) : List V → Hp → VK → Prop := fun xs H Q => ∃ (v : V) (d : PyData), xs = [v] ∧ Dp K H v d ∧ ShowD d ∧ Q (.str d.shown) H
/-- repr(e) -/
theorem call_reprG (hG : X.A.guards = some []) (hu : X.A.units + 64 < cLine) : CallR X (.builtin "repr") (rRepr X.K) := by
  intro pins s σ H xs us Q I r h
  obtain ⟨v, d, rfl, hd, sh, q⟩ := h
  cases r with
  | cons r1 r2 =>
    cases r2
    rename_i u
    obtain ⟨as, rd⟩ := Dp.reads I d v u hd r1
    cases hd with
    | non =>
      cases rd
      exact PySem.P.repr_of_none ⟨.str _, H, I.tok _, ⟨_, rfl⟩, q⟩
    | bl b =>
      cases rd
      refine PySem.P.repr_of_bool ⟨.str _, H, I.tok _, ⟨_, rfl⟩, ?_⟩
      cases b <;> exact q
    | int i =>
      cases rd
      exact PySem.P.repr_of_int (of_decide_eq_true sh.can) ⟨.str _, H, I.tok _, ⟨_, rfl⟩, q⟩
    | str x =>
      cases rd
      exact PySem.P.repr_of_str ⟨.str _, H, I.tok _, ⟨_, rfl⟩, q⟩ sh.short
    | lst h1 h2 =>
      cases r1
      exact PySem.repr_of_reads' rd sh.can (fun h' => by rw [sh.nod] at h'; cases h') hG (by have := sh.deep; omega) (fun _ _ e => e) (fun h' u tk hk => ⟨.str _, H, I.kept hk, ⟨_, rfl⟩, q⟩) sh.short
    | tup h1 h2 =>
      cases r1
      exact PySem.repr_of_reads' rd sh.can (fun h' => by rw [sh.nod] at h'; cases h') hG (by have := sh.deep; omega) (fun _ _ e => e) (fun h' u tk hk => ⟨.str _, H, I.kept hk, ⟨_, rfl⟩, q⟩) sh.short
end
section
variable {P : Program} {w : World} {K : PySem.W.Frag} {mg mb : Str → Option Value} {CX : CXT} {k : Nat}
/-- the law's own call: at the outermost place nothing is under way -/
theorem law_callG {fa a : Addr} {fd : FuncData} {x : Str} {sp : Sp} {s₁ : Shared} {vs : List Value} {ns : List Int}
    (KX : K.In s₁.heap) (hns : s₁.heap.Ns mainGlobals mg) (hb : s₁.heap.Ns builtinsNs mb) (hbb : ∀ x : Str, x ≠ "__name__" → mb x = bootBuiltins x) (hlim : s₁.heap.NoLimit) (hg : s₁.gens = #[])
    (ha : s₁.heap.get? a = some { cls := .type "list", data := .seq vs.toArray }) (hi : IntsAre vs ns) (hl : ns.length ≤ sizeLine) (hr : Room k callerA)
    (F : ∀ base : Heap, K.In base → base.Ns mainGlobals mg → FnG P w K mg base CX k fa fd [x] sp) (hbind : ∀ (s : Shared) (u : Value), BindsTo s fd ⟨[u], []⟩ [(x, u)])
    (hsp : ∀ H : Hp, Only H → SqL K H a (ns.map V.int) → sp [.ref a] H (fun v _ => v = .bl true) fun _ _ _ => False)
    (hCX : ∀ H e s', CX [] H s₁ (fun _ _ _ => False) e s' → False) :
    codeAny (model P w) callerA (.call (.ref fa) ⟨[.ref a], []⟩) (fun r s' => r = .ok (.ret (.bool true)) ∧ OldK s₁.heap s'.heap ∧ s'.os = s₁.os ∧ AllBare s'.gens) s₁ := by
  have rv := vals_ints hi
  let o₀ : Obj := { cls := .type "list", data := .seq vs.toArray }
  -- which of the two ways the script stands in the law's view
  obtain ⟨H, hO, hS, hok, hA, hK⟩ : ∃ H : Hp, Only H ∧ SqL K H a (ns.map V.int) ∧ HOk P w H s₁.heap ∧ (∀ b, H b ≠ none → b = a) ∧ (H a ≠ none → K.lookup a = none) := by
    by_cases hk : K.lookup a = none
    · refine ⟨fun b => if b = a then some (.frz o₀ (.lst (ns.map V.int))) else none, fun b => ?_, .inl (.inr ⟨o₀, if_pos rfl⟩), fun b u z => ?_, fun b z => ?_, fun _ => hk⟩
      · by_cases hb : b = a
        · exact .inr ⟨_, _, if_pos hb⟩
        · exact .inl (if_neg hb)
      · by_cases hb : b = a
        · have z' := (if_pos hb).symm.trans z
          cases z'
          subst hb
          exact ⟨ha, by rw [List.length_map]; exact hl, vs, _, rv, ha⟩
        · have z' := (if_neg hb).symm.trans z
          cases z'
      · by_cases hb : b = a
        · exact hb
        · exact absurd (if_neg hb) z
    · obtain ⟨o, ho⟩ := Option.ne_none_iff_exists'.mp hk
      have e := KX a o ho
      rw [ha] at e
      cases e
      exact ⟨fun _ => none, fun _ => .inl rfl, .inr ⟨_, vs.toArray, _, ho, rfl, rfl, rfl, by rw [List.size_toArray, hi.length]; exact hl, by simpa using rv⟩, fun b u z => (by have z' : (none : Option HO) = some u := z; cases z'), fun b z => absurd rfl z, fun z => absurd rfl z⟩
  have only : ∀ {b : Addr} {o : Obj}, s₁.heap.get? b = some o → (b = a → False) → (hidT s₁.heap H).get? b = some o := fun {b o} e n => hidT_get e (Classical.byContradiction fun q => n (hA b q))
  have nsK : ∀ {b : Addr} {m : Str → Option Value}, s₁.heap.Ns b m → (hidT s₁.heap H).Ns b m := fun {b m} ⟨o, es, ep, e, d, r⟩ => ⟨o, es, ep, only e (fun z => by
    subst z
    rw [ha] at e
    cases e
    have d' : Data.seq vs.toArray _ = Data.dict es ep := d
    cases d'), d, r⟩
  have hKb : K.In (hidT s₁.heap H) := fun b o e => by
    cases q : H b with
    | none => exact hidT_get (KX b o e) q
    | some u =>
      have z := hA b (by rw [q]; simp)
      subst z
      rw [hK (by rw [q]; simp)] at e
      cases e
  have e0 : Env0 P w K mg (hidT s₁.heap H) callerA [] s₁ H :=
    ⟨rfl, ⟨hKb, nsK hns, ⟨mb, nsK hb, hbb⟩, let ⟨mc, h1, h2⟩ := hlim; ⟨mc, nsK h1, h2⟩⟩, fun b o e => of_hidT e, Nat.le_of_eq (hidT_size _ _), trivial, fun b hb => absurd (show b ∈ ([] : List Addr) from hb) (by simp), hok, .of_eq hg⟩
  refine codeAny_mono ((F _ hKb (nsK hns)).run callerA [] s₁ H ⟨[.ref a], []⟩ [.ref a] [.ref a] _ _ rfl hr e0 (hbind s₁ (.ref a)) (.cons rfl .nil) (hsp H hO hS)) fun r s' h => ?_
  match r, h with
  | .error e, h => exact (hCX H e s' h).elim
  | .ok (.ret u), h =>
    obtain ⟨v, H', os, bare, un, hok', r', q⟩ := h
    have q' : v = .bl true := q
    subst q'
    obtain rfl : u = Value.bool true := r'
    refine ⟨rfl, OldK.of_keep fun b o e => ?_, os, bare⟩
    cases q : H b with
    | none => exact un.keep b o e q (by intro z; exact absurd (show b ∈ ([] : List Addr) from z) (by simp)) (by simp)
    | some u =>
      rcases hO b with z | ⟨ob, xs, z⟩
      · rw [q] at z; cases z
      · obtain ⟨e1, _⟩ := hok b _ z
        obtain ⟨e2, _⟩ := hok' b _ (un.frzs b ob _ z)
        rw [e] at e1
        cases e1
        exact e2
end
theorem walk_ofG {l : PySem.W.OpenLaw} {n k : Nat} {q : Program} {loose : List Str} {XP : (Str → Option Value) → Heap → Prop} {YP : World → Heap → Prop} {d : DefRec} {K : Params → PySem.W.Frag} {CX : World → CXT} {sp : World → Sp} {x : Str}
    (hn : l.most = some n) (hn2 : n ≤ sizeLine) (hdf : d.params.defaults = []) (hr : Room k callerA)
    (hY : ∀ (w : World) (h : Heap), YP w h → (K w.params).In h)
    (F : ∀ (w : World) (mg : Str → Option Value) (fa : Addr) (h : Heap), (K w.params).In h → h.Ns mainGlobals mg → mg d.name = some (.ref fa) →
      ∃ fd : FuncData, (∀ (s : Shared) (u : Value), BindsTo s fd ⟨[u], []⟩ [(x, u)]) ∧
        ∀ base : Heap, (K w.params).In base → base.Ns mainGlobals mg → FnG l.prog w (K w.params) mg base (CX w) k fa fd [x] (sp w))
    (hsp : ∀ (w : World) (H : Hp) (a : Addr) (ns : List Int), ns.length ≤ n → Only H → SqL (K w.params) H a (ns.map V.int) → sp w [.ref a] H (fun v _ => v = .bl true) fun _ _ _ => False)
    (hCX : ∀ (w : World) (H : Hp) (s : Shared) (e : Value) (s' : Shared), CX w [] H s (fun _ _ _ => False) e s' → False) :
    PySem.W.WalkO q loose XP YP l.row.toRowW d [] (fun f vs => PySem.call f vs) :=
  Att.attach_call hn hdf fun w s₀ s₁ mg mb fa o pm cd doc a vs ns G Y ho hd hcd hmg hobj hints hlen hg => by
    obtain ⟨fd, hb, hF⟩ := F w mg fa _ (hY w _ Y) G.T.g hmg
    exact law_callG (hY w _ Y) G.T.g G.T.b G.T.builtins G.T.nolimit hg hobj hints (Nat.le_trans hlen hn2) hr hF hb (fun H hO hS => hsp w H a ns hlen hO hS) fun H e s' => hCX w H s₁ e s'
end
structure Top (K : PySem.W.Frag) (mg : Str → Option Value) where
  f_is_integer : Addr
  fd_is_integer : FuncData
  F_is_integer : Fun K "is_integer" "is_integer" s_is_integer f_is_integer fd_is_integer
  b_is_integer : Binds K fd_is_integer ["thing"] []
  g_is_integer : mg "is_integer" = some (.ref f_is_integer)
  f_is_within : Addr
  fd_is_within : FuncData
  F_is_within : Fun K "is_within" "is_within" s_is_within f_is_within fd_is_within
  b_is_within : Binds K fd_is_within ["thing", "least", "most"] []
  g_is_within : mg "is_within" = some (.ref f_is_within)
  f_is_triple : Addr
  fd_is_triple : FuncData
  F_is_triple : Fun K "is_triple" "is_triple" s_is_triple f_is_triple fd_is_triple
  b_is_triple : Binds K fd_is_triple ["thing"] []
  g_is_triple : mg "is_triple" = some (.ref f_is_triple)
  f_check_kind_of : Addr
  fd_check_kind_of : FuncData
  F_check_kind_of : Fun K "check_kind_of" "check_kind_of" s_check_kind_of f_check_kind_of fd_check_kind_of
  b_check_kind_of : Binds K fd_check_kind_of ["thing", "many"] []
  g_check_kind_of : mg "check_kind_of" = some (.ref f_check_kind_of)
  f_is_given : Addr
  fd_is_given : FuncData
  F_is_given : Fun K "is_given" "is_given" s_is_given f_is_given fd_is_given
  b_is_given : Binds K fd_is_given ["thing"] []
  g_is_given : mg "is_given" = some (.ref f_is_given)
  f_has_form : Addr
  fd_has_form : FuncData
  F_has_form : Fun K "has_form" "has_form" s_has_form f_has_form fd_has_form
  b_has_form : Binds K fd_has_form ["thing"] []
  g_has_form : mg "has_form" = some (.ref f_has_form)
  f_check_scheme : Addr
  fd_check_scheme : FuncData
  F_check_scheme : Fun K "check_scheme" "check_scheme" s_check_scheme f_check_scheme fd_check_scheme
  b_check_scheme : Binds K fd_check_scheme ["thing"] []
  g_check_scheme : mg "check_scheme" = some (.ref f_check_scheme)
  f_told : Addr
  fd_told : FuncData
  F_told : Fun K "told" "told" s_told f_told fd_told
  b_told : Binds K fd_told ["scheme", "x", "p"] []
  g_told : mg "told" = some (.ref f_told)
  f_check_kinds : Addr
  fd_check_kinds : FuncData
  F_check_kinds : Fun K "check_kinds" "check_kinds" s_check_kinds f_check_kinds fd_check_kinds
  b_check_kinds : Binds K fd_check_kinds ["scheme", "some"] []
  g_check_kinds : mg "check_kinds" = some (.ref f_check_kinds)
  f_told_lot : Addr
  fd_told_lot : FuncData
  F_told_lot : Fun K "told_lot" "told_lot" s_told_lot f_told_lot fd_told_lot
  b_told_lot : Binds K fd_told_lot ["scheme", "some"] []
  g_told_lot : mg "told_lot" = some (.ref f_told_lot)
  f_lot_of : Addr
  fd_lot_of : FuncData
  F_lot_of : Fun K "lot_of" "lot_of" s_lot_of f_lot_of fd_lot_of
  b_lot_of : Binds K fd_lot_of ["scheme", "x"] []
  g_lot_of : mg "lot_of" = some (.ref f_lot_of)
  f_common : Addr
  fd_common : FuncData
  F_common : Fun K "common" "common" s_common f_common fd_common
  b_common : Binds K fd_common ["scheme", "x", "y"] []
  g_common : mg "common" = some (.ref f_common)
  f_meet : Addr
  fd_meet : FuncData
  F_meet : Fun K "meet" "meet" s_meet f_meet fd_meet
  b_meet : Binds K fd_meet ["scheme", "x", "y"] []
  g_meet : mg "meet" = some (.ref f_meet)
  f__law_hand : Addr
  fd__law_hand : FuncData
  F__law_hand : Fun K "_law_hand" "_law_hand" s__law_hand f__law_hand fd__law_hand
  b__law_hand : Binds K fd__law_hand ["_law_script"] []
  g__law_hand : mg "_law_hand" = some (.ref f__law_hand)
  f__law_draw : Addr
  fd__law_draw : FuncData
  F__law_draw : Fun K "_law_draw" "_law_draw" s__law_draw f__law_draw fd__law_draw
  b__law_draw : Binds K fd__law_draw ["_law_hand_here", "_law_many"] []
  g__law_draw : mg "_law_draw" = some (.ref f__law_draw)
  f__law_is : Addr
  fd__law_is : FuncData
  F__law_is : Fun K "_law_is" "_law_is" s__law_is f__law_is fd__law_is
  b__law_is : Binds K fd__law_is ["_law_told", "_law_due"] []
  g__law_is : mg "_law_is" = some (.ref f__law_is)
  f__law_parents : Addr
  fd__law_parents : FuncData
  F__law_parents : Fun K "_law_parents" "_law_parents" s__law_parents f__law_parents fd__law_parents
  b__law_parents : Binds K fd__law_parents ["_law_hand_here", "_law_many", "_law_most"] []
  g__law_parents : mg "_law_parents" = some (.ref f__law_parents)
  f__law_sheet : Addr
  fd__law_sheet : FuncData
  F__law_sheet : Fun K "_law_sheet" "_law_sheet" s__law_sheet f__law_sheet fd__law_sheet
  b__law_sheet : Binds K fd__law_sheet ["_law_parents_here"] []
  g__law_sheet : mg "_law_sheet" = some (.ref f__law_sheet)
  f__law_dealt : Addr
  fd__law_dealt : FuncData
  F__law_dealt : Fun K "_law_dealt" "_law_dealt" s__law_dealt f__law_dealt fd__law_dealt
  b__law_dealt : Binds K fd__law_dealt ["_law_hand_here", "_law_sheet_here"] []
  g__law_dealt : mg "_law_dealt" = some (.ref f__law_dealt)
  f__law_right_scheme : Addr
  fd__law_right_scheme : FuncData
  F__law_right_scheme : Fun K "_law_right_scheme" "_law_right_scheme" s__law_right_scheme f__law_right_scheme fd__law_right_scheme
  b__law_right_scheme : Binds K fd__law_right_scheme ["_law_hand_here", "_law_sheet_here"] []
  g__law_right_scheme : mg "_law_right_scheme" = some (.ref f__law_right_scheme)
  f__law_any_scheme : Addr
  fd__law_any_scheme : FuncData
  F__law_any_scheme : Fun K "_law_any_scheme" "_law_any_scheme" s__law_any_scheme f__law_any_scheme fd__law_any_scheme
  b__law_any_scheme : Binds K fd__law_any_scheme ["_law_hand_here", "_law_many"] []
  g__law_any_scheme : mg "_law_any_scheme" = some (.ref f__law_any_scheme)
  f__law_said : Addr
  fd__law_said : FuncData
  F__law_said : Fun K "_law_said" "_law_said" s__law_said f__law_said fd__law_said
  b__law_said : Binds K fd__law_said ["_law_scheme", "_law_x", "_law_p"] []
  g__law_said : mg "_law_said" = some (.ref f__law_said)
  f__law_bent : Addr
  fd__law_bent : FuncData
  F__law_bent : Fun K "_law_bent" "_law_bent" s__law_bent f__law_bent fd__law_bent
  b__law_bent : Binds K fd__law_bent ["_law_hand_here", "_law_scheme"] []
  g__law_bent : mg "_law_bent" = some (.ref f__law_bent)
  f_law : Addr
  fd_law : FuncData
  F_law : Fun K "law" "law" s_law f_law fd_law
  b_law : Binds K fd_law ["_law_script"] []
  g_law : mg "law" = some (.ref f_law)
  z_abs : mg "abs" = none
  z_all : mg "all" = none
  z_bool : mg "bool" = none
  z_enumerate : mg "enumerate" = none
  z_int : mg "int" = none
  z_isinstance : mg "isinstance" = none
  z_len : mg "len" = none
  z_list : mg "list" = none
  z_min : mg "min" = none
  z_range : mg "range" = none
  z_repr : mg "repr" = none
  z_set : mg "set" = none
  z_sorted : mg "sorted" = none
  z_tuple : mg "tuple" = none
  z_zip : mg "zip" = none
section
variable {P : Program} {w : World} {K : PySem.W.Frag} {mg : Str → Option Value} {base : Heap}
/-! is_integer -/
def sp_is_integer (K : PySem.W.Frag) : Sp := fun vs H Q _ => ∃ v, vs = [v] ∧ IntK K H v ∧ Q (.bl (isIntB v)) H
theorem sc_is_integer : FnScope ["thing"] ["thing"] (defScope s_is_integer) := ⟨rfl, rfl, rfl, by decide +kernel, rfl, by decide +kernel, by decide +kernel⟩
theorem ok_is_integer (T : Top K mg) : FnOk P w K mg base CX0 1 T.f_is_integer T.fd_is_integer ["thing"] (sp_is_integer K) := by
  refine T.F_is_integer.ok sc_is_integer (fun vs H Q E h => ?_) (fun cdv A outer s H vs Q E hr h => ?_)
  · obtain ⟨v, rfl, _⟩ := h
    rfl
  · obtain ⟨v, rfl, ⟨t, bi, bb, ht, hi, hb, e⟩, k⟩ := h
    refine ⟨_, (pss_one (ps_ret (pe_and (pe_callB (r := rIsi K) (id := "isinstance") call_isi (by rfl) T.z_isinstance (by decide +kernel) (pa_cons (pv 0) (pa_cons (pe_bltn (v := .ty "int") (u := .type "int") (by rfl) T.z_int (by decide +kernel) rfl) pa_nil))) (pe_one (pe_not (pe_callB (r := rIsi K) (id := "isinstance") call_isi (by rfl) T.z_isinstance (by decide +kernel) (pa_cons (pv 0) (pa_cons (pe_bltn (v := .ty "bool") (u := .type "bool") (by rfl) T.z_bool (by decide +kernel) rfl) pa_nil)))))))), ?_⟩
    tm_at "w"
    cases bi with
    | false =>
      rw [← e] at k
      tm_at "w"
      exact k
    | true =>
      rw [← e] at k
      tm_at "w"
      exact k
/-! is_within -/
def sp_is_within (K : PySem.W.Frag) : Sp := fun vs H Q _ => ∃ (v : V) (lo hi : Int), vs = [v, .int lo, .int hi] ∧ IntK K H v ∧ Q (.bl (withinB v lo hi)) H
theorem sc_is_within : FnScope ["thing", "least", "most"] ["thing", "least", "most"] (defScope s_is_within) := ⟨rfl, rfl, rfl, by decide +kernel, rfl, by decide +kernel, by decide +kernel⟩
theorem ok_is_within (T : Top K mg) : FnOk P w K mg base CX0 2 T.f_is_within T.fd_is_within ["thing", "least", "most"] (sp_is_within K) := by
  have G_is_integer := ok_is_integer (P := P) (w := w) (base := base) T
  refine T.F_is_within.ok sc_is_within (fun vs H Q E h => ?_) (fun cdv A outer s H vs Q E hr h => ?_)
  · obtain ⟨v, lo, hi, rfl, _⟩ := h
    rfl
  · obtain ⟨v, lo, hi, rfl, hk, k⟩ := h
    refine ⟨_, (pss_one (ps_ret (pe_and (pe_call G_is_integer hr (by rfl) T.g_is_integer T.F_is_integer.kp T.b_is_integer .nil pass0 (pa_cons (pv 0) pa_nil)) (pe_one (pe_chain op_le op_le (pv 1) (pv 0) (pv 2)))))), ?_⟩
    refine ⟨v, rfl, v, rfl, hk, _, rfl, ?_⟩
    cases v with
    | int i =>
      refine iteT ?_
      tm_at "w"
      refine iteD (fun h1 => ?_) (fun h1 => ?_)
      · tm_at "w"
        have e : withinB (.int i) lo hi = decide (i ≤ hi) := by
          show (decide (lo ≤ i) && decide (i ≤ hi)) = _
          rw [decide_eq_true h1, Bool.true_and]
        rw [e] at k
        exact k
      · have e : withinB (.int i) lo hi = false := by
          show (decide (lo ≤ i) && decide (i ≤ hi)) = _
          rw [decide_eq_false h1, Bool.false_and]
        rw [e] at k
        exact k
    | _ =>
      refine iteF ?_
      exact k
/-! is_triple -/
def sp_is_triple (K : PySem.W.Frag) : Sp := fun vs H Q _ => ∃ (p : Addr) (xs : List V), vs = [.ref p] ∧ H p = some (.tup xs) ∧ Q (.bl (decide (xs.length = 3))) H
theorem sc_is_triple : FnScope ["thing"] ["thing"] (defScope s_is_triple) := ⟨rfl, rfl, rfl, by decide +kernel, rfl, by decide +kernel, by decide +kernel⟩
theorem ok_is_triple (T : Top K mg) : FnOk P w K mg base CX0 1 T.f_is_triple T.fd_is_triple ["thing"] (sp_is_triple K) := by
  refine T.F_is_triple.ok sc_is_triple (fun vs H Q E h => ?_) (fun cdv A outer s H vs Q E hr h => ?_)
  · obtain ⟨p, xs, rfl, _⟩ := h
    rfl
  · obtain ⟨p, xs, rfl, hp, k⟩ := h
    refine ⟨_, (pss_one (ps_ret (pe_and (pe_callB (r := rIsi K) (id := "isinstance") call_isi (by rfl) T.z_isinstance (by decide +kernel) (pa_cons (pv 0) (pa_cons (pe_bltn (v := .ty "tuple") (u := .type "tuple") (by rfl) T.z_tuple (by decide +kernel) rfl) pa_nil))) (pe_one (pe_cmpR op_eq (pe_callB (r := rLenQ K) (id := "len") call_len_seq (by rfl) T.z_len (by decide +kernel) (pa_cons (pv 0) pa_nil)) pe_int (nomark _)))))), ?_⟩
    have ht := ty_tup (K := K) hp
    have h2 := tup_tup (K := K)
    tm_at "w"
    show Q (.bl (decide (V.int (xs.length : Int) = V.int ((3 : Nat) : Int)))) H
    rw [dec_nat]
    exact k
/-! check_kind_of -/
def sp_check_kind_of (K : PySem.W.Frag) : Sp := fun vs H Q _ => ∃ (i m : Int), vs = [.int i, .int m] ∧ 0 ≤ i ∧ i < m ∧ Q .non H
theorem sc_check_kind_of : FnScope ["thing", "many"] ["thing", "many"] (defScope s_check_kind_of) := ⟨rfl, rfl, rfl, by decide +kernel, rfl, by decide +kernel, by decide +kernel⟩
theorem ok_check_kind_of (T : Top K mg) : FnOk P w K mg base CX0 3 T.f_check_kind_of T.fd_check_kind_of ["thing", "many"] (sp_check_kind_of K) := by
  have G_is_within := ok_is_within (P := P) (w := w) (base := base) T
  refine T.F_check_kind_of.ok sc_check_kind_of (fun vs H Q E h => ?_) (fun cdv A outer s H vs Q E hr h => ?_)
  · obtain ⟨i, m, rfl, _⟩ := h
    rfl
  · obtain ⟨i, m, rfl, h0, h1, k⟩ := h
    refine ⟨_, (pss_one (ps_if (pt_not (pt_val (pe_call G_is_within hr (by rfl) T.g_is_within T.F_is_within.kp T.b_is_within .nil pass0 (pa_cons (pv 0) (pa_cons pe_int (pa_cons (pe_op op_sub (pv 1) pe_int) pa_nil)))))) (pss_one ps_never) pss_nil)), ?_⟩
    tm_at "w"
    refine ⟨_, _, _, rfl, .int _, ?_⟩
    have e : withinB (.int i) 0 (m - 1) = true := by
      show (decide (0 ≤ i) && decide (i ≤ m - 1)) = true
      rw [decide_eq_true h0, decide_eq_true (show i ≤ m - 1 by omega)]
      rfl
    rw [e]
    refine ⟨_, rfl, ?_⟩
    exact iteF k
/-! is_given -/
def sp_is_given (K : PySem.W.Frag) : Sp := fun vs H Q _ => ∃ (v : V) (e : Tr), vs = [v] ∧ Trip H v e ∧ 0 ≤ e.1 ∧ e.2.2.length ≤ 1000 ∧ ∀ H', Same H H' → Q (.bl true) H'
theorem sc_is_given : FnScope ["thing", "entry"] ["thing"] (defScope s_is_given) := ⟨rfl, rfl, rfl, by decide +kernel, rfl, by decide +kernel, by decide +kernel⟩
theorem ok_is_given (T : Top K mg) : FnOk P w K mg base CX0 2 T.f_is_given T.fd_is_given ["thing"] (sp_is_given K) := by
  have G_is_integer := ok_is_integer (P := P) (w := w) (base := base) T
  have G_is_triple := ok_is_triple (P := P) (w := w) (base := base) T
  refine T.F_is_given.ok sc_is_given (fun vs H Q E h => ?_) (fun cdv A outer s H vs Q E hr h => ?_)
  · obtain ⟨v, e, rfl, _⟩ := h
    rfl
  · obtain ⟨v, ⟨s, n, r⟩, rfl, ⟨p, q, rfl, hp, hq⟩, h0, hl, k⟩ := h
    refine ⟨_, (pss_cons (ps_if (PW.pt (pw_or (pt_not (pt_val (pe_call G_is_triple hr (by rfl) T.g_is_triple T.F_is_triple.kp T.b_is_triple .nil pass0 (pa_cons (pv 0) pa_nil)))) (pw_or (pt_not (pt_val (pe_call G_is_integer hr (by rfl) T.g_is_integer T.F_is_integer.kp T.b_is_integer .nil pass0 (pa_cons (pe_ix (r := rIxT K) ix_tup (pv 0) pe_int (fun _ _ => rfl)) pa_nil)))) (pw_or (pt_cmpR op_lt (pe_ix (r := rIxT K) ix_tup (pv 0) pe_int (fun _ _ => rfl)) pe_int (nomark _)) (pw_or1 (pt_not (pt_val (pe_call G_is_integer hr (by rfl) T.g_is_integer T.F_is_integer.kp T.b_is_integer .nil pass0 (pa_cons (pe_ix (r := rIxT K) ix_tup (pv 0) pe_int (fun _ _ => rfl)) pa_nil))))))))) (pss_one (ps_ret pe_bl)) pss_nil)
      (pss_one (ps_ret (pe_and (pe_callB (r := rIsi K) (id := "isinstance") call_isi (by rfl) T.z_isinstance (by decide +kernel) (pa_cons (pe_ix (r := rIxT K) ix_tup (pv 0) pe_int (fun _ _ => rfl)) (pa_cons (pe_bltn (v := .ty "tuple") (u := .type "tuple") (by rfl) T.z_tuple (by decide +kernel) rfl) pa_nil))) (pe_one (pe_callB (r := rAll K) (id := "all") (cr_all rfl) (by rfl) T.z_all (by decide +kernel) (pa_cons (pe_lc (own := [("entry", 1)]) (g := gName 1) (tt := tYes) rfl sc_is_given.nd (pi_tup (pe_ix (r := rIxT K) ix_tup (pv 0) pe_int (fun _ _ => rfl))) (blkOk_by (own := [("entry", 1)]) (N := ["thing", "entry"]) (sc := defScope s_is_given) (by decide +kernel)) (fun _ _ _ _ _ => (pg_name (i := 1) sc_is_given.nd rfl (Or.inl rfl))) (fun _ _ _ _ _ => pts_nil) (fun _ _ _ _ _ => (pe_call G_is_integer hr (by rfl) T.g_is_integer T.F_is_integer.kp T.b_is_integer .nil pass0 (pa_cons (pv 1) pa_nil)))) pa_nil))))))), ?_⟩
    have ht := ty_tup (K := K) hq
    have h2 := tup_tup (K := K)
    refine ⟨_, rfl, p, _, rfl, hp, true, rfl, ?_⟩
    tm_at "w"
    refine ⟨⟨_, SqT.of hq⟩, fun D nD => lc_tupF (fun _ => some (.bl true)) hq nD (by rw [List.length_map]; exact Nat.le_trans hl (by decide)) ?_ ?_⟩
    · intro i x H' N M hx s1 kN kM
      obtain ⟨z, rfl⟩ : ∃ z, x = V.int z := by
        rw [List.getElem?_map] at hx
        cases e : r[i]? with
        | none => rw [e] at hx; cases hx
        | some z => rw [e] at hx; exact ⟨z, (Option.some.inj hx).symm⟩
      tm_at "w"
      exact kN _ _ rfl (Same.refl H')
    · intro H' s1 hD
      rw [all_true] at hD
      tm_at "w"
      refine ⟨_, _, rfl, SqL.of hD, ?_⟩
      rw [all_id]
      exact k _ s1
/-! has_form -/
def sp_has_form (K : PySem.W.Frag) : Sp := fun vs H Q _ => ∃ (a : Addr) (S : List Tr), vs = [.ref a] ∧ SchAt H a S ∧ (∀ e ∈ S, 0 ≤ e.1 ∧ e.2.2.length ≤ 1000) ∧ S.length ≤ 1000 ∧ ∀ H', Same H H' → Q (.bl true) H'
theorem sc_has_form : FnScope ["thing", "item"] ["thing"] (defScope s_has_form) := ⟨rfl, rfl, rfl, by decide +kernel, rfl, by decide +kernel, by decide +kernel⟩
theorem ok_has_form (T : Top K mg) : FnOk P w K mg base CX0 3 T.f_has_form T.fd_has_form ["thing"] (sp_has_form K) := by
  have G_is_given := ok_is_given (P := P) (w := w) (base := base) T
  refine T.F_has_form.ok sc_has_form (fun vs H Q E h => ?_) (fun cdv A outer s H vs Q E hr h => ?_)
  · obtain ⟨a, S, rfl, _⟩ := h
    rfl
  · obtain ⟨a, S, rfl, ⟨vs, ha, hl, hv⟩, h0, hn, k⟩ := h
    refine ⟨_, (pss_one (ps_ret (pe_and (pe_callB (r := rIsi K) (id := "isinstance") call_isi (by rfl) T.z_isinstance (by decide +kernel) (pa_cons (pv 0) (pa_cons (pe_bltn (v := .ty "tuple") (u := .type "tuple") (by rfl) T.z_tuple (by decide +kernel) rfl) pa_nil))) (pe_one (pe_callB (r := rAll K) (id := "all") (cr_all rfl) (by rfl) T.z_all (by decide +kernel) (pa_cons (pe_lc (own := [("item", 1)]) (g := gName 1) (tt := tYes) rfl sc_has_form.nd (pi_tup (pv 0)) (blkOk_by (own := [("item", 1)]) (N := ["thing", "item"]) (sc := defScope s_has_form) (by decide +kernel)) (fun _ _ _ _ _ => (pg_name (i := 1) sc_has_form.nd rfl (Or.inl rfl))) (fun _ _ _ _ _ => pts_nil) (fun _ _ _ _ _ => (pe_call G_is_given hr (by rfl) T.g_is_given T.F_is_given.kp T.b_is_given .nil pass0 (pa_cons (pv 1) pa_nil)))) pa_nil)))))), ?_⟩
    have ht := ty_tup (K := K) ha
    have h2 := tup_tup (K := K)
    tm_at "w"
    refine ⟨⟨_, SqT.of ha⟩, fun D nD => lc_tupF (fun _ => some (.bl true)) ha nD (by omega) ?_ ?_⟩
    · intro i x H' N M hx s1 kN kM
      have il : i < S.length := by
        have q := (List.getElem?_eq_some_iff.mp hx).1
        omega
      obtain ⟨v, hv1, p, q, rfl, hp, hq⟩ := hv i _ (List.getElem?_eq_getElem il)
      have ev : x = .ref p := Option.some.inj (hx.symm.trans hv1)
      subst ev
      have hm := h0 _ (List.getElem_mem il)
      tm_at "w"
      refine ⟨_, _, rfl, ⟨p, q, rfl, by tm_at "hp", by tm_at "hp"⟩, hm.1, hm.2, fun H2 s2 => kN _ _ rfl s2⟩
    · intro H' s1 hD
      rw [all_true] at hD
      tm_at "w"
      refine ⟨_, _, rfl, SqL.of hD, ?_⟩
      rw [all_id]
      exact k _ s1
/-! check_scheme -/
def sp_check_scheme (K : PySem.W.Frag) : Sp := fun vs H Q _ => ∃ (a : Addr) (S : List Tr), vs = [.ref a] ∧ SchAt H a S ∧ (∀ e ∈ S, 0 ≤ e.1 ∧ e.2.2.length ≤ 1000) ∧ S.length ≤ 1000 ∧ ∀ H', Same H H' → Q .non H'
theorem sc_check_scheme : FnScope ["thing"] ["thing"] (defScope s_check_scheme) := ⟨rfl, rfl, rfl, by decide +kernel, rfl, by decide +kernel, by decide +kernel⟩
theorem ok_check_scheme (T : Top K mg) : FnOk P w K mg base CX0 4 T.f_check_scheme T.fd_check_scheme ["thing"] (sp_check_scheme K) := by
  have G_has_form := ok_has_form (P := P) (w := w) (base := base) T
  refine T.F_check_scheme.ok sc_check_scheme (fun vs H Q E h => ?_) (fun cdv A outer s H vs Q E hr h => ?_)
  · obtain ⟨a, S, rfl, _⟩ := h
    rfl
  · obtain ⟨a, S, rfl, hS, h0, hn, k⟩ := h
    refine ⟨_, (pss_one (ps_if (pt_not (pt_val (pe_call G_has_form hr (by rfl) T.g_has_form T.F_has_form.kp T.b_has_form .nil pass0 (pa_cons (pv 0) pa_nil)))) (pss_one ps_never) pss_nil)), ?_⟩
    refine ⟨_, rfl, a, S, rfl, hS, h0, hn, fun H' s => ?_⟩
    tm_at "w"
    exact k _ s
/-! told -/
def sp_told (K : PySem.W.Frag) : Sp := fun vs H Q _ => ∃ (a : Addr) (S : List Tr) (x p : Nat) (ex ep : Tr), vs = [.ref a, .int x, .int p] ∧ SchAt H a S ∧ S[x]? = some ex ∧ S[p]? = some ep ∧ 0 ≤ ep.1 ∧ Q (.bl (saysB ex ep)) H
theorem sc_told : FnScope ["scheme", "x", "p", "entries", "slot", "number", "row"] ["scheme", "x", "p"] (defScope s_told) := ⟨rfl, rfl, rfl, by decide +kernel, rfl, by decide +kernel, by decide +kernel⟩
theorem ok_told (T : Top K mg) : FnOk P w K mg base CX0 1 T.f_told T.fd_told ["scheme", "x", "p"] (sp_told K) := by
  refine T.F_told.ok sc_told (fun vs H Q E h => ?_) (fun cdv A outer s H vs Q E hr h => ?_)
  · obtain ⟨a, S, x, p, ex, ep, rfl, _⟩ := h
    rfl
  · obtain ⟨a, S, x, p, ⟨s1, n1, r1⟩, ⟨s2, n2, r2⟩, rfl, hS, hx, hp, h0, k⟩ := h
    obtain ⟨vs, px, qx, ha, hl, hvx, hpx, hqx⟩ := hS.at hx
    obtain ⟨vs', pp, qp, ha', hl', hvp, hpp, hqp⟩ := hS.at hp
    have ev : vs = vs' := HO.tup.inj (Option.some.inj (ha.symm.trans ha'))
    subst ev
    refine ⟨_, (pss_cons (ps_asg (pe_ix (r := rIxT K) ix_tup (pv 0) (pv 2) (fun _ _ => rfl)) (pg_tup rfl (pgs_cons (pg_name (i := 4) sc_told.nd rfl (Or.inl rfl)) (pgs_cons (pg_name (i := 5) sc_told.nd rfl (Or.inl rfl)) (pgs_cons (pg_name (i := 6) sc_told.nd rfl (Or.inl rfl)) pgs_nil)))))
      (pss_cons (ps_set (i := 3) sc_told.nd rfl (Or.inl rfl) (pe_ix (r := rIxT K) ix_tup (pe_ix (r := rIxT K) ix_tup (pv 0) (pv 1) (fun _ _ => rfl)) pe_int (fun _ _ => rfl)))
      (pss_one (ps_ret (pe_and (pe_cmpR op_lt (pv 4) (pe_callB (r := rLenQ K) (id := "len") call_len_seq (by rfl) T.z_len (by decide +kernel) (pa_cons (pv 3) pa_nil)) (nomark _)) (pe_one (pe_cmpR op_ge (pe_ix (r := rIxT K) ix_tup (pv 3) (pv 4) (fun _ _ => rfl)) (pv 5) (nomark _)))))))), ?_⟩
    tm_at "w"
    refine iteD (fun h1 => ?_) (fun h1 => ?_)
    · rw [List.length_map] at h1
      tm_at "w"
      refine ⟨_, _, _, _, rfl, rfl, by tm_at "sqt", at_map h0 h1, ?_⟩
      tm_at "w"
      have e : saysB (s1, n1, r1) (s2, n2, r2) = decide (n2 ≤ r1.getD s2.toNat 0) := by
        show (decide (s2 < (r1.length : Int)) && decide (n2 ≤ r1.getD s2.toNat 0)) = _
        rw [decide_eq_true h1, Bool.true_and]
      rw [e] at k
      exact k
    · rw [List.length_map] at h1
      have e : saysB (s1, n1, r1) (s2, n2, r2) = false := by
        show (decide (s2 < (r1.length : Int)) && decide (n2 ≤ r1.getD s2.toNat 0)) = _
        rw [decide_eq_false h1, Bool.false_and]
      rw [e] at k
      exact k
/-! check_kinds -/
def sp_check_kinds (K : PySem.W.Frag) : Sp := fun vs H Q _ => ∃ (a s : Addr) (S : List Tr) (xs : List Nat), vs = [.ref a, .ref s] ∧ SchAt H a S ∧ (∀ e ∈ S, 0 ≤ e.1 ∧ e.2.2.length ≤ 1000) ∧ S.length ≤ 1000 ∧ H s = some (.tup (natsV xs)) ∧ (∀ x ∈ xs, x < S.length) ∧ ∀ H', Same H H' → Q .non H'
theorem sc_check_kinds : FnScope ["scheme", "some", "thing"] ["scheme", "some"] (defScope s_check_kinds) := ⟨rfl, rfl, rfl, by decide +kernel, rfl, by decide +kernel, by decide +kernel⟩
theorem ok_check_kinds (T : Top K mg) : FnOk P w K mg base CX0 5 T.f_check_kinds T.fd_check_kinds ["scheme", "some"] (sp_check_kinds K) := by
  have G_check_kind_of := ok_check_kind_of (P := P) (w := w) (base := base) T
  have G_check_scheme := ok_check_scheme (P := P) (w := w) (base := base) T
  refine T.F_check_kinds.ok sc_check_kinds (fun vs H Q E h => ?_) (fun cdv A outer s H vs Q E hr h => ?_)
  · obtain ⟨a, s, S, xs, rfl, _⟩ := h
    rfl
  · obtain ⟨a, s, S, xs, rfl, hS, h0, hn, hs, hx, k⟩ := h
    refine ⟨_, (pss_cons (ps_expr (pe_call G_check_scheme hr (by rfl) T.g_check_scheme T.F_check_scheme.kp T.b_check_scheme .nil pass0 (pa_cons (pv 0) pa_nil)))
      (pss_one (ps_for PassesOwn.never rfl (pi_tup (pv 1)) (pg_name (i := 2) sc_check_kinds.nd rfl (Or.inl rfl))
      (pss_one (ps_expr (pe_call G_check_kind_of (hr.mono (by decide)) (by rfl) T.g_check_kind_of T.F_check_kind_of.kp T.b_check_kind_of .nil pass0 (pa_cons (pv 2) (pa_cons (pe_callB (r := rLenQ K) (id := "len") call_len_seq (by rfl) T.z_len (by decide +kernel) (pa_cons (pv 0) pa_nil)) pa_nil)))))))), ?_⟩
    tm_at "w"
    refine ⟨a, S, rfl, hS, h0, hn, fun H1 s1 => ?_⟩
    have hs1 := s1 _ _ hs
    obtain ⟨ws, hws, hwl, _⟩ := hS.tk (Same.tk s1)
    tm_at "w"
    refine ⟨⟨_, SqT.of hs1⟩, for_tup (K := K) (a := s) (xs := natsV xs) (fun j σ H2 => ∃ u, σ = [some (.ref a), some (.ref s), u] ∧ H2 = H1) ⟨none, rfl, rfl⟩ ?_ ?_ ?_⟩
    · rintro j σ H2 _ ⟨_, rfl, rfl⟩
      exact SqT.of hs1
    · rintro j v σ H2 hv ⟨u0, rfl, rfl⟩
      obtain ⟨q, hq, rfl, jl⟩ := natsV_here hv
      have ql := hx q (List.mem_of_getElem? hq)
      tm_at "w"
      refine ⟨_, _, rfl, by omega, by omega, ?_⟩
      exact ⟨_, rfl, rfl⟩
    · rintro σ H2 ⟨u0, rfl, rfl⟩
      exact k _ s1
/-! told_lot -/
def saysI (S : List Tr) (x p : Nat) : Bool := match S[x]?, S[p]? with
  | some ex, some ep => saysB ex ep
  | _, _ => false
theorem saysI_at {S : List Tr} {x p : Nat} {ex ep : Tr} (h1 : S[x]? = some ex) (h2 : S[p]? = some ep) : saysI S x p = saysB ex ep := by
  unfold saysI
  rw [h1, h2]
/-- the lot of the kinds that a scheme says all of some are -/
def lotS (S : List Tr) (xs : List Nat) : List Nat := (List.range S.length).filter fun p => xs.all fun x => saysI S x p
theorem lotS_len (S : List Tr) (xs : List Nat) : (lotS S xs).length ≤ S.length := by
  have := List.length_filter_le (fun p => xs.all fun x => saysI S x p) (List.range S.length)
  rw [List.length_range] at this
  exact this
theorem range_bls (xs : List Nat) (f : Nat → Bool) : ((List.range xs.length).filterMap fun j => xs[j]?.map fun x => V.bl (f x)) = (xs.map f).map V.bl := by
  rw [List.map_map]
  exact range_items xs fun x => V.bl (f x)
def sp_told_lot (K : PySem.W.Frag) : Sp := fun vs H Q _ => ∃ (a s : Addr) (S : List Tr) (xs : List Nat), vs = [.ref a, .ref s] ∧ SchAt H a S ∧ (∀ e ∈ S, 0 ≤ e.1 ∧ e.2.2.length ≤ 1000) ∧ S.length ≤ 1000 ∧ H s = some (.tup (natsV xs)) ∧ (∀ x ∈ xs, x < S.length) ∧ xs.length ≤ 1000 ∧ ∀ t H', Same H H' → H' t = some (.tup (natsV (lotS S xs))) → Q (.ref t) H'
theorem sc_told_lot : FnScope ["scheme", "some", "p", "x"] ["scheme", "some"] (defScope s_told_lot) := ⟨rfl, rfl, rfl, by decide +kernel, rfl, by decide +kernel, by decide +kernel⟩
theorem ok_told_lot (T : Top K mg) : FnOk P w K mg base CX0 2 T.f_told_lot T.fd_told_lot ["scheme", "some"] (sp_told_lot K) := by
  have G_told := ok_told (P := P) (w := w) (base := base) T
  refine T.F_told_lot.ok sc_told_lot (fun vs H Q E h => ?_) (fun cdv A outer s H vs Q E hr h => ?_)
  · obtain ⟨a, s, S, xs, rfl, _⟩ := h
    rfl
  · obtain ⟨a, s, S, xs, rfl, hS, h0, hn, hs, hx, hxl, k⟩ := h
    refine ⟨_, (pss_one (ps_ret (pe_callTy (r := rTupQ K) (T := "tuple") call_tuple_of (by rfl) T.z_tuple (by decide +kernel) (pa_cons (pe_lc (own := [("p", 2)]) (g := gName 2) rfl sc_told_lot.nd (pi_range1 rfl T.z_range (pa_cons (pe_callB (r := rLenQ K) (id := "len") call_len_seq (by rfl) T.z_len (by decide +kernel) (pa_cons (pv 0) pa_nil)) pa_nil)) (blkOk_by (own := [("p", 2)]) (N := ["scheme", "some", "p", "x"]) (sc := defScope s_told_lot) (by decide +kernel)) (fun _ _ _ _ _ => (pg_name (i := 2) sc_told_lot.nd rfl (Or.inr rfl))) (fun _ _ _ _ _ => (pts_one (pt_val (pe_callB (r := rAll K) (id := "all") (cr_all rfl) (by rfl) T.z_all (by decide +kernel) (pa_cons (by exact (pe_lc (own := [("x", 3)]) (g := gName 3) (tt := tYes) rfl sc_told_lot.nd (pi_tupK (K := K) rfl (pv 1)) (blk_in (own := [("x", 3)]) (N := ["scheme", "some", "p", "x"]) (sc1 := defScope s_told_lot) rfl rfl (by decide +kernel)) (fun _ _ _ _ _ => (pg_name (i := 3) sc_told_lot.nd rfl (Or.inl rfl))) (fun _ _ _ _ _ => pts_nil) (fun _ _ _ _ _ => (pe_call G_told hr (by rfl) T.g_told T.F_told.kp T.b_told .nil pass0 (pa_cons (pv 0) (pa_cons (pv 3) (pa_cons (pv 2) pa_nil))))))) pa_nil))))) (fun _ _ _ _ _ => (pv 2))) pa_nil)))), ?_⟩
    obtain ⟨ws, hws, hwl, _⟩ := id hS
    tm_at "w"
    intro D nD
    refine lc_rangeF (fun p => if (xs.all fun x => saysI S x p) = true then some (V.int (p : Int)) else none) nD (by omega) ?_ ?_
    · intro p H1 N M hp s1 kN kM
      have pl : p < S.length := by omega
      rw [Int.zero_add]
      have hs1 := s1 _ _ hs
      have hS1 := hS.tk (Same.tk s1)
      tm_at "w"
      refine ⟨⟨_, SqT.of hs1⟩, fun E nE => lc_tupF (fun j => xs[j]?.map fun x => V.bl (saysI S x p)) hs1 nE (by rw [natsV_len]; omega) ?_ ?_⟩
      · intro j y H2 N2 M2 hy s2 kN2 kM2
        obtain ⟨x, hx2, rfl, _⟩ := natsV_here hy
        have xl := hx x (List.mem_of_getElem? hx2)
        tm_at "w"
        refine ⟨a, S, x, p, _, _, rfl, hS1.tk (Same.tk s2), List.getElem?_eq_getElem xl, List.getElem?_eq_getElem pl, (h0 _ (List.getElem_mem pl)).1, ?_⟩
        exact kN2 _ _ (by rw [hx2, ← saysI_at (List.getElem?_eq_getElem xl) (List.getElem?_eq_getElem pl)]; rfl) (Same.refl H2)
      · intro H2 s2 hE
        rw [natsV_len, range_bls] at hE
        tm_at "w"
        refine ⟨_, _, rfl, SqL.of hE, ?_⟩
        have ea : (xs.map fun x => saysI S x p).all id = xs.all fun x => saysI S x p := by rw [List.all_map]; rfl
        rw [ea]
        refine ⟨_, rfl, ?_⟩
        refine iteB (fun e => ?_) (fun e => ?_)
        · tm_at "w"
          exact kN _ _ (by rw [e]; rfl) s2
        · exact kM _ (by rw [e]; rfl) s2
    · intro H1 s1 hD
      rw [Int.toNat_natCast, hwl, filter_nats] at hD
      tm_at "w"
      intro t nt
      exact k t _ (Same.new s1 nt) (by rw [upd_same]; rfl)
/-! lot_of -/
def sp_lot_of (K : PySem.W.Frag) : Sp := fun vs H Q _ => ∃ (a : Addr) (S : List Tr) (x : Nat), vs = [.ref a, .int x] ∧ SchAt H a S ∧ (∀ e ∈ S, 0 ≤ e.1 ∧ e.2.2.length ≤ 1000) ∧ S.length ≤ 1000 ∧ x < S.length ∧ ∀ t H', Same H H' → H' t = some (.tup (natsV (lotS S [x]))) → Q (.ref t) H'
theorem sc_lot_of : FnScope ["scheme", "x"] ["scheme", "x"] (defScope s_lot_of) := ⟨rfl, rfl, rfl, by decide +kernel, rfl, by decide +kernel, by decide +kernel⟩
theorem ok_lot_of (T : Top K mg) : FnOk P w K mg base CX0 6 T.f_lot_of T.fd_lot_of ["scheme", "x"] (sp_lot_of K) := by
  have G_check_kinds := ok_check_kinds (P := P) (w := w) (base := base) T
  have G_told_lot := ok_told_lot (P := P) (w := w) (base := base) T
  refine T.F_lot_of.ok sc_lot_of (fun vs H Q E h => ?_) (fun cdv A outer s H vs Q E hr h => ?_)
  · obtain ⟨a, S, x, rfl, _⟩ := h
    rfl
  · obtain ⟨a, S, x, rfl, hS, h0, hn, hx, k⟩ := h
    refine ⟨_, (pss_cons (ps_expr (pe_call G_check_kinds hr (by rfl) T.g_check_kinds T.F_check_kinds.kp T.b_check_kinds .nil pass0 (pa_cons (pv 0) (pa_cons (pe_tup (pa_cons (pv 1) pa_nil)) pa_nil))))
      (pss_one (ps_ret (pe_call G_told_lot (hr.mono (by decide)) (by rfl) T.g_told_lot T.F_told_lot.kp T.b_told_lot .nil pass0 (pa_cons (pv 0) (pa_cons (pe_tup (pa_cons (pv 1) pa_nil)) pa_nil)))))), ?_⟩
    have hx1 : ∀ z ∈ [x], z < S.length := fun z hz => by rw [List.mem_singleton.mp hz]; exact hx
    tm_at "w"
    intro p np
    have s1 : ∀ o, Same H (upd H p o) := fun o => Same.new (Same.refl H) np
    tm_at "w"
    refine ⟨a, p, S, [x], rfl, hS.tk (Same.tk (s1 _)), h0, hn, upd_same, hx1, fun H2 s2 => ?_⟩
    tm_at "w"
    intro p2 np2
    have s3 := Same.new (o := .tup [V.int (x : Int)]) (Same.trans (s1 _) s2) np2
    tm_at "w"
    refine ⟨a, p2, S, [x], rfl, hS.tk (Same.tk s3), h0, hn, upd_same, hx1, by simp, fun t H4 s4 ht => ?_⟩
    exact k t _ (Same.trans s3 s4) ht
/-! common -/
def sp_common (K : PySem.W.Frag) : Sp := fun vs H Q _ => ∃ (a : Addr) (S : List Tr) (x y : Nat), vs = [.ref a, .int x, .int y] ∧ SchAt H a S ∧ (∀ e ∈ S, 0 ≤ e.1 ∧ e.2.2.length ≤ 1000) ∧ S.length ≤ 1000 ∧ x < S.length ∧ y < S.length ∧ ∀ t H', Same H H' → H' t = some (.tup (natsV (lotS S [x, y]))) → Q (.ref t) H'
theorem sc_common : FnScope ["scheme", "x", "y"] ["scheme", "x", "y"] (defScope s_common) := ⟨rfl, rfl, rfl, by decide +kernel, rfl, by decide +kernel, by decide +kernel⟩
theorem ok_common (T : Top K mg) : FnOk P w K mg base CX0 6 T.f_common T.fd_common ["scheme", "x", "y"] (sp_common K) := by
  have G_check_kinds := ok_check_kinds (P := P) (w := w) (base := base) T
  have G_told_lot := ok_told_lot (P := P) (w := w) (base := base) T
  refine T.F_common.ok sc_common (fun vs H Q E h => ?_) (fun cdv A outer s H vs Q E hr h => ?_)
  · obtain ⟨a, S, x, y, rfl, _⟩ := h
    rfl
  · obtain ⟨a, S, x, y, rfl, hS, h0, hn, hx, hy, k⟩ := h
    refine ⟨_, (pss_cons (ps_expr (pe_call G_check_kinds hr (by rfl) T.g_check_kinds T.F_check_kinds.kp T.b_check_kinds .nil pass0 (pa_cons (pv 0) (pa_cons (pe_tup (pa_cons (pv 1) (pa_cons (pv 2) pa_nil))) pa_nil))))
      (pss_one (ps_ret (pe_call G_told_lot (hr.mono (by decide)) (by rfl) T.g_told_lot T.F_told_lot.kp T.b_told_lot .nil pass0 (pa_cons (pv 0) (pa_cons (pe_tup (pa_cons (pv 1) (pa_cons (pv 2) pa_nil))) pa_nil)))))), ?_⟩
    have hx1 : ∀ z ∈ [x, y], z < S.length := fun z hz => by
      rcases List.mem_cons.mp hz with e | hz
      · rw [e]; exact hx
      · rw [List.mem_singleton.mp hz]; exact hy
    tm_at "w"
    intro p np
    have s1 : ∀ o, Same H (upd H p o) := fun o => Same.new (Same.refl H) np
    tm_at "w"
    refine ⟨a, p, S, [x, y], rfl, hS.tk (Same.tk (s1 _)), h0, hn, upd_same, hx1, fun H2 s2 => ?_⟩
    tm_at "w"
    intro p2 np2
    have s3 := Same.new (o := .tup [V.int (x : Int), V.int (y : Int)]) (Same.trans (s1 _) s2) np2
    tm_at "w"
    refine ⟨a, p2, S, [x, y], rfl, hS.tk (Same.tk s3), h0, hn, upd_same, hx1, by simp, fun t H4 s4 ht => ?_⟩
    exact k t _ (Same.trans s3 s4) ht
/-! meet -/
/-! ### zip of two tuples of any lengths -/
theorem lc_zipTM {K : PySem.W.Frag} {a b : Addr} {xs ys : List V} {g : TG} {tt : TT} {te : TE} {vs : List Nat} {σ : St} {H1 : Hp} {D : Addr} {Qd : Hp → Prop} {n : Nat} (f : Nat → Option V) (hx : H1 a = some (.tup xs)) (hy : H1 b = some (.tup ys)) (hl : min xs.length ys.length = n) (nD : H1 D = none) (hn : n ≤ 100000)
    (hs : ∀ (i : Nat) (x y : V) (Z : Addr) (H : Hp) (N : V → Hp → Prop) (M : Hp → Prop), xs[i]? = some x → ys[i]? = some y → Same H1 H → H Z = some (.tup [x, y]) → (∀ v H4, f i = some v → Same H H4 → N v H4) → (∀ H4, f i = none → Same H H4 → M H4) → g (.ref Z) (wipe σ vs) H fun σ2 H2 => wipe σ2 vs = wipe σ vs ∧ tt σ2 H2 fun b H3 => if b = true then te σ2 H3 N else M H3)
    (hd : ∀ H, Same H1 H → H D = some (.lst ((List.range n).filterMap f)) → Qd H) : ∃ W : Nat → Nat → Hp → Prop, (∃ m, W 0 m (upd H1 D (.lst []))) ∧ ∀ i m H, W i m H →
      ((RZ.ItzT K a b).stop i H ∧ Qd H) ∨ ((RZ.ItzT K a b).go i H ∧ ∃ Nx : Hp → Prop, (∀ H', Nx H' → ∃ m', m' < m ∧ W (i + 1) m' H') ∧ ∀ x H', (RZ.ItzT K a b).yld i H x H' → g x (wipe σ vs) H' fun σ2 H2 => wipe σ2 vs = wipe σ vs ∧ tt σ2 H2 fun b H3 =>
        if b = true then te σ2 H3 fun y H4 => ∃ acc, H4 D = some (.lst acc) ∧ acc.length < sizeLine ∧ Nx (upd H4 D (.lst (acc ++ [y]))) else Nx H3) := by
  refine ⟨fun i m H => m = n - i ∧ i ≤ n ∧ Same H1 H ∧ H D = some (.lst ((List.range i).filterMap f)), ⟨n, rfl, Nat.zero_le _, Same.new (Same.refl H1) nD, upd_same⟩, ?_⟩
  rintro i m H ⟨rfl, hi, s, hD⟩
  have qx : SqT K H a xs := SqT.of (s _ _ hx)
  have qy : SqT K H b ys := SqT.of (s _ _ hy)
  have hz := filterMap_range_len f i
  by_cases hlt : i < n
  · have ex : xs[i]? = some (xs[i]'(by omega)) := List.getElem?_eq_getElem (by omega)
    have ey : ys[i]? = some (ys[i]'(by omega)) := List.getElem?_eq_getElem (by omega)
    refine .inr ⟨⟨xs, ys, _, _, qx, qy, ex, ey⟩, fun H => i < n ∧ Same H1 H ∧ H D = some (.lst ((List.range (i + 1)).filterMap f)), fun H' p' => ⟨n - (i + 1), by omega, rfl, hlt, p'.2⟩, fun v H' y => ?_⟩
    obtain ⟨Z, x', y', rfl, hZ, rfl, f1, f2⟩ := y
    have s1 : Same H (upd H Z (.tup [x', y'])) := Same.new (Same.refl H) hZ
    refine hs i x' y' Z _ _ _ (f1 xs qx) (f2 ys qy) (s.trans s1) upd_same (fun v H4 e s4 => ⟨_, s4 _ _ (s1 _ _ hD), lt_line (by omega), hlt, ?_, ?_⟩) (fun H4 e s4 => ⟨hlt, ?_, ?_⟩)
    · exact Same.mut ((s.trans s1).trans s4) nD
    · rw [filterMap_range_succ, e]
      exact upd_same
    · exact (s.trans s1).trans s4
    · rw [filterMap_range_succ, e, s4 _ _ (s1 _ _ hD)]
      simp
  · have e : i = n := by omega
    subst e
    exact .inl ⟨⟨xs, ys, qx, qy, by omega⟩, hd H s hD⟩
def minZ (i j : Int) : Int := if j < i then j else i
theorem minZ_comm (i j : Int) : minZ i j = minZ j i := by
  unfold minZ
  split <;> split <;> omega
/-- the lesser ones of two rows -/
def minsB (a b : List Int) : List Int := List.zipWith minZ a b
theorem minsB_comm (a b : List Int) : minsB a b = minsB b a := by
  unfold minsB
  rw [List.zipWith_comm]
  congr 1
  funext i j
  exact minZ_comm j i
theorem minsB_len (a b : List Int) : (minsB a b).length = min a.length b.length := List.length_zipWith
theorem minsB_at {a b : List Int} {i : Nat} {x y : Int} (hx : a[i]? = some x) (hy : b[i]? = some y) : (minsB a b)[i]? = some (minZ x y) := by
  unfold minsB
  rw [List.getElem?_zipWith, hx, hy]
theorem mins_list (a b : List Int) : ((List.range (min a.length b.length)).filterMap fun i => (minsB a b)[i]?.map V.int) = (minsB a b).map V.int := by
  rw [← minsB_len]
  exact range_items _ _
def sp_meet (K : PySem.W.Frag) : Sp := fun vs H Q _ => ∃ (a : Addr) (S : List Tr) (x y : Nat) (ex ey : Tr), vs = [.ref a, .int x, .int y] ∧ SchAt H a S ∧ (∀ e ∈ S, 0 ≤ e.1 ∧ e.2.2.length ≤ 1000) ∧ S.length ≤ 1000 ∧ S[x]? = some ex ∧ S[y]? = some ey ∧ ∀ t H', Same H H' → H' t = some (.tup ((minsB ex.2.2 ey.2.2).map V.int)) → Q (.ref t) H'
theorem sc_meet : FnScope ["scheme", "x", "y", "one", "other"] ["scheme", "x", "y"] (defScope s_meet) := ⟨rfl, rfl, rfl, by decide +kernel, rfl, by decide +kernel, by decide +kernel⟩
theorem ok_meet (T : Top K mg) : FnOk P w K mg base CX0 6 T.f_meet T.fd_meet ["scheme", "x", "y"] (sp_meet K) := by
  have G_check_kinds := ok_check_kinds (P := P) (w := w) (base := base) T
  refine T.F_meet.ok sc_meet (fun vs H Q E h => ?_) (fun cdv A outer s H vs Q E hr h => ?_)
  · obtain ⟨a, S, x, y, ex, ey, rfl, _⟩ := h
    rfl
  · obtain ⟨a, S, x, y, ex, ey, rfl, hS, h0, hn, hx, hy, k⟩ := h
    refine ⟨_, (pss_cons (ps_expr (pe_call G_check_kinds hr (by rfl) T.g_check_kinds T.F_check_kinds.kp T.b_check_kinds .nil pass0 (pa_cons (pv 0) (pa_cons (pe_tup (pa_cons (pv 1) (pa_cons (pv 2) pa_nil))) pa_nil))))
      (pss_one (ps_ret (pe_callTy (r := rTupQ K) (T := "tuple") call_tuple_of (by rfl) T.z_tuple (by decide +kernel) (pa_cons (pe_lc (own := [("one", 3), ("other", 4)]) (tt := tYes) rfl sc_meet.nd (RZ.pi_zipA (by rfl) T.z_zip (pa_cons (pe_ix (r := rIxT K) ix_tup (pe_ix (r := rIxT K) ix_tup (pv 0) (pv 1) (fun _ _ => rfl)) pe_int (fun _ _ => rfl)) (pa_cons (pe_ix (r := rIxT K) ix_tup (pe_ix (r := rIxT K) ix_tup (pv 0) (pv 2) (fun _ _ => rfl)) pe_int (fun _ _ => rfl)) pa_nil))) (blkOk_by (own := [("one", 3), ("other", 4)]) (N := ["scheme", "x", "y", "one", "other"]) (sc := defScope s_meet) (by decide +kernel)) (fun _ _ _ _ _ => (pg_tupK (K := K) 2 rfl rfl (pgs_cons (pg_name (i := 3) sc_meet.nd rfl (Or.inl rfl)) (pgs_cons (pg_name (i := 4) sc_meet.nd rfl (Or.inl rfl)) pgs_nil)))) (fun _ _ _ _ _ => pts_nil) (fun _ _ _ _ _ => (pe_callB (id := "min") (call_min2 rfl) (by rfl) T.z_min (by decide +kernel) (pa_cons (pv 3) (pa_cons (pv 4) pa_nil))))) pa_nil))))), ?_⟩
    have xl := (List.getElem?_eq_some_iff.mp hx).1
    have yl := (List.getElem?_eq_some_iff.mp hy).1
    have hx1 : ∀ z ∈ [x, y], z < S.length := fun z hz => by
      rcases List.mem_cons.mp hz with e | hz
      · rw [e]; exact xl
      · rw [List.mem_singleton.mp hz]; exact yl
    tm_at "w"
    intro p np
    have s1 : ∀ o, Same H (upd H p o) := fun o => Same.new (Same.refl H) np
    tm_at "w"
    refine ⟨a, p, S, [x, y], rfl, hS.tk (Same.tk (s1 _)), h0, hn, upd_same, hx1, fun H2 s2 => ?_⟩
    have s12 := Same.trans (s1 _) s2
    obtain ⟨vs, px, qx, ha, hl, hvx, hpx, hqx⟩ := (hS.tk (Same.tk s12)).at hx
    obtain ⟨vs', py, qy, ha', hl', hvy, hpy, hqy⟩ := (hS.tk (Same.tk s12)).at hy
    have ev : vs = vs' := HO.tup.inj (Option.some.inj (ha.symm.trans ha'))
    subst ev
    have rx := (h0 _ (List.mem_of_getElem? hx)).2
    tm_at "w"
    refine ⟨_, _, _, _, rfl, .inr ⟨SqT.of hqx, SqT.of hqy, fun D nD => lc_zipTM (n := min ex.2.2.length ey.2.2.length) (fun i => (minsB ex.2.2 ey.2.2)[i]?.map V.int) hqx hqy (by rw [List.length_map, List.length_map]) nD (by omega) ?_ ?_⟩⟩
    · intro i u v Z H3 N M hu hv s3 hZ kN kM
      obtain ⟨z1, e1, rfl, _⟩ := int_here hu
      obtain ⟨z2, e2, rfl, _⟩ := int_here hv
      tm_at "w"
      exact ⟨_, _, rfl, kN (V.int (minZ z1 z2)) _ (by rw [minsB_at e1 e2]; rfl) (Same.refl H3)⟩
    · intro H3 s3 hD
      rw [mins_list] at hD
      tm_at "w"
      intro t nt
      exact k t _ (Same.new (Same.trans s12 s3) nt) upd_same
/-! _law_hand -/
def sp__law_hand (K : PySem.W.Frag) : Sp := fun vs H Q _ => ∃ (a : Addr) (ns : List Int), vs = [.ref a] ∧ SqL K H a (ns.map V.int) ∧ ns.length ≤ 63 ∧ ∀ (τ : Tp) (H' : Hp), Same H H' → H τ.t = none → Tape τ H' → Q (.ref τ.t) H'
theorem sc__law_hand : FnScope ["_law_script", "_law_cells", "_law_cell"] ["_law_script"] (defScope s__law_hand) := ⟨rfl, rfl, rfl, by decide +kernel, rfl, by decide +kernel, by decide +kernel⟩
theorem ok__law_hand (T : Top K mg) : FnOk P w K mg base CX0 1 T.f__law_hand T.fd__law_hand ["_law_script"] (sp__law_hand K) := by
  refine T.F__law_hand.ok sc__law_hand (fun vs H Q E h => ?_) (fun cdv A outer s H vs Q E hr h => ?_)
  · obtain ⟨a, ns, rfl, _⟩ := h
    rfl
  · obtain ⟨a, ns, rfl, hS, h63, k⟩ := h
    refine ⟨_, (pss_cons (ps_setLc (i := 1) (own := [("_law_cell", 2)]) (g := gName 2) (tt := tYes) rfl sc__law_hand.nd rfl rfl (sw_true rfl rfl rfl (by decide +kernel)) (pi_list (pe_slice sl_list (pv 0) po_none (po_some pe_int))) (blkOk_by (own := [("_law_cell", 2)]) (N := ["_law_script", "_law_cells", "_law_cell"]) (sc := defScope s__law_hand) (by decide +kernel)) (fun _ _ _ _ _ => (pg_name (i := 2) sc__law_hand.nd rfl (Or.inl rfl))) (fun _ _ _ _ _ => pts_nil) (fun _ _ _ _ _ => (pe_callB (id := "abs") call_abs (by rfl) T.z_abs (by decide +kernel) (pa_cons (pe_callTy (T := "int") call_int1 (by rfl) T.z_int (by decide +kernel) (pa_cons (pv 2) pa_nil)) pa_nil))))
      (pss_one (ps_ret (pe_lst (pa_cons (pv 1) (pa_cons pe_int (pa_cons pe_int (pa_cons (pe_op op_add pe_int (pe_callB (r := rLenQ K) (id := "len") call_len_seq (by rfl) T.z_len (by decide +kernel) (pa_cons (pv 1) pa_nil))) (pa_cons pe_int pa_nil))))))))), ?_⟩
    tm_at "w"
    refine ⟨_, _, rfl, hS, fun p np => ?_⟩
    have e63 : cutV (ns.map V.int) none (some 63) = ns.map V.int := by
      unfold cutV
      rw [show HT.sIx (ns.map V.int).length 0 none = 0 from rfl, show (some 63 : Option Int) = some ((63 : Nat) : Int) from rfl, HT.sIx_nat, List.length_map, List.drop_zero]
      exact List.take_of_length_le (by rw [List.length_map]; omega)
    rw [e63]
    refine ⟨p, rfl, ⟨_, SqL.of upd_same⟩, fun D nD => lc_listR (fun _ v _ => IsI v) (fun _ _ _ _ h _ => h) upd_same nD (by rw [List.length_map]; omega) ?_ ?_⟩
    · intro i x H1 N M hx s1 kN
      obtain ⟨z, _, rfl, _⟩ := int_here hx
      tm_at "w"
      exact kN _ _ (Same.refl H1) ⟨_, rfl⟩
    · intro H1 acc s1 hD hlen hI
      obtain ⟨ms, rfl⟩ := ints_at hI
      tm_at "w"
      intro t nt
      have wt : Nw _ t := ⟨nt⟩
      have ntl : D ≠ t := ne_of_none hD nt
      have s2 : Same H (upd H1 t (.lst [.ref D, .int 0, .int 0, .int (1 + ((ms.map V.int).length : Int)), .int 0])) := Same.new (Same.trans (Same.new (Same.refl H) np) s1) nt
      exact k ⟨t, D, ms⟩ _ s2 (Same.free (Same.trans (Same.new (Same.refl H) np) s1) nt) ⟨(upd_ne ntl).trans hD, ntl, 0, 0, _, 0, upd_same, by decide⟩
/-! _law_draw -/
def sp__law_draw (K : PySem.W.Frag) : Sp := fun vs H Q _ => ∃ (τ : Tp) (m : Int), vs = [.ref τ.t, .int m] ∧ Tape τ H ∧ 0 < m ∧ m < 1073741824 ∧ ∀ (r : Int) (H' : Hp), Mv τ H H' → 0 ≤ r → r < m → Q (.int r) H'
theorem sc__law_draw : FnScope ["_law_hand_here", "_law_many", "_law_number", "_law_cell", "_law_digit"] ["_law_hand_here", "_law_many"] (defScope s__law_draw) := ⟨rfl, rfl, rfl, by decide +kernel, rfl, by decide +kernel, by decide +kernel⟩
theorem ok__law_draw (T : Top K mg) : FnOk P w K mg base CX0 1 T.f__law_draw T.fd__law_draw ["_law_hand_here", "_law_many"] (sp__law_draw K) := by
  refine T.F__law_draw.ok sc__law_draw (fun vs H Q E h => ?_) (fun cdv A outer s H vs Q E hr h => ?_)
  · obtain ⟨τ, m, rfl, _⟩ := h
    rfl
  · obtain ⟨τ, m, rfl, m0, hm, hm2, k⟩ := h
    refine ⟨_, (C8.pss_cut (ps_if (PW.pt (pw_and (pt_cmpR op_eq (pe_ix (r := rIxL K) ix_list (pv 0) pe_int (fun _ _ => rfl)) pe_int (nomark _)) (pw_and1 (pt_cmpR op_lt (pe_ix (r := rIxL K) ix_list (pv 0) pe_int (fun _ _ => rfl)) (pe_callB (r := rLenQ K) (id := "len") call_len_seq (by rfl) T.z_len (by decide +kernel) (pa_cons (pe_ix (r := rIxL K) ix_list (pv 0) pe_int (fun _ _ => rfl)) pa_nil)) (nomark _))))) (pss_cons (ps_set (i := 3) sc__law_draw.nd rfl (Or.inl rfl) (pe_ix (r := rIxL K) ix_list (pe_ix (r := rIxL K) ix_list (pv 0) pe_int (fun _ _ => rfl)) (pe_ix (r := rIxL K) ix_list (pv 0) pe_int (fun _ _ => rfl)) (fun _ _ => rfl)))
      (pss_cons (ps_asg (pe_op op_add (pe_ix (r := rIxL K) ix_list (pv 0) pe_int (fun _ _ => rfl)) pe_int) (pg_sub (pv 0) pe_int set_list))
      (pss_cons (ps_asg (pe_op op_modN (pe_callTy (T := "int") call_int1 (by rfl) T.z_int (by decide +kernel) (pa_cons (pe_op op_add (pe_op op_add (pe_op op_mul (pe_ix (r := rIxL K) ix_list (pv 0) pe_int (fun _ _ => rfl)) pe_int) (pv 3)) pe_int) pa_nil)) pe_int) (pg_sub (pv 0) pe_int set_list))
      (pss_one (ps_if (pt_cmpR op_ge (pv 3) (pe_op op_pow pe_int pe_int) (nomark _)) (pss_one (ps_asg (pv 3) (pg_sub (pv 0) pe_int set_list))) pss_nil))))) pss_nil)
      (pss_cons (ps_if (pt_cmpR op_gt (pe_ix (r := rIxL K) ix_list (pv 0) pe_int (fun _ _ => rfl)) pe_int (nomark _)) (pss_cons (ps_set (i := 4) sc__law_draw.nd rfl (Or.inl rfl) (pe_op op_modN (pe_callTy (T := "int") call_int1 (by rfl) T.z_int (by decide +kernel) (pa_cons (pe_ix (r := rIxL K) ix_list (pv 0) pe_int (fun _ _ => rfl)) pa_nil)) (pv 1)))
      (pss_cons (ps_asg (pe_op op_fdivN (pe_ix (r := rIxL K) ix_list (pv 0) pe_int (fun _ _ => rfl)) (pv 1)) (pg_sub (pv 0) pe_int set_list))
      (pss_one (ps_ret (pv 4))))) pss_nil)
      (pss_cons (ps_asg (pe_op op_add (pe_ix (r := rIxL K) ix_list (pv 0) pe_int (fun _ _ => rfl)) pe_int) (pg_sub (pv 0) pe_int set_list))
      (pss_cons (ps_set (i := 2) sc__law_draw.nd rfl (Or.inl rfl) (pe_op op_modN (pe_callTy (T := "int") call_int1 (by rfl) T.z_int (by decide +kernel) (pa_cons (pe_op op_mul (pe_callTy (T := "int") call_int1 (by rfl) T.z_int (by decide +kernel) (pa_cons (pe_op op_add (pe_ix (r := rIxL K) ix_list (pv 0) pe_int (fun _ _ => rfl)) (pe_op op_mul pe_int (pe_ix (r := rIxL K) ix_list (pv 0) pe_int (fun _ _ => rfl)))) pa_nil)) pe_int) pa_nil)) pe_int))
      (pss_cons (ps_set (i := 2) sc__law_draw.nd rfl (Or.inl rfl) (pe_op op_modN (pe_callTy (T := "int") call_int1 (by rfl) T.z_int (by decide +kernel) (pa_cons (pe_op op_mul (pv 2) (pe_op op_add (pe_op op_fdivN (pv 2) pe_int) pe_int)) pa_nil)) pe_int))
      (pss_cons (ps_set (i := 2) sc__law_draw.nd rfl (Or.inl rfl) (pe_op op_modN (pe_callTy (T := "int") call_int1 (by rfl) T.z_int (by decide +kernel) (pa_cons (pe_op op_mul (pv 2) (pe_op op_add (pe_op op_fdivN (pv 2) pe_int) pe_int)) pa_nil)) pe_int))
      (pss_one (ps_ret (pe_op op_modN (pe_callTy (T := "int") call_int1 (by rfl) T.z_int (by decide +kernel) (pa_cons (pe_op op_fdivN (pv 2) pe_int) pa_nil)) (pv 1)))))))))), ?_⟩
    obtain ⟨hl, nlt, i, c, s, n, ht, hi⟩ := id m0
    tm_at "w"
    refine ⟨fun σ H' => ∃ (x : Option V), σ = [some (.ref τ.t), some (.int m), none, x, none] ∧ Mv τ H H', ?_, ?_⟩
    · tm_at "w"
      refine iteI (fun hc => ?_) (fun hc => ?_)
      · tm_at "w"
        refine iteD (fun hc => ?_) (fun hc => ?_)
        · tm_at "w"
          obtain ⟨v, hv⟩ := at_ints hi hc
          refine ⟨_, _, _, _, rfl, rfl, by tm_at "sq", hv, ?_⟩
          tm_at "w"
          refine iteD (fun hd => ?_) (fun hd => ?_)
          · tm_at "w"
            exact ((m0.mv.put rfl (by omega)).put rfl (by omega)).put rfl (by omega)
          · exact ⟨_, rfl, (m0.mv.put rfl (by omega)).put rfl (by omega)⟩
        · exact ⟨none, rfl, m0.mv⟩
      · exact ⟨none, rfl, m0.mv⟩
    · rintro σ H' ⟨x, rfl, m1⟩
      obtain ⟨hl, nlt, i, c, s, n, ht, hi⟩ := m1.now
      tm_at "w"
      refine iteD (fun hc => ?_) (fun hc => ?_)
      · tm_at "w"
        exact k _ _ (m1.put rfl hi) (fmod_in hm).1 (fmod_in hm).2
      · tm_at "w"
        exact k _ _ (m1.put rfl hi) (fmod_in hm).1 (fmod_in hm).2
/-! _law_is -/
/-- two things that are alike through and through, at most so deep -/
inductive Alk (H : Hp) : Nat → V → V → Prop
  | int (n : Nat) (i : Int) : Alk H n (.int i) (.int i)
  | bl (n : Nat) (b : Bool) : Alk H n (.bl b) (.bl b)
  | non (n : Nat) : Alk H n .non .non
  | tup (n : Nat) (a b : Addr) (xs ys : List V) : H a = some (.tup xs) → H b = some (.tup ys) → xs.length = ys.length → xs.length ≤ 100000 → (∀ (i : Nat) x y, xs[i]? = some x → ys[i]? = some y → Alk H n x y) → Alk H (n + 1) (.ref a) (.ref b)
  | lst (n : Nat) (a b : Addr) (xs ys : List V) : H a = some (.lst xs) → H b = some (.lst ys) → xs.length = ys.length → xs.length ≤ 100000 → (∀ (i : Nat) x y, xs[i]? = some x → ys[i]? = some y → Alk H n x y) → Alk H (n + 1) (.ref a) (.ref b)
theorem Alk.same {H H' : Hp} {n : Nat} {x y : V} (h : Alk H n x y) (s : Same H H') : Alk H' n x y := by
  induction h with
  | int n i => exact .int n i
  | bl n b => exact .bl n b
  | non n => exact .non n
  | tup n a b xs ys ha hb hl hz _ ih => exact .tup n a b xs ys (s _ _ ha) (s _ _ hb) hl hz ih
  | lst n a b xs ys ha hb hl hz _ ih => exact .lst n a b xs ys (s _ _ ha) (s _ _ hb) hl hz ih
theorem Alk.up {H : Hp} {n : Nat} {x y : V} (h : Alk H n x y) : Alk H (n + 1) x y := by
  induction h with
  | int n i => exact .int _ i
  | bl n b => exact .bl _ b
  | non n => exact .non _
  | tup n a b xs ys ha hb hl hz _ ih => exact .tup _ a b xs ys ha hb hl hz ih
  | lst n a b xs ys ha hb hl hz _ ih => exact .lst _ a b xs ys ha hb hl hz ih
theorem Alk.nats {H : Hp} {a b : Addr} {q : List Nat} (ha : H a = some (.tup (natsV q))) (hb : H b = some (.tup (natsV q))) (hn : q.length ≤ 100000) : Alk H 1 (.ref a) (.ref b) :=
  .tup 0 a b _ _ ha hb rfl (by rw [natsV_len]; exact hn) fun i x y ex ey => by
    rw [ex] at ey
    rw [← Option.some.inj ey]
    obtain ⟨n, _, rfl, _⟩ := natsV_here ex
    exact .int 0 _
theorem Alk.rows {H : Hp} {a b : Addr} {P : List (List Nat)} (ha : ParAt H a P) (hb : ParAt H b P) (hn : P.length ≤ 1000) (hm : ∀ q ∈ P, q.length ≤ 1000) : Alk H 2 (.ref a) (.ref b) := by
  obtain ⟨xs, ha, la⟩ := ha
  obtain ⟨ys, hb, lb⟩ := hb
  refine .tup 1 a b _ _ ha hb (la.1.trans lb.1.symm) (by rw [la.1]; omega) fun i x y ex ey => ?_
  obtain ⟨u, p, rfl, e1, e2⟩ := la.here ex
  obtain ⟨v, q, rfl, e3, e4⟩ := lb.here ey
  rw [e1] at e3
  rw [← Option.some.inj e3] at e4
  have := hm p (List.mem_of_getElem? e1)
  exact Alk.nats e2 e4 (by omega)
theorem kit2 {K : PySem.W.Frag} {t : Value} {a b : Bool} (h1 : PySem.W.kitOne K t (.type "tuple") = some a) (h2 : PySem.W.kitOne K t (.type "list") = some b) : PySem.W.kitAny K t [.type "tuple", .type "list"] = some (a || b) := by
  refine kitAny_cons h1 (fun e => ?_) (fun e => by rw [e]; rfl)
  rw [e, Bool.false_or]
  refine kitAny_cons h2 (fun e2 => by rw [e2]; rfl) (fun e2 => e2)
theorem int_lst {K : PySem.W.Frag} : PySem.W.kitOne K (.type "int") (.type "list") = some false := kit_ty (by decide +kernel)
theorem bool_lst {K : PySem.W.Frag} : PySem.W.kitOne K (.type "bool") (.type "list") = some false := kit_ty (by decide +kernel)
theorem bool_tup {K : PySem.W.Frag} : PySem.W.kitOne K (.type "bool") (.type "tuple") = some false := kit_ty (by decide +kernel)
theorem tup_lst {K : PySem.W.Frag} : PySem.W.kitOne K (.type "tuple") (.type "list") = some false := kit_ty (by decide +kernel)
theorem lst_lst {K : PySem.W.Frag} : PySem.W.kitOne K (.type "list") (.type "list") = some true := kit_ty (by decide +kernel)
theorem lst_tup {K : PySem.W.Frag} : PySem.W.kitOne K (.type "list") (.type "tuple") = some false := kit_ty (by decide +kernel)
theorem none_tup {K : PySem.W.Frag} : PySem.W.kitOne K (.type "NoneType") (.type "tuple") = some false := kit_ty (by decide +kernel)
theorem none_lst {K : PySem.W.Frag} : PySem.W.kitOne K (.type "NoneType") (.type "list") = some false := kit_ty (by decide +kernel)
theorem none_bool {K : PySem.W.Frag} : PySem.W.kitOne K (.type "NoneType") (.type "bool") = some false := kit_ty (by decide +kernel)
theorem ty_non {K : PySem.W.Frag} {H : Hp} : TyX K H .non (.type "NoneType") := .base .non
theorem ty_lst {K : PySem.W.Frag} {H : Hp} {a : Addr} {xs : List V} (h : H a = some (.lst xs)) : TyX K H (.ref a) (.type "list") := .base (.lst h)
def spI (K : PySem.W.Frag) : Nat → Sp
  | 0 => fun _ _ _ _ => False
  | n + 1 => fun vs H Q _ => ∃ (x y : V), vs = [x, y] ∧ Alk H n x y ∧ ∀ H', Same H H' → Q (.bl true) H'
theorem sc__law_is : FnScope ["_law_told", "_law_due", "_law_one", "_law_two"] ["_law_told", "_law_due"] (defScope s__law_is) := ⟨rfl, rfl, rfl, by decide +kernel, rfl, by decide +kernel, by decide +kernel⟩
theorem okI0 (T : Top K mg) : FnOk P w K mg base CX0 1 T.f__law_is T.fd__law_is ["_law_told", "_law_due"] (spI K 0) := by
  refine T.F__law_is.ok sc__law_is (fun vs H Q E h => h.elim) (fun cdv A outer s H vs Q E hr h => h.elim)
theorem okI (T : Top K mg) {lv n : Nat} (G__law_is : FnOk P w K mg base CX0 lv T.f__law_is T.fd__law_is ["_law_told", "_law_due"] (spI K n)) : FnOk P w K mg base CX0 (lv + 1) T.f__law_is T.fd__law_is ["_law_told", "_law_due"] (spI K (n + 1)) := by
  refine T.F__law_is.ok sc__law_is (fun vs H Q E h => ?_) (fun cdv A outer s H vs Q E hr h => ?_)
  · obtain ⟨x, y, rfl, _⟩ := h
    rfl
  · obtain ⟨x, y, rfl, hA, k⟩ := h
    refine ⟨_, (pss_cons (ps_if (pt_val (pe_callB (id := "isinstance") call_isiT (by rfl) T.z_isinstance (by decide +kernel) (pa_cons (pv 1) (pa_cons (pe_tup (pa_cons (pe_bltn (v := .ty "tuple") (u := .type "tuple") (by rfl) T.z_tuple (by decide +kernel) rfl) (pa_cons (pe_bltn (v := .ty "list") (u := .type "list") (by rfl) T.z_list (by decide +kernel) rfl) pa_nil))) pa_nil)))) (pss_cons (ps_if (PW.pt (pw_or (pt_cmpR op_ne (pe_callB (r := rIsi K) (id := "isinstance") call_isi (by rfl) T.z_isinstance (by decide +kernel) (pa_cons (pv 0) (pa_cons (pe_bltn (v := .ty "tuple") (u := .type "tuple") (by rfl) T.z_tuple (by decide +kernel) rfl) pa_nil))) (pe_callB (r := rIsi K) (id := "isinstance") call_isi (by rfl) T.z_isinstance (by decide +kernel) (pa_cons (pv 1) (pa_cons (pe_bltn (v := .ty "tuple") (u := .type "tuple") (by rfl) T.z_tuple (by decide +kernel) rfl) pa_nil))) (nomark _)) (pw_or1 (pt_not (pt_val (pe_callB (id := "isinstance") call_isiT (by rfl) T.z_isinstance (by decide +kernel) (pa_cons (pv 0) (pa_cons (pe_tup (pa_cons (pe_bltn (v := .ty "tuple") (u := .type "tuple") (by rfl) T.z_tuple (by decide +kernel) rfl) (pa_cons (pe_bltn (v := .ty "list") (u := .type "list") (by rfl) T.z_list (by decide +kernel) rfl) pa_nil))) pa_nil)))))))) (pss_one (ps_ret pe_bl)) pss_nil)
      (pss_one (ps_ret (pe_and (pe_cmpR op_eq (pe_callB (r := rLenQ K) (id := "len") call_len_seq (by rfl) T.z_len (by decide +kernel) (pa_cons (pv 0) pa_nil)) (pe_callB (r := rLenQ K) (id := "len") call_len_seq (by rfl) T.z_len (by decide +kernel) (pa_cons (pv 1) pa_nil)) (nomark _)) (pe_one (pe_callB (r := rAll K) (id := "all") (cr_all rfl) (by rfl) T.z_all (by decide +kernel) (pa_cons (pe_lc (own := [("_law_one", 2), ("_law_two", 3)]) (tt := tYes) rfl sc__law_is.nd (RZ.pi_zipA (by rfl) T.z_zip (pa_cons (pv 0) (pa_cons (pv 1) pa_nil))) (blkOk_by (own := [("_law_one", 2), ("_law_two", 3)]) (N := ["_law_told", "_law_due", "_law_one", "_law_two"]) (sc := defScope s__law_is) (by decide +kernel)) (fun _ _ _ _ _ => (pg_tupK (K := K) 2 rfl rfl (pgs_cons (pg_name (i := 2) sc__law_is.nd rfl (Or.inl rfl)) (pgs_cons (pg_name (i := 3) sc__law_is.nd rfl (Or.inl rfl)) pgs_nil)))) (fun _ _ _ _ _ => pts_nil) (fun _ _ _ _ _ => (pe_call G__law_is hr (by rfl) T.g__law_is T.F__law_is.kp T.b__law_is .nil pass0 (pa_cons (pv 2) (pa_cons (pv 3) pa_nil))))) pa_nil))))))) pss_nil)
      (pss_one (ps_ret (pe_and (pe_cmpR op_eq (pe_callB (r := rIsi K) (id := "isinstance") call_isi (by rfl) T.z_isinstance (by decide +kernel) (pa_cons (pv 0) (pa_cons (pe_bltn (v := .ty "bool") (u := .type "bool") (by rfl) T.z_bool (by decide +kernel) rfl) pa_nil))) (pe_callB (r := rIsi K) (id := "isinstance") call_isi (by rfl) T.z_isinstance (by decide +kernel) (pa_cons (pv 1) (pa_cons (pe_bltn (v := .ty "bool") (u := .type "bool") (by rfl) T.z_bool (by decide +kernel) rfl) pa_nil))) (nomark _)) (pe_one (pe_cmpR op_eq (pv 0) (pv 1) (nomark _))))))), ?_⟩
    cases hA with
    | int n i =>
      tm_at "w"
      intro p np
      refine ⟨_, _, _, _, _, _, rfl, upd_same, .cons (.ty _) (.cons (.ty _) .nil), ty_int i, kit2 int_tup int_lst, ?_⟩
      tm_at "w"
      refine ⟨_, _, _, _, _, rfl, ClsV.ty _, ty_int i, int_bool, ?_⟩
      tm_at "w"
      refine ⟨_, _, _, _, _, rfl, ClsV.ty _, ty_int i, int_bool, ?_⟩
      tm_at "w"
      rw [show decide (V.int i = V.int i) = true from decide_eq_true rfl]
      exact k _ (Same.new (Same.refl H) np)
    | bl n b =>
      tm_at "w"
      intro p np
      refine ⟨_, _, _, _, _, _, rfl, upd_same, .cons (.ty _) (.cons (.ty _) .nil), ty_bl b, kit2 bool_tup bool_lst, ?_⟩
      tm_at "w"
      refine ⟨_, _, _, _, _, rfl, ClsV.ty _, ty_bl b, bool_bool, ?_⟩
      tm_at "w"
      refine ⟨_, _, _, _, _, rfl, ClsV.ty _, ty_bl b, bool_bool, ?_⟩
      tm_at "w"
      rw [show decide (V.bl b = V.bl b) = true from decide_eq_true rfl]
      exact k _ (Same.new (Same.refl H) np)
    | non n =>
      tm_at "w"
      intro p np
      refine ⟨_, _, _, _, _, _, rfl, upd_same, .cons (.ty _) (.cons (.ty _) .nil), ty_non, kit2 none_tup none_lst, ?_⟩
      tm_at "w"
      refine ⟨_, _, _, _, _, rfl, ClsV.ty _, ty_non, none_bool, ?_⟩
      tm_at "w"
      refine ⟨_, _, _, _, _, rfl, ClsV.ty _, ty_non, none_bool, ?_⟩
      tm_at "w"
      rw [show decide (V.non = V.non) = true from decide_eq_true rfl]
      exact k _ (Same.new (Same.refl H) np)
    | tup n a b xs ys ha hb hl hz hi =>
      tm_at "w"
      intro p np
      have s1 : Same H (upd H p (.tup [.ty "tuple", .ty "list"])) := Same.new (Same.refl H) np
      refine ⟨_, _, _, _, _, _, rfl, upd_same, .cons (.ty _) (.cons (.ty _) .nil), ty_tup (s1 _ _ hb), kit2 tup_tup tup_lst, ?_⟩
      tm_at "w"
      refine ⟨_, _, _, _, _, rfl, ClsV.ty _, ty_tup (s1 _ _ ha), tup_tup, ?_⟩
      tm_at "w"
      refine ⟨_, _, _, _, _, rfl, ClsV.ty _, ty_tup (s1 _ _ hb), tup_tup, ?_⟩
      tm_at "w"
      intro p2 np2
      have s2 : Same H (upd (upd H p (.tup [.ty "tuple", .ty "list"])) p2 (.tup [.ty "tuple", .ty "list"])) := Same.new s1 np2
      have ha2 := s2 _ _ ha
      have hb2 := s2 _ _ hb
      refine ⟨_, _, _, _, _, _, rfl, upd_same, .cons (.ty _) (.cons (.ty _) .nil), ty_tup ha2, kit2 tup_tup tup_lst, ?_⟩
      tm_at "w"
      refine iteET (decide_eq_true (by rw [hl])) ?_
      tm_at "w"
      refine ⟨_, _, _, _, rfl, .inr ⟨SqT.of ha2, SqT.of hb2, fun D nD => lc_zipTF (fun _ => some (.bl true)) ha2 hb2 hl nD hz ?_ ?_⟩⟩
      · intro i x y Z H3 N M hx hy s3 hZ kN kM
        tm_at "w"
        exact ⟨x, y, rfl, (hi i x y hx hy).same (Same.trans s2 s3), fun H4 s4 => kN _ _ rfl s4⟩
      · intro H3 s3 hD
        rw [all_true] at hD
        tm_at "w"
        refine ⟨_, _, rfl, SqL.of hD, ?_⟩
        rw [all_id]
        exact k _ (Same.trans s2 s3)
    | lst n a b xs ys ha hb hl hz hi =>
      tm_at "w"
      intro p np
      have s1 : Same H (upd H p (.tup [.ty "tuple", .ty "list"])) := Same.new (Same.refl H) np
      refine ⟨_, _, _, _, _, _, rfl, upd_same, .cons (.ty _) (.cons (.ty _) .nil), ty_lst (s1 _ _ hb), kit2 lst_tup lst_lst, ?_⟩
      tm_at "w"
      refine ⟨_, _, _, _, _, rfl, ClsV.ty _, ty_lst (s1 _ _ ha), lst_tup, ?_⟩
      tm_at "w"
      refine ⟨_, _, _, _, _, rfl, ClsV.ty _, ty_lst (s1 _ _ hb), lst_tup, ?_⟩
      tm_at "w"
      intro p2 np2
      have s2 : Same H (upd (upd H p (.tup [.ty "tuple", .ty "list"])) p2 (.tup [.ty "tuple", .ty "list"])) := Same.new s1 np2
      have ha2 := s2 _ _ ha
      have hb2 := s2 _ _ hb
      refine ⟨_, _, _, _, _, _, rfl, upd_same, .cons (.ty _) (.cons (.ty _) .nil), ty_lst ha2, kit2 lst_tup lst_lst, ?_⟩
      tm_at "w"
      refine iteET (decide_eq_true (by rw [hl])) ?_
      tm_at "w"
      refine ⟨_, _, _, _, rfl, .inl ⟨SqL.of ha2, SqL.of hb2, fun D nD => lc_zipLF (fun _ => some (.bl true)) ha2 hb2 hl nD hz ?_ ?_⟩⟩
      · intro i x y Z H3 N M hx hy s3 hZ kN kM
        tm_at "w"
        exact ⟨x, y, rfl, (hi i x y hx hy).same (Same.trans s2 s3), fun H4 s4 => kN _ _ rfl s4⟩
      · intro H3 s3 hD
        rw [all_true] at hD
        tm_at "w"
        refine ⟨_, _, rfl, SqL.of hD, ?_⟩
        rw [all_id]
        exact k _ (Same.trans s2 s3)
def sp__law_is (K : PySem.W.Frag) : Sp := spI K 3
theorem ok__law_is (T : Top K mg) : FnOk P w K mg base CX0 4 T.f__law_is T.fd__law_is ["_law_told", "_law_due"] (sp__law_is K) := okI T (okI T (okI T (okI0 T)))
/-! _law_parents -/
theorem snoc_at {R : Nat → V → Prop} {acc : List V} {x : V} {i : Nat} (hl : acc.length = i) (h : ∀ (j : Nat) v, acc[j]? = some v → R j v) (hx : R i x) : ∀ (j : Nat) v, (acc ++ [x])[j]? = some v → R j v := fun j v e => by
  by_cases hj : j < acc.length
  · rw [List.getElem?_append_left hj] at e
    exact h j v e
  · rw [List.getElem?_append_right (by omega)] at e
    have q := (List.getElem?_eq_some_iff.mp e).1
    rw [List.length_singleton] at q
    have ej : j = i := by omega
    rw [ej, hl, Nat.sub_self] at e
    rw [ej, ← Option.some.inj e]
    exact hx
theorem nats_all {i : Nat} : ∀ {acc : List V}, (∀ v ∈ acc, ∃ z : Int, v = .int z ∧ 0 ≤ z ∧ z < i) → ∃ q : List Nat, q.length = acc.length ∧ (∀ x ∈ q, x < i) ∧ acc = natsV q
  | [], _ => ⟨[], rfl, (fun x hx => by cases hx), rfl⟩
  | v :: r, h => by
    obtain ⟨q, h1, h2, h3⟩ := nats_all fun u hu => h u (List.mem_cons_of_mem _ hu)
    obtain ⟨z, e, z0, z1⟩ := h v List.mem_cons_self
    refine ⟨z.toNat :: q, by rw [List.length_cons, List.length_cons, h1], fun x hx => ?_, ?_⟩
    · rcases List.mem_cons.mp hx with e | e
      · omega
      · exact h2 x e
    · rw [e, h3]
      show V.int z :: natsV q = V.int (z.toNat : Int) :: natsV q
      rw [show (z.toNat : Int) = z by omega]
def sp__law_parents (K : PySem.W.Frag) : Sp := fun vs H Q _ => ∃ (τ : Tp) (n m : Nat), vs = [.ref τ.t, .int n, .int m] ∧ Tape τ H ∧ n ≤ 400 ∧ m ≤ 6 ∧
  ∀ a P H', Mv τ H H' → ParAt H' a P → OkP P → P.length = n → Q (.ref a) H'
theorem sc__law_parents : FnScope ["_law_hand_here", "_law_many", "_law_most", "_law_found", "_law_kind", "_law_some", "_law_turn"] ["_law_hand_here", "_law_many", "_law_most"] (defScope s__law_parents) := ⟨rfl, rfl, rfl, by decide +kernel, rfl, by decide +kernel, by decide +kernel⟩
theorem ok__law_parents (T : Top K mg) : FnOk P w K mg base CX0 2 T.f__law_parents T.fd__law_parents ["_law_hand_here", "_law_many", "_law_most"] (sp__law_parents K) := by
  have G__law_draw := ok__law_draw (P := P) (w := w) (base := base) T
  refine T.F__law_parents.ok sc__law_parents (fun vs H Q E h => ?_) (fun cdv A outer s H vs Q E hr h => ?_)
  · obtain ⟨τ, n, m, rfl, _⟩ := h
    rfl
  · obtain ⟨τ, n, m, rfl, m0, hn, hm, kk⟩ := h
    refine ⟨_, (pss_cons (ps_set (i := 3) sc__law_parents.nd rfl (Or.inl rfl) (pe_lst pa_nil))
      (pss_cons (ps_for PassesOwn.never rfl (pi_range1 rfl T.z_range (pa_cons (pv 1) pa_nil)) (pg_name (i := 4) sc__law_parents.nd rfl (Or.inr rfl))
      (pss_cons (ps_set (i := 5) sc__law_parents.nd rfl (Or.inl rfl) (pe_ifExp (pt_cmpR op_gt (pv 4) pe_int (nomark _)) (pe_lc (own := [("_law_turn", 6)]) (g := gName 6) (tt := tYes) rfl sc__law_parents.nd (pi_range1 rfl T.z_range (pa_cons (pe_call G__law_draw hr (by rfl) T.g__law_draw T.F__law_draw.kp T.b__law_draw .nil pass0 (pa_cons (pv 0) (pa_cons (pe_op op_add (pv 2) pe_int) pa_nil))) pa_nil)) (blkOk_by (own := [("_law_turn", 6)]) (N := ["_law_hand_here", "_law_many", "_law_most", "_law_found", "_law_kind", "_law_some", "_law_turn"]) (sc := defScope s__law_parents) (by decide +kernel)) (fun _ _ _ _ _ => (pg_name (i := 6) sc__law_parents.nd rfl (Or.inl rfl))) (fun _ _ _ _ _ => pts_nil) (fun _ _ _ _ _ => (pe_call G__law_draw hr (by rfl) T.g__law_draw T.F__law_draw.kp T.b__law_draw .nil pass0 (pa_cons (pv 0) (pa_cons (pv 4) pa_nil))))) (pe_lst pa_nil)))
      (pss_one (ps_expr (pe_bm PySem.F.plainAttrs_list PySem.F.slot_list_append PySem.F.type_list_append mt_append (pv 3) (pa_cons (pe_callTy (r := rTupQ K) (T := "tuple") call_tuple_of (by rfl) T.z_tuple (by decide +kernel) (pa_cons (pe_callB (id := "sorted") (cr_sortedSet rfl) (by rfl) T.z_sorted (by decide +kernel) (pa_cons (pe_callTy (T := "set") (cr_setL rfl) (by rfl) T.z_set (by decide +kernel) (pa_cons (pv 5) pa_nil)) pa_nil)) pa_nil)) pa_nil))))))
      (pss_one (ps_ret (pe_callTy (r := rTupQ K) (T := "tuple") call_tuple_of (by rfl) T.z_tuple (by decide +kernel) (pa_cons (pv 3) pa_nil)))))), ?_⟩
    tm_at "w"
    intro F nF
    have nFt := m0.mv.neN nF
    tm_at "w"
    refine for_range (lo := 0) (n := (n : Int).toNat) (fun i σ H' => ∃ x y z, σ = [some (.ref τ.t), some (.int (n : Int)), some (.int (m : Int)), some (.ref F), x, y, z] ∧ Mv τ H H' ∧ ∃ acc, H' F = some (.lst acc) ∧ acc.length = i ∧ ∀ (j : Nat) v, acc[j]? = some v → RowR j v H') ?_ ?_ ?_
    · exact ⟨none, none, none, rfl, m0.mv.new nF, [], upd_same, rfl, fun j v e => by simp at e⟩
    · rintro i σ H1 hi ⟨x0, y0, z0, rfl, m1, acc, hF1, hacc, hR1⟩
      rw [Int.zero_add]
      tm_at "w"
      refine iteD (fun z => ?_) (fun z => ?_)
      tm_at "w"
      refine ⟨τ, _, rfl, m1.now, by omega, by omega, fun r H2 m2 h0 h1 => ?_⟩
      obtain ⟨r, rfl⟩ : ∃ n : Nat, r = n := ⟨r.toNat, by omega⟩
      tm_at "w"
      intro D nD
      refine lc_rangeM (τ := τ) (fun _ v _ => ∃ z : Int, v = .int z ∧ 0 ≤ z ∧ z < i) (fun _ _ _ _ h _ => h) m2.now nD (by omega) ?_ ?_
      · intro j H3 N M hj m3 kN
        tm_at "w"
        exact ⟨τ, _, rfl, m3.now, by omega, by omega, fun r3 H4 m4 h3 h4 => kN _ _ m4 ⟨r3, rfl, h3, by omega⟩⟩
      intro H3 acc2 m3 hD hlen hR
      rw [Int.toNat_natCast] at hlen
      obtain ⟨q, hql, hqn, rfl⟩ : ∃ q : List Nat, q.length ≤ 6 ∧ (∀ x ∈ q, x < i) ∧ acc2 = natsV q := by
        obtain ⟨q, e1, e2, e3⟩ := nats_all (i := i) (acc := acc2) fun v hv => by
          obtain ⟨j, hj, e⟩ := List.mem_iff_getElem.mp hv
          exact hR j v (by rw [List.getElem?_eq_getElem hj, e])
        exact ⟨q, by omega, e2, e3⟩
      have m13 := m2.trans m3
      rotate_left
      tm_at "w"
      intro D nD
      obtain ⟨q, hql, hqn, eq⟩ : ∃ q : List Nat, q.length ≤ 6 ∧ (∀ x ∈ q, x < i) ∧ ([] : List V) = natsV q := ⟨[], by decide, (fun x hx => by cases hx), rfl⟩
      have hD : upd H1 D (.lst []) D = some (.lst (natsV q)) := by rw [upd_same, eq]
      have m13 := m1.now.mv.new (o := .lst []) nD
      all_goals
        tm_at "w"
        refine ⟨_, q.map fun z : Nat => (z : Int), rfl, SqL.of (by rw [List.map_map]; exact hD), by rw [List.length_map]; omega, fun S c hc _ nS => ?_⟩
        rw [List.length_map] at hc
        refine ⟨S, _, _, rfl, upd_same, by omega, fun ns p hs hmem hlen np => ?_⟩
        obtain ⟨ks, rfl, hks, hkp⟩ := nats_of hs (n := i) fun x hx => by
          have := of_decide_eq_true ((hmem x).mp hx)
          obtain ⟨z, hz, e⟩ := List.mem_map.mp this
          exact ⟨z, hqn z hz, e.symm⟩
        rw [List.length_map] at hlen
        have m15 := ((m1.trans m13).new nS).new (p := p) (o := .lst ((ks.map fun z : Nat => (z : Int)).map V.int)) np
        have m35 := (m13.new nS).new (p := p) (o := .lst ((ks.map fun z : Nat => (z : Int)).map V.int)) np
        tm_at "w"
        intro t nt
        have m16 := m15.new (o := .tup ((ks.map fun z : Nat => (z : Int)).map V.int)) nt
        have m36 := m35.new (o := .tup ((ks.map fun z : Nat => (z : Int)).map V.int)) nt
        have hF6 := m36.keep _ _ nFt hF1
        tm_at "w"
        refine ⟨_, _, _, rfl, m16.mut nF, acc ++ [.ref t], upd_same, len_app hacc, snoc_at hacc (fun j v e => (hR1 j v e).tk (TK.trans m36.tk (TK.mut hF6))) ⟨t, ks, rfl, ?_, ⟨hkp, hks, by omega⟩⟩⟩
        rw [upd_ne (fun e => by rw [e] at nt; rw [m35.keep _ _ nFt hF1] at nt; cases nt), upd_same, List.map_map]
        rfl
    · rintro σ H1 ⟨x0, y0, z0, rfl, m1, acc, hF1, hacc, hR1⟩
      obtain ⟨P, hP, ok, hPl⟩ := rows_of hn (by omega) hR1
      tm_at "w"
      intro t nt
      exact kk t P _ (m1.new nt) ⟨acc, upd_same, hP.tk (TK.new nt)⟩ ok hPl
/-! _law_sheet -/
theorem int_nodup_le {ks : List Int} {m : Nat} (hn : ks.Nodup) (h : ∀ k ∈ ks, 0 ≤ k ∧ k < (m : Int)) : ks.length ≤ m := by
  have l : (ks.map Int.toNat).length ≤ m := nodup_le m (by
    unfold List.Nodup
    rw [List.pairwise_map]
    refine List.Pairwise.imp_of_mem (fun {a b} ha hb z e => z ?_) hn
    have := h a ha
    have := h b hb
    omega) fun k hk => by
    obtain ⟨z, hz, rfl⟩ := List.mem_map.mp hk
    have := h z hz
    omega
  rw [List.length_map] at l
  exact l
/-- the lot of all kinds that a kind is -/
def lotB (P : List (List Nat)) (x : Nat) : List Nat := (List.range P.length).filter fun k => isA P x k
theorem mem_lotB {P : List (List Nat)} (hR : RtP P) {x k : Nat} : k ∈ lotB P x ↔ isA P x k = true := by
  unfold lotB
  rw [List.mem_filter, List.mem_range]
  refine ⟨fun h => h.2, fun h => ⟨?_, h⟩⟩
  have h1 := isA_le hR h
  have h2 := isA_lt h
  omega
theorem lotB_len (P : List (List Nat)) (x : Nat) : (lotB P x).length ≤ P.length := by
  have := List.length_filter_le (fun k => isA P x k) (List.range P.length)
  rw [List.length_range] at this
  exact this
theorem lot_asc {P : List (List Nat)} (hR : RtP P) {x : Nat} {ks : List Nat} (hs : ks.Pairwise (· < ·)) (h : ∀ k, k ∈ ks ↔ isA P x k = true) : ks = lotB P x := by
  have hb : (lotB P x).Pairwise (· < ·) := List.pairwise_lt_range.filter _
  have n1 : ks.Nodup := hs.imp fun h => Nat.ne_of_lt h
  have n2 : (lotB P x).Nodup := hb.imp fun h => Nat.ne_of_lt h
  refine List.Perm.eq_of_pairwise (le := (· < ·)) (fun a b _ _ h1 h2 => absurd h1 (Nat.not_lt.mpr (Nat.le_of_lt h2))) hs hb ?_
  rw [List.perm_ext_iff_of_nodup n1 n2]
  exact fun k => (h k).trans (mem_lotB hR).symm
/-- for each kind the ascending tuple of all kinds that it is -/
def ShL (H : Hp) (vs : List V) (P : List (List Nat)) (l : Addr) : Prop := ∀ (j : Nat) v, vs[j]? = some v → ∃ b, v = .ref b ∧ H b = some (.tup (natsV (lotB P j))) ∧ b ≠ l
def ShAt (H : Hp) (l : Addr) (P : List (List Nat)) : Prop := ∃ vs, H l = some (.lst vs) ∧ vs.length = P.length ∧ ShL H vs P l
theorem ShL.tk {H H' : Hp} {vs : List V} {P : List (List Nat)} {l : Addr} (h : ShL H vs P l) (k : TK H H') : ShL H' vs P l := fun j v e => by
  obtain ⟨b, e1, e2, e3⟩ := h j v e
  exact ⟨b, e1, k _ _ e2, e3⟩
theorem ShAt.same {H H' : Hp} {l : Addr} {P : List (List Nat)} (h : ShAt H l P) (s : Same H H') : ShAt H' l P := by
  obtain ⟨vs, h1, h2, h3⟩ := h
  exact ⟨vs, s _ _ h1, h2, h3.tk (Same.tk s)⟩
theorem ShAt.mv {H H' : Hp} {l : Addr} {P : List (List Nat)} {τ : Tp} (h : ShAt H l P) (m : Mv τ H H') (n : l ≠ τ.t) : ShAt H' l P := by
  obtain ⟨vs, h1, h2, h3⟩ := h
  exact ⟨vs, m.keep _ _ n h1, h2, h3.tk m.tk⟩
theorem ShAt.at {H : Hp} {l : Addr} {P : List (List Nat)} (h : ShAt H l P) {x : Nat} (hx : x < P.length) : ∃ vs b, H l = some (.lst vs) ∧ vs.length = P.length ∧ vs[x]? = some (.ref b) ∧ H b = some (.tup (natsV (lotB P x))) := by
  obtain ⟨vs, h1, h2, h3⟩ := h
  obtain ⟨b, e1, e2, _⟩ := h3 x _ (List.getElem?_eq_getElem (by omega))
  exact ⟨vs, b, h1, h2, by rw [List.getElem?_eq_getElem (by omega), e1], e2⟩
def sp__law_sheet (K : PySem.W.Frag) : Sp := fun vs H Q _ => ∃ (a : Addr) (P : List (List Nat)), vs = [.ref a] ∧ ParAt H a P ∧ OkP P ∧ P.length ≤ 63 ∧ ∀ l H', Same H H' → Nw H l → ShAt H' l P → Q (.ref l) H'
theorem sc__law_sheet : FnScope ["_law_parents_here", "_law_found", "_law_kind", "_law_item", "_law_here", "_law_parent"] ["_law_parents_here"] (defScope s__law_sheet) := ⟨rfl, rfl, rfl, by decide +kernel, rfl, by decide +kernel, by decide +kernel⟩
theorem ok__law_sheet (T : Top K mg) : FnOk P w K mg base CX0 1 T.f__law_sheet T.fd__law_sheet ["_law_parents_here"] (sp__law_sheet K) := by
  refine T.F__law_sheet.ok sc__law_sheet (fun vs H Q E h => ?_) (fun cdv A outer s H vs Q E hr h => ?_)
  · obtain ⟨a, P, rfl, _⟩ := h
    rfl
  · obtain ⟨a, P, rfl, hP, ok, h63, k⟩ := h
    refine ⟨_, (pss_cons (ps_set (i := 1) sc__law_sheet.nd rfl (Or.inl rfl) (pe_lst pa_nil))
      (pss_cons (ps_for PassesOwn.never rfl (pi_enumT (by rfl) T.z_enumerate (pa_cons (pv 0) pa_nil)) (pg_tup rfl (pgs_cons (pg_name (i := 2) sc__law_sheet.nd rfl (Or.inl rfl)) (pgs_cons (pg_name (i := 3) sc__law_sheet.nd rfl (Or.inl rfl)) pgs_nil)))
      (pss_cons (ps_set (i := 4) sc__law_sheet.nd rfl (Or.inl rfl) (pe_lst (pa_cons (pv 2) pa_nil)))
      (pss_cons (ps_for PassesOwn.never rfl (pi_tup (pv 3)) (pg_name (i := 5) sc__law_sheet.nd rfl (Or.inl rfl))
      (pss_one (ps_expr (pe_bm PySem.F.plainAttrs_list PySem.F.slot_list_extend PySem.F.type_list_extend mt_extend (pv 4) (pa_cons (pe_callTy (r := rListQ K) (T := "list") call_list_of (by rfl) T.z_list (by decide +kernel) (pa_cons (pe_ix (r := rIxL K) ix_list (pv 1) (pv 5) (fun _ _ => rfl)) pa_nil)) pa_nil)))))
      (pss_one (ps_expr (pe_bm PySem.F.plainAttrs_list PySem.F.slot_list_append PySem.F.type_list_append mt_append (pv 1) (pa_cons (pe_callTy (r := rTupQ K) (T := "tuple") call_tuple_of (by rfl) T.z_tuple (by decide +kernel) (pa_cons (pe_callB (id := "sorted") (cr_sortedSet rfl) (by rfl) T.z_sorted (by decide +kernel) (pa_cons (pe_callTy (T := "set") (cr_setL rfl) (by rfl) T.z_set (by decide +kernel) (pa_cons (pv 4) pa_nil)) pa_nil)) pa_nil)) pa_nil)))))))
      (pss_one (ps_ret (pv 1))))), ?_⟩
    have hR := ok.rt
    obtain ⟨vsP, hpa, hlen, hit⟩ := id hP
    tm_at "w"
    intro F nF
    have s0 : Same H (upd H F (.lst [])) := Same.new (Same.refl H) nF
    have hpa1 := s0 _ _ hpa
    tm_at "w"
    refine ⟨_, _, rfl, SqT.of hpa1, for_enumT (K := K) (a := a) (xs := vsP) (fun i σ H' => ∃ x y z w, σ = [some (.ref a), some (.ref F), x, y, z, w] ∧ Same H H' ∧ ∃ vs, H' F = some (.lst vs) ∧ vs.length = i ∧ ShL H' vs P F) ?_ ?_ ?_ ?_⟩
    · exact ⟨_, _, _, _, rfl, s0, [], upd_same, rfl, fun j v e => by simp at e⟩
    · rintro i σ H' ⟨_, _, _, _, rfl, s1, _⟩
      exact SqT.of (s1 _ _ hpa)
    · rintro i x t σ H' hx ⟨x0, y0, z0, w0, rfl, s1, vs, hl1, hvl, hfl⟩ nt
      obtain ⟨ai, p, rfl, hp, hai⟩ := ParL.here ⟨hlen, hit⟩ hx
      have il := (List.getElem?_eq_some_iff.mp hp).1
      have p6 := (ok.ok i p hp).few
      have s2 : Same H' (upd H' t (.tup [V.int (i : Int), V.ref ai])) := Same.new (Same.refl H') nt
      have hai2 := s2 _ _ (s1 _ _ hai)
      tm_at "w"
      intro L nL
      have nL0 : H' L = none := Same.free s2 nL
      have s3 : Same H' (upd (upd H' t (.tup [V.int (i : Int), V.ref ai])) L (.lst [V.int (i : Int)])) := Same.new s2 nL
      have hai3 := s3 _ _ (s1 _ _ hai)
      tm_at "w"
      refine ⟨⟨_, SqT.of hai3⟩, for_tup (K := K) (a := ai) (xs := natsV p) (fun j σ H2 => ∃ u, σ = [some (.ref a), some (.ref F), some (.int (i : Int)), some (.ref ai), some (.ref L), u] ∧ Same H' H2 ∧ ∃ S, H2 L = some (.lst (natsV S)) ∧ (∀ k, k ∈ S ↔ k = i ∨ ∃ z ∈ p.take j, isA P z k = true) ∧ S.length ≤ 1 + j * 63) ?_ ?_ ?_ ?_⟩
      · exact ⟨w0, rfl, s3, [i], upd_same, (fun k => ⟨(fun h => .inl (List.mem_singleton.mp h)), (fun h => by
          rcases h with h | ⟨z, hz, _⟩
          · exact List.mem_singleton.mpr h
          · simp at hz)⟩), by show 1 ≤ 1 + 0 * 63; decide⟩
      · rintro j σ H2 _ ⟨_, rfl, s4, _⟩
        exact SqT.of (s4 _ _ (s1 _ _ hai))
      · rintro j v σ H2 hv ⟨u0, rfl, s4, S, hL, hS, hSl⟩
        obtain ⟨q, hq, rfl, jl⟩ := natsV_here hv
        have ql := hR i p hp q (List.mem_of_getElem? hq)
        obtain ⟨aq, e1, e2, _⟩ := hfl q _ (List.getElem?_eq_getElem (by omega))
        have e3 : ∀ k, k ∈ lotB P q ↔ isA P q k = true := fun k => mem_lotB hR
        have e4 := lotB_len P q
        have hl4 := s4 _ _ hl1
        have hq4 := s4 _ _ e2
        have hvq : vs[q]? = some (.ref aq) := by rw [List.getElem?_eq_getElem (by omega), e1]
        tm_at "w"
        intro M nM
        have hL5 : upd H2 M (.lst (natsV (lotB P q))) L = some (.lst (natsV S)) := (upd_ne (ne_of_none hL nM)).trans hL
        have s5 := Same.new (o := .lst (natsV (lotB P q))) s4 nM
        tm_at "w"
        refine ⟨_, _, _, _, rfl, rfl, hL5, upd_same, by rw [natsV_len, natsV_len]; have := lt_line (n := 90000) (by decide); omega, ?_⟩
        refine ⟨_, rfl, Same.mut s5 nL0, S ++ lotB P q, by rw [upd_same]; unfold natsV; rw [List.map_append], fun k => ?_, by rw [List.length_append]; omega⟩
        rw [List.mem_append, hS, e3, List.take_add_one, hq]
        constructor
        · rintro ((e | ⟨y, hy, e⟩) | e)
          · exact .inl e
          · exact .inr ⟨y, List.mem_append_left _ hy, e⟩
          · exact .inr ⟨q, List.mem_append_right _ (List.mem_singleton.mpr rfl), e⟩
        · rintro (e | ⟨y, hy, e⟩)
          · exact .inl (.inl e)
          · rcases List.mem_append.mp hy with hy | hy
            · exact .inl (.inr ⟨y, hy, e⟩)
            · rw [show y = q from List.mem_singleton.mp hy] at e
              exact .inr e
      · rintro σ H2 ⟨u0, rfl, s4, S, hL, hS, hSl⟩
        rw [natsV_len, List.take_length] at hS
        rw [natsV_len] at hSl
        have hl4 := s4 _ _ hl1
        tm_at "w"
        refine ⟨_, S.map fun z : Nat => (z : Int), rfl, SqL.of (by rw [List.map_map]; exact hL), by rw [List.length_map]; omega, fun Z c hc hks nZ => ?_⟩
        have hSi : ∀ k, k ∈ S ↔ isA P i k = true := fun k => by
          rw [hS, isA_rec hR hp, Bool.or_eq_true, decide_eq_true_eq, List.any_eq_true]
          exact ⟨fun h => h.imp Eq.symm id, fun h => h.imp Eq.symm id⟩
        have hSn : ∀ k ∈ S, k < P.length := fun k hk => by
          have := isA_le hR ((hSi k).mp hk)
          omega
        have hcn : c ≤ P.length := by
          obtain ⟨ks, h1, h2, h3⟩ := hks
          rw [← h2]
          refine int_nodup_le h1 fun k hk => ?_
          obtain ⟨z, hz, e⟩ := List.mem_map.mp ((h3 k).mp hk)
          have := hSn z hz
          omega
        refine ⟨Z, _, _, rfl, upd_same, by omega, fun ns p2 hs hmem hlen2 np => ?_⟩
        obtain ⟨ks, rfl, hks2, hkp⟩ := nats_of hs (n := P.length) fun x hx => by
          have := of_decide_eq_true ((hmem x).mp hx)
          obtain ⟨z, hz, e⟩ := List.mem_map.mp this
          exact ⟨z, hSn z hz, e.symm⟩
        rw [List.length_map] at hlen2
        have s6 := (Same.new (o := .lst ((ks.map fun z : Nat => (z : Int)).map V.int)) (Same.new s4 nZ) np)
        have ekl : ks = lotB P i := lot_asc hR hkp fun k => by
          rw [← hSi]
          constructor
          · intro h
            have := of_decide_eq_true ((hmem (k : Int)).mp (List.mem_map.mpr ⟨k, h, rfl⟩))
            obtain ⟨z, hz, e⟩ := List.mem_map.mp this
            rw [show k = z by omega]
            exact hz
          · intro h
            have := (hmem (k : Int)).mpr (decide_eq_true (List.mem_map.mpr ⟨k, h, rfl⟩))
            obtain ⟨z, hz, e⟩ := List.mem_map.mp this
            rw [show k = z by omega]
            exact hz
        tm_at "w"
        intro u nu
        have s7 := Same.new (o := .tup ((ks.map fun z : Nat => (z : Int)).map V.int)) s6 nu
        have hl7 := s7 _ _ hl1
        have nuF : u ≠ F := fun e => by rw [e, s6 _ _ hl1] at nu; cases nu
        tm_at "w"
        refine ⟨_, _, _, _, rfl, Same.mut (Same.trans s1 s7) nF, vs ++ [.ref u], upd_same, len_app hvl, snoc_at hvl (hfl.tk (TK.trans (Same.tk s7) (TK.mut hl7))) ⟨u, rfl, ?_, nuF⟩⟩
        rw [upd_ne nuF, upd_same, List.map_map, ← ekl]
        rfl
    · rintro σ H' ⟨x0, y0, z0, w0, rfl, s1, vs, hl1, hvl, hfl⟩
      tm_at "w"
      exact k F _ s1 ⟨nF⟩ ⟨vs, hl1, by omega, hfl⟩
/-! _law_dealt -/
theorem inV_nats (k : Nat) (q : List Nat) : inV (.int (k : Int)) (natsV q) = decide (k ∈ q) := by
  have e : natsV q = (q.map fun z : Nat => (z : Int)).map V.int := by unfold natsV; rw [List.map_map]; rfl
  rw [e, inV_int]
  refine decide_eq_decide.mpr ⟨fun h => ?_, fun h => List.mem_map.mpr ⟨k, h, rfl⟩⟩
  obtain ⟨z, hz, ez⟩ := List.mem_map.mp h
  rw [show k = z by omega]
  exact hz
theorem flat_nats (q : List Nat) : (natsV q).all flatV = true := List.all_eq_true.mpr fun v hv => by
  unfold natsV at hv
  obtain ⟨n, _, rfl⟩ := List.mem_map.mp hv
  rfl
theorem range_snoc {F : Nat → Addr} {e : Addr} (n : Nat) : ((List.range n).map fun j => V.ref (F j)) ++ [V.ref e] = (List.range (n + 1)).map fun j => V.ref (if j = n then e else F j) := by
  rw [List.range_succ, List.map_append]
  congr 1
  · refine List.map_congr_left fun j hj => ?_
    rw [List.mem_range] at hj
    rw [if_neg (by omega)]
  · show [V.ref e] = [V.ref (if n = n then e else F n)]
    rw [if_pos rfl]
def lastD (D : List (List Nat)) (s : Nat) : Nat := (D.getD s []).getLastD 0
theorem getD_some {l : List (List Nat)} {i : Nat} {v : List Nat} (h : l[i]? = some v) : l.getD i [] = v := by
  rw [List.getD_eq_getElem?_getD, h]
  rfl
theorem at_neg1 {q : List Nat} (h : q ≠ []) : atI (natsV q) (-1) = some (.int ((q.getLastD 0 : Nat) : Int)) := by
  have hl : 0 < q.length := List.length_pos_iff.mpr h
  unfold atI
  have e : ixN (natsV q).length (-1) = some (q.length - 1) := by
    rw [natsV_len]
    unfold ixN
    rw [if_neg (by decide), if_pos (by omega)]
    congr 1
    omega
  rw [e]
  refine natsV_at ?_
  rw [List.getElem?_eq_getElem (by omega), ← List.getLast_eq_getElem h, List.getLastD_eq_getLast?, List.getLast?_eq_getLast h]
  rfl
theorem filter_list (q : List Nat) (c : Nat → Bool) : (List.range (natsV q).length).filterMap (fun i => q[i]?.bind fun s => if c s = true then some (V.int (s : Int)) else none) = natsV (q.filter c) := by
  rw [natsV_len]
  have h1 : (List.range q.length).filterMap (fun i => q[i]?.bind fun s => if c s = true then some (V.int (s : Int)) else none) = q.filterMap fun s => if c s = true then some (V.int (s : Int)) else none := by
    have key : ∀ n, n ≤ q.length → (List.range n).filterMap (fun i => q[i]?.bind fun s => if c s = true then some (V.int (s : Int)) else none) = (q.take n).filterMap fun s => if c s = true then some (V.int (s : Int)) else none := by
      intro n
      induction n with
      | zero => intro _; rfl
      | succ n ih =>
        intro h
        rw [filterMap_range_succ, ih (by omega), List.take_add_one, List.filterMap_append]
        rw [List.getElem?_eq_getElem (show n < q.length by omega)]
        congr 1
    rw [key _ (Nat.le_refl _), List.take_length]
  rw [h1]
  induction q with
  | nil => rfl
  | cons p r ih =>
    have ih2 : r.filterMap (fun s => if c s = true then some (V.int (s : Int)) else none) = natsV (r.filter c) := by
      clear ih h1
      induction r with
      | nil => rfl
      | cons p r ih =>
        rw [List.filterMap_cons, List.filter_cons]
        cases e : c p with
        | true => rw [if_pos rfl, if_pos rfl]; show _ :: _ = V.int (p : Int) :: natsV (r.filter c); rw [ih]
        | false => simp only [Bool.false_eq_true, if_false]; exact ih
    rw [List.filterMap_cons, List.filter_cons]
    cases e : c p with
    | true => rw [if_pos rfl, if_pos rfl]; show _ :: _ = V.int (p : Int) :: natsV (r.filter c); rw [ih2]
    | false => simp only [Bool.false_eq_true, if_false]; exact ih2
/-! ### one list of lists of numbers that changes -/
structure DF (H0 H : Hp) (l : Addr) (D : List (List Nat)) (F : Nat → Addr) : Prop where
  list : H l = some (.lst ((List.range D.length).map fun j => V.ref (F j)))
  rows : ∀ (j : Nat) q, D[j]? = some q → H (F j) = some (.lst (natsV q))
  inj : ∀ (i j : Nat), i < D.length → j < D.length → F i = F j → i = j
  apart : ∀ (j : Nat), j < D.length → F j ≠ l
  newL : H0 l = none
  newF : ∀ (j : Nat), j < D.length → H0 (F j) = none
def DL (H0 H : Hp) (l : Addr) (D : List (List Nat)) : Prop := ∃ F, DF H0 H l D F
section
variable {H0 H H' : Hp} {l : Addr} {D : List (List Nat)} {τ : Tp}
theorem DL.init (n : H0 l = none) (h : H l = some (.lst [])) : DL H0 H l [] := ⟨fun _ => l, h, fun j q e => by simp at e, fun i j e => absurd e (Nat.not_lt_zero _), fun j e => absurd e (Nat.not_lt_zero _), n, fun j e => absurd e (Nat.not_lt_zero _)⟩
theorem DL.same (g : DL H0 H l D) (s : Same H H') : DL H0 H' l D := by
  obtain ⟨F, f⟩ := g
  exact ⟨F, s _ _ f.list, fun j q e => s _ _ (f.rows j q e), f.inj, f.apart, f.newL, f.newF⟩
theorem DL.mv (g : DL H0 H l D) (m0 : Mv τ H0 H) (m : Mv τ H H') : DL H0 H' l D := by
  obtain ⟨F, f⟩ := g
  exact ⟨F, m.keep _ _ (m0.neF f.newL) f.list, fun j q e => m.keep _ _ (m0.neF (f.newF j (List.getElem?_eq_some_iff.mp e).1)) (f.rows j q e), f.inj, f.apart, f.newL, f.newF⟩
theorem DL.mut (g : DL H0 H l D) {a : Addr} {o : HO} (n : a ≠ l) (nF : ∀ F, DF H0 H l D F → ∀ (j : Nat), j < D.length → F j ≠ a) : DL H0 (upd H a o) l D := by
  obtain ⟨F, f⟩ := g
  exact ⟨F, (upd_ne n.symm).trans f.list, fun j q e => (upd_ne (nF F f j (List.getElem?_eq_some_iff.mp e).1)).trans (f.rows j q e), f.inj, f.apart, f.newL, f.newF⟩
/-- what a reader sees -/
def refsV (n : Nat) (F : Nat → Addr) : List V := (List.range n).map fun j => V.ref (F j)
theorem refsV_len (n : Nat) (F : Nat → Addr) : (refsV n F).length = n := by
  unfold refsV
  rw [List.length_map, List.length_range]
theorem refsV_at {n : Nat} {F : Nat → Addr} {j : Nat} (h : j < n) : (refsV n F)[j]? = some (.ref (F j)) := by
  unfold refsV
  rw [List.getElem?_map, List.getElem?_range h]
  rfl
theorem refsV_here {n : Nat} {F : Nat → Addr} {j : Nat} {x : V} (h : (refsV n F)[j]? = some x) : j < n ∧ x = .ref (F j) := by
  have hj := (List.getElem?_eq_some_iff.mp h).1
  rw [refsV_len] at hj
  rw [refsV_at hj] at h
  exact ⟨hj, (Option.some.inj h).symm⟩
theorem refsV_filter (n : Nat) (F : Nat → Addr) (c : Nat → Bool) : (List.range n).filterMap (fun j => if c j = true then some (V.ref (F j)) else none) = ((List.range n).filter c).map fun j => V.ref (F j) := by
  induction List.range n with
  | nil => rfl
  | cons a r ih =>
    rw [List.filterMap_cons, List.filter_cons]
    cases c a with
    | true => rw [if_pos rfl, if_pos rfl, List.map_cons, ih]
    | false => rw [if_neg (by decide), if_neg (by decide), ih]
structure RowsL (H : Hp) (l : Addr) (D : List (List Nat)) (F : Nat → Addr) : Prop where
  list : H l = some (.lst (refsV D.length F))
  row : ∀ (j : Nat) q, D[j]? = some q → H (F j) = some (.lst (natsV q))
theorem DL.at (g : DL H0 H l D) : ∃ F, RowsL H l D F := by
  obtain ⟨F, f⟩ := g
  exact ⟨F, f.list, f.rows⟩
theorem RowsL.same {F : Nat → Addr} (g : RowsL H l D F) (s : Same H H') : RowsL H' l D F := ⟨s _ _ g.list, fun j q e => s _ _ (g.row j q e)⟩
theorem DL.new (g : DL H0 H l D) {e : Addr} {o : HO} (n : H e = none) : DL H0 (upd H e o) l D := g.same (Same.new (Same.refl H) n)
theorem DL.grow (g : DL H0 H l D) {e : Addr} {x : Nat} {xs : List V} (ne : H e = none) (ne0 : H0 e = none) (hx : H l = some (.lst xs)) : DL H0 (upd (upd H e (.lst [.int (x : Int)])) l (.lst (xs ++ [.ref e]))) l (D ++ [[x]]) := by
  obtain ⟨F, f⟩ := g
  have ex : xs = (List.range D.length).map fun j => V.ref (F j) := by
    have := f.list
    rw [hx] at this
    injection this with this
    injection this
  have nF : ∀ (j : Nat), j < D.length → F j ≠ e := fun j hj => ne_of_none (f.rows j _ (List.getElem?_eq_getElem hj)) ne
  have nl : l ≠ e := ne_of_none f.list ne
  refine ⟨fun j => if j = D.length then e else F j, ?_, fun j q hq => ?_, fun i j hi hj h => ?_, fun j hj => ?_, f.newL, fun j hj => ?_⟩
  · rw [upd_same, ex, List.length_append, List.length_singleton, range_snoc]
  · by_cases hj : j < D.length
    · rw [List.getElem?_append_left hj] at hq
      simp only [if_neg (Nat.ne_of_lt hj)]
      rw [upd_ne (f.apart j hj), upd_ne (nF j hj)]
      exact f.rows j q hq
    · rw [List.getElem?_append_right (by omega)] at hq
      have ll := (List.getElem?_eq_some_iff.mp hq).1
      rw [List.length_singleton] at ll
      have ej : j = D.length := by omega
      rw [ej, Nat.sub_self] at hq
      simp only [if_pos ej]
      rw [upd_ne nl.symm, upd_same, ← Option.some.inj hq]
      rfl
  · rw [List.length_append, List.length_singleton] at hi hj
    by_cases c1 : i = D.length
    · by_cases c2 : j = D.length
      · rw [c1, c2]
      · simp only [if_pos c1, if_neg c2] at h
        exact absurd h.symm (nF j (by omega))
    · by_cases c2 : j = D.length
      · simp only [if_neg c1, if_pos c2] at h
        exact absurd h (nF i (by omega))
      · simp only [if_neg c1, if_neg c2] at h
        exact f.inj i j (by omega) (by omega) h
  · rw [List.length_append, List.length_singleton] at hj
    by_cases c : j = D.length
    · simp only [if_pos c]
      exact nl.symm
    · simp only [if_neg c]
      exact f.apart j (by omega)
  · rw [List.length_append, List.length_singleton] at hj
    by_cases c : j = D.length
    · simp only [if_pos c]
      exact ne0
    · simp only [if_neg c]
      exact f.newF j (by omega)
theorem DL.push (g : DL H0 H l D) {j : Nat} {q q' : List Nat} {a : Addr} {xs : List V} (hq : D[j]? = some q) (hx : H l = some (.lst xs)) (ha : xs[j]? = some (.ref a)) : H0 a = none ∧ DL H0 (upd H a (.lst (natsV q'))) l (D.set j q') := by
  obtain ⟨F, f⟩ := g
  have hj := (List.getElem?_eq_some_iff.mp hq).1
  have ea : a = F j := by
    have := f.list
    rw [hx] at this
    injection this with this
    injection this with this
    rw [this, List.getElem?_map, List.getElem?_range hj] at ha
    injection ha with ha
    injection ha with ha
    exact ha.symm
  subst ea
  refine ⟨f.newF j hj, F, ?_, fun i r hr => ?_, ?_, ?_, f.newL, ?_⟩
  · rw [upd_ne (f.apart j hj).symm, List.length_set]
    exact f.list
  · have hi := (List.getElem?_eq_some_iff.mp hr).1
    rw [List.length_set] at hi
    rw [List.getElem?_set] at hr
    by_cases e : j = i
    · subst e
      rw [if_pos rfl, if_pos hj] at hr
      rw [upd_same, Option.some.inj hr]
    · rw [if_neg e] at hr
      rw [upd_ne (fun z => e (f.inj i j hi hj z).symm)]
      exact f.rows i r hr
  · rw [List.length_set]
    exact f.inj
  · rw [List.length_set]
    exact f.apart
  · rw [List.length_set]
    exact f.newF
end
/-- a scheme that says what is so -/
def SchOk (P : List (List Nat)) (S : List Tr) : Prop := S.length = P.length ∧ (∀ e ∈ S, 0 ≤ e.1 ∧ e.2.2.length ≤ 1000) ∧ ∀ (x p : Nat) ex ep, S[x]? = some ex → S[p]? = some ep → saysB ex ep = isA P x p
def Chn (P : List (List Nat)) (d : List Nat) : Prop := d.Pairwise fun a b => isA P b a = true
theorem chn_count {P : List (List Nat)} (hR : RtP P) (x : Nat) : ∀ {d : List Nat} {j p : Nat}, Chn P d → d[j]? = some p → (j + 1 ≤ (d.filter fun k => isA P x k).length ↔ isA P x p = true)
  | [], j, p, _, h => by simp at h
  | a :: r, j, p, hc, h => by
    obtain ⟨h1, h2⟩ := List.pairwise_cons.mp hc
    rw [List.filter_cons]
    cases e : isA P x a with
    | true =>
      rw [if_pos rfl, List.length_cons]
      cases j with
      | zero =>
        have : a = p := Option.some.inj h
        rw [← this, e]
        exact ⟨fun _ => rfl, fun _ => by omega⟩
      | succ j =>
        have ih := chn_count hR x h2 (show r[j]? = some p from h)
        rw [← ih]
        omega
    | false =>
      rw [if_neg (by decide)]
      have no : ∀ b ∈ r, isA P x b = false := fun b hb => by
        cases eb : isA P x b with
        | false => rfl
        | true =>
          rw [isA_trans hR eb (h1 b hb)] at e
          cases e
      have nil : r.filter (fun k => isA P x k) = [] := List.filter_eq_nil_iff.mpr fun b hb => by rw [no b hb]; decide
      rw [nil]
      have np : isA P x p = false := by
        cases j with
        | zero =>
          have : a = p := Option.some.inj h
          rw [← this]
          exact e
        | succ j => exact no p (List.mem_of_getElem? h)
      rw [np]
      exact ⟨fun z => absurd z (by simp), fun z => by cases z⟩
theorem chn_snoc {P : List (List Nat)} (hR : RtP P) {d : List Nat} {x : Nat} (h : Chn P d) (hl : d = [] ∨ isA P x (d.getLastD 0) = true) : Chn P (d ++ [x]) := by
  refine List.pairwise_append.mpr ⟨h, List.pairwise_singleton _ _, fun a ha b hb => ?_⟩
  rw [List.mem_singleton.mp hb]
  rcases hl with e | e
  · rw [e] at ha
    cases ha
  · have dne : d ≠ [] := List.ne_nil_of_mem ha
    have el : d.getLastD 0 = d.getLast dne := by
      rw [List.getLastD_eq_getLast?, List.getLast?_eq_getLast dne]
      rfl
    rw [el] at e
    have ed : d = d.dropLast ++ [d.getLast dne] := (List.dropLast_concat_getLast dne).symm
    rw [ed] at ha
    rcases List.mem_append.mp ha with ha | ha
    · have h2 := h
      rw [ed] at h2
      exact isA_trans hR e ((List.pairwise_append.mp h2).2.2 a ha _ (List.mem_singleton.mpr rfl))
    · rw [List.mem_singleton.mp ha]
      exact e
/-! ### rows of kinds: a dealing -/
structure Deal (P : List (List Nat)) (m : Nat) (D : List (List Nat)) : Prop where
  full : ∀ q ∈ D, q ≠ []
  chain : ∀ q ∈ D, Chn P q
  asc : ∀ q ∈ D, q.Pairwise (· < ·)
  all : D.flatten.Perm (List.range m)
section
variable {P : List (List Nat)} {m : Nat} {D : List (List Nat)}
theorem Deal.nil : Deal P 0 [] := ⟨(fun q h => by cases h), (fun q h => by cases h), (fun q h => by cases h), List.Perm.refl _⟩
theorem Deal.lt (d : Deal P m D) {q : List Nat} (h : q ∈ D) {k : Nat} (hk : k ∈ q) : k < m := by
  have : k ∈ List.range m := d.all.mem_iff.mp (List.mem_flatten.mpr ⟨q, h, hk⟩)
  exact List.mem_range.mp this
theorem Deal.flat_len (d : Deal P m D) : D.flatten.length = m := by
  rw [d.all.length_eq, List.length_range]
theorem flat_ge : ∀ (D : List (List Nat)), (∀ q ∈ D, q ≠ []) → D.length ≤ D.flatten.length
  | [], _ => Nat.le_refl _
  | q :: r, h => by
    have ih := flat_ge r fun z hz => h z (List.mem_cons_of_mem _ hz)
    have q0 : 0 < q.length := List.length_pos_iff.mpr (h q List.mem_cons_self)
    rw [List.flatten_cons, List.length_append, List.length_cons]
    omega
theorem flat_row : ∀ (D : List (List Nat)) {q : List Nat}, q ∈ D → q.length ≤ D.flatten.length
  | [], q, h => by cases h
  | a :: r, q, h => by
    rw [List.flatten_cons, List.length_append]
    rcases List.mem_cons.mp h with e | h
    · rw [e]; omega
    · have := flat_row r h
      omega
theorem Deal.many (d : Deal P m D) : D.length ≤ m := by
  have := flat_ge D d.full
  rw [d.flat_len] at this
  exact this
theorem Deal.long (d : Deal P m D) {q : List Nat} (h : q ∈ D) : q.length ≤ m := by
  have := flat_row D h
  rw [d.flat_len] at this
  exact this
theorem flat_snoc (x : Nat) : (D ++ [[x]]).flatten = D.flatten ++ [x] := by
  rw [List.flatten_append]
  rfl
theorem Deal.grow (d : Deal P m D) : Deal P (m + 1) (D ++ [[m]]) := by
  refine ⟨fun q h => ?_, fun q h => ?_, fun q h => ?_, ?_⟩
  · rcases List.mem_append.mp h with h | h
    · exact d.full q h
    · rw [List.mem_singleton.mp h]
      exact fun z => nomatch z
  · rcases List.mem_append.mp h with h | h
    · exact d.chain q h
    · rw [List.mem_singleton.mp h]
      exact List.pairwise_singleton _ _
  · rcases List.mem_append.mp h with h | h
    · exact d.asc q h
    · rw [List.mem_singleton.mp h]
      exact List.pairwise_singleton _ _
  · rw [flat_snoc, List.range_succ]
    exact d.all.append_right _
theorem flat_set : ∀ (D : List (List Nat)) {j : Nat} {q : List Nat} (x : Nat), D[j]? = some q → (D.set j (q ++ [x])).flatten.Perm (D.flatten ++ [x])
  | a :: r, 0, q, x, h => by
    have e : a = q := Option.some.inj h
    subst e
    show ((a ++ [x]) :: r).flatten.Perm _
    rw [List.flatten_cons, List.flatten_cons, List.append_assoc, List.append_assoc]
    exact List.Perm.append_left _ List.perm_append_comm
  | a :: r, j + 1, q, x, h => by
    show (a :: r.set j (q ++ [x])).flatten.Perm _
    rw [List.flatten_cons, List.flatten_cons, List.append_assoc]
    exact List.Perm.append_left _ (flat_set r x h)
theorem Deal.push (hR : RtP P) (d : Deal P m D) {j : Nat} {q : List Nat} (h : D[j]? = some q) (hl : isA P m (q.getLastD 0) = true) : Deal P (m + 1) (D.set j (q ++ [m])) := by
  have hq := List.mem_of_getElem? h
  refine ⟨fun z hz => ?_, fun z hz => ?_, fun z hz => ?_, ?_⟩
  · rcases List.mem_or_eq_of_mem_set hz with hz | hz
    · exact d.full z hz
    · rw [hz]
      exact fun w => by simp at w
  · rcases List.mem_or_eq_of_mem_set hz with hz | hz
    · exact d.chain z hz
    · rw [hz]
      exact chn_snoc hR (d.chain q hq) (.inr hl)
  · rcases List.mem_or_eq_of_mem_set hz with hz | hz
    · exact d.asc z hz
    · rw [hz]
      refine List.pairwise_append.mpr ⟨d.asc q hq, List.pairwise_singleton _ _, fun a ha b hb => ?_⟩
      rw [List.mem_singleton.mp hb]
      exact d.lt hq ha
  · rw [List.range_succ]
    exact (flat_set D m h).trans (d.all.append_right _)
/-- where a kind stands -/
theorem Deal.place (d : Deal P m D) {k : Nat} (hk : k < m) : ∃ (s b : Nat) (q : List Nat), D[s]? = some q ∧ q[b]? = some k := by
  have : k ∈ D.flatten := d.all.mem_iff.mpr (List.mem_range.mpr hk)
  obtain ⟨q, hq, hk2⟩ := List.mem_flatten.mp this
  obtain ⟨s, hs⟩ := List.mem_iff_getElem?.mp hq
  obtain ⟨b, hb⟩ := List.mem_iff_getElem?.mp hk2
  exact ⟨s, b, q, hs, hb⟩
theorem flat_one : ∀ (D : List (List Nat)) {s s' : Nat} {q q' : List Nat} {k : Nat}, D.flatten.Nodup → D[s]? = some q → D[s']? = some q' → k ∈ q → k ∈ q' → s = s'
  | [], s, s', q, q', k, _, h, _, _, _ => by simp at h
  | a :: r, 0, 0, q, q', k, _, _, _, _, _ => rfl
  | a :: r, 0, s' + 1, q, q', k, n, h, h', hk, hk' => by
    have e : a = q := Option.some.inj h
    rw [List.flatten_cons, List.nodup_append] at n
    exact absurd rfl (n.2.2 k (e ▸ hk) k (List.mem_flatten.mpr ⟨q', List.mem_of_getElem? (show r[s']? = some q' from h'), hk'⟩))
  | a :: r, s + 1, 0, q, q', k, n, h, h', hk, hk' => by
    have e : a = q' := Option.some.inj h'
    rw [List.flatten_cons, List.nodup_append] at n
    exact absurd rfl (n.2.2 k (e ▸ hk') k (List.mem_flatten.mpr ⟨q, List.mem_of_getElem? (show r[s]? = some q from h), hk⟩))
  | a :: r, s + 1, s' + 1, q, q', k, n, h, h', hk, hk' => by
    rw [List.flatten_cons, List.nodup_append] at n
    rw [flat_one r n.2.1 (show r[s]? = some q from h) (show r[s']? = some q' from h') hk hk']
theorem asc_one {q : List Nat} (h : q.Pairwise (· < ·)) {b b' k : Nat} (h1 : q[b]? = some k) (h2 : q[b']? = some k) : b = b' := by
  obtain ⟨l1, e1⟩ := List.getElem?_eq_some_iff.mp h1
  obtain ⟨l2, e2⟩ := List.getElem?_eq_some_iff.mp h2
  have pw := List.pairwise_iff_getElem.mp h
  rcases Nat.lt_trichotomy b b' with z | z | z
  · have := pw b b' l1 l2 z
    omega
  · exact z
  · have := pw b' b l2 l1 z
    omega
theorem Deal.one (d : Deal P m D) {s s' b b' k : Nat} {q q' : List Nat} (h1 : D[s]? = some q) (h2 : q[b]? = some k) (h3 : D[s']? = some q') (h4 : q'[b']? = some k) : s = s' ∧ q = q' ∧ b = b' := by
  have n : D.flatten.Nodup := d.all.nodup_iff.mpr List.nodup_range
  have e := flat_one D n h1 h3 (List.mem_of_getElem? h2) (List.mem_of_getElem? h4)
  subst e
  have eq : q = q' := Option.some.inj (h1.symm.trans h3)
  subst eq
  exact ⟨rfl, rfl, asc_one (d.asc q (List.mem_of_getElem? h1)) h2 h4⟩
/-- what an entry tells of a row -/
def ownB (P : List (List Nat)) (x : Nat) (q : List Nat) : List Nat := q.filter fun k => isA P x k
def EntOk (P : List (List Nat)) (x : Nat) (q : List Nat) (low step e : Int) : Prop := (ownB P x q = [] ∧ e < low) ∨ ∃ a : Nat, q[a]? = some ((ownB P x q).getLastD 0) ∧ ownB P x q ≠ [] ∧ low + step * (a : Int) ≤ e ∧ e < low + step * ((a : Int) + 1)
theorem ent_tells (hR : RtP P) {x p b : Nat} {q : List Nat} {low step e : Int} (hs : 0 < step) (hc : Chn P q) (ha : q.Pairwise (· < ·)) (hp : q[b]? = some p) (h : EntOk P x q low step e) : decide (low + step * (b : Int) ≤ e) = isA P x p := by
  have hpq := List.mem_of_getElem? hp
  rcases h with ⟨h1, h2⟩ | ⟨a, h1, h0, h2, h3⟩
  · have np : isA P x p = false := by
      cases z : isA P x p with
      | false => rfl
      | true =>
        have : p ∈ ownB P x q := List.mem_filter.mpr ⟨hpq, z⟩
        rw [h1] at this
        cases this
    rw [np]
    refine decide_eq_false fun z => ?_
    have : 0 ≤ step * (b : Int) := Int.mul_nonneg (Int.le_of_lt hs) (Int.natCast_nonneg b)
    omega
  · have el : (ownB P x q).getLastD 0 = (ownB P x q).getLast h0 := by
      rw [List.getLastD_eq_getLast?, List.getLast?_eq_getLast h0]
      rfl
    have lm : (ownB P x q).getLast h0 ∈ ownB P x q := List.getLast_mem h0
    rw [el] at h1
    generalize hg : (ownB P x q).getLast h0 = g at *
    have lx := (List.mem_filter.mp lm).2
    obtain ⟨l1, e1⟩ := List.getElem?_eq_some_iff.mp h1
    obtain ⟨l2, e2⟩ := List.getElem?_eq_some_iff.mp hp
    by_cases hab : b ≤ a
    · have ip : isA P x p = true := by
        by_cases eab : b = a
        · subst eab
          rw [h1] at hp
          rw [← Option.some.inj hp]
          exact lx
        · have := List.pairwise_iff_getElem.mp hc b a l2 l1 (by omega)
          rw [e1, e2] at this
          exact isA_trans hR lx this
      rw [ip]
      refine decide_eq_true ?_
      have : step * (b : Int) ≤ step * (a : Int) := Int.mul_le_mul_of_nonneg_left (by omega) (Int.le_of_lt hs)
      omega
    · have np : isA P x p = false := by
        cases z : isA P x p with
        | false => rfl
        | true =>
          have pm : p ∈ ownB P x q := List.mem_filter.mpr ⟨hpq, z⟩
          have gl := List.pairwise_iff_getElem.mp ha a b l1 l2 (by omega)
          rw [e1, e2] at gl
          have po : (ownB P x q).Pairwise (· < ·) := ha.filter _
          have ed : ownB P x q = (ownB P x q).dropLast ++ [g] := by rw [← hg]; exact (List.dropLast_concat_getLast h0).symm
          rw [ed] at pm po
          rcases List.mem_append.mp pm with pm | pm
          · have := (List.pairwise_append.mp po).2.2 p pm g (List.mem_singleton.mpr rfl)
            omega
          · have := List.mem_singleton.mp pm
            omega
      rw [np]
      refine decide_eq_false fun z => ?_
      have : step * ((a : Int) + 1) ≤ step * (b : Int) := Int.mul_le_mul_of_nonneg_left (by omega) (Int.le_of_lt hs)
      omega
/-- a triple of a scheme by a dealing -/
structure ByDeal (P D : List (List Nat)) (wide : Nat) (low step : Int) (x : Nat) (e : Tr) : Prop where
  place : ∃ (s b : Nat) (q : List Nat), D[s]? = some q ∧ q[b]? = some x ∧ e.1 = ((s * wide : Nat) : Int) ∧ e.2.1 = low + step * (b : Int)
  len : e.2.2.length = D.length * wide
  ents : ∀ (s : Nat) q, D[s]? = some q → ∃ z, e.2.2[s * wide]? = some z ∧ EntOk P x q low step z
theorem deal_ok {S : List Tr} {wide : Nat} {low step : Int} (hR : RtP P) (d : Deal P P.length D) (hs : 0 < step) (hw : 0 < wide) (hw2 : wide ≤ 2) (hn : P.length ≤ 400) (hl : S.length = P.length) (h : ∀ (x : Nat) e, S[x]? = some e → ByDeal P D wide low step x e) : SchOk P S := by
  refine ⟨hl, fun e he => ?_, fun x p ex ep h1 h2 => ?_⟩
  · obtain ⟨x, hx⟩ := List.mem_iff_getElem?.mp he
    have b := h x e hx
    obtain ⟨s, _, q, hs1, _, e1, _⟩ := b.place
    have := d.many
    refine ⟨by omega, ?_⟩
    rw [b.len]
    have : D.length * wide ≤ 400 * 2 := Nat.mul_le_mul (by omega) hw2
    omega
  · have bx := h x ex h1
    obtain ⟨s, b, q, hs1, hb, e1, e2⟩ := (h p ep h2).place
    obtain ⟨z, hz, he⟩ := bx.ents s q hs1
    have hq := List.mem_of_getElem? hs1
    have sl : s * wide < ex.2.2.length := (List.getElem?_eq_some_iff.mp hz).1
    have t := ent_tells hR hs (d.chain q hq) (d.asc q hq) hb he
    unfold saysB
    rw [e1, e2, Int.toNat_natCast, decide_eq_true (by omega), Bool.true_and, List.getD_eq_getElem?_getD, hz]
    exact t
end
def sp__law_dealt (K : PySem.W.Frag) : Sp := fun vs H Q _ => ∃ (τ : Tp) (l : Addr) (P : List (List Nat)), vs = [.ref τ.t, .ref l] ∧ Tape τ H ∧ ShAt H l P ∧ l ≠ τ.t ∧ RtP P ∧ P.length ≤ 63 ∧
  ∀ r D H', Mv τ H H' → DL H H' r D → Deal P P.length D → Q (.ref r) H'
theorem sc__law_dealt : FnScope ["_law_hand_here", "_law_sheet_here", "_law_rows", "_law_kind", "_law_fitting", "_law_row"] ["_law_hand_here", "_law_sheet_here"] (defScope s__law_dealt) := ⟨rfl, rfl, rfl, by decide +kernel, rfl, by decide +kernel, by decide +kernel⟩
theorem ok__law_dealt (T : Top K mg) : FnOk P w K mg base CX0 2 T.f__law_dealt T.fd__law_dealt ["_law_hand_here", "_law_sheet_here"] (sp__law_dealt K) := by
  have G__law_draw := ok__law_draw (P := P) (w := w) (base := base) T
  refine T.F__law_dealt.ok sc__law_dealt (fun vs H Q E h => ?_) (fun cdv A outer s H vs Q E hr h => ?_)
  · obtain ⟨τ, l, P, rfl, _⟩ := h
    rfl
  · obtain ⟨τ, l, P, rfl, m0, hsh, nl, hR, h63, k⟩ := h
    refine ⟨_, (pss_cons (ps_set (i := 2) sc__law_dealt.nd rfl (Or.inl rfl) (pe_lst pa_nil))
      (pss_cons (ps_for PassesOwn.never rfl (pi_range1 rfl T.z_range (pa_cons (pe_callB (r := rLenQ K) (id := "len") call_len_seq (by rfl) T.z_len (by decide +kernel) (pa_cons (pv 1) pa_nil)) pa_nil)) (pg_name (i := 3) sc__law_dealt.nd rfl (Or.inr rfl))
      (pss_cons (ps_setLc (i := 4) (own := [("_law_row", 5)]) (g := gName 5) rfl sc__law_dealt.nd rfl rfl (sw_true rfl rfl rfl (by decide +kernel)) (pi_list (pv 2)) (blkOk_by (own := [("_law_row", 5)]) (N := ["_law_hand_here", "_law_sheet_here", "_law_rows", "_law_kind", "_law_fitting", "_law_row"]) (sc := defScope s__law_dealt) (by decide +kernel)) (fun _ _ _ _ _ => (pg_name (i := 5) sc__law_dealt.nd rfl (Or.inl rfl))) (fun _ _ _ _ _ => (pts_one (pt_cmpR (r := rIn K false) op_in_seq (pe_ix (r := rIxL K) ix_list (pv 5) (pe_un un_neg pe_int) (fun _ _ => rfl)) (pe_ix (r := rIxL K) ix_list (pv 1) (pv 3) (fun _ _ => rfl)) (by rfl)))) (fun _ _ _ _ _ => (pv 5)))
      (pss_one (ps_if (PW.pt (pw_and (pt_cmpR op_gt (pe_callB (r := rLenQ K) (id := "len") call_len_seq (by rfl) T.z_len (by decide +kernel) (pa_cons (pv 4) pa_nil)) pe_int (nomark _)) (pw_and1 (pt_cmpR op_gt (pe_call G__law_draw hr (by rfl) T.g__law_draw T.F__law_draw.kp T.b__law_draw .nil pass0 (pa_cons (pv 0) (pa_cons pe_int pa_nil))) pe_int (nomark _))))) (pss_one (ps_expr (pe_bm PySem.F.plainAttrs_list PySem.F.slot_list_append PySem.F.type_list_append mt_append (pe_ix (r := rIxL K) ix_list (pv 4) (pe_call G__law_draw hr (by rfl) T.g__law_draw T.F__law_draw.kp T.b__law_draw .nil pass0 (pa_cons (pv 0) (pa_cons (pe_callB (r := rLenQ K) (id := "len") call_len_seq (by rfl) T.z_len (by decide +kernel) (pa_cons (pv 4) pa_nil)) pa_nil))) (fun _ _ => rfl)) (pa_cons (pv 3) pa_nil)))) (pss_one (ps_expr (pe_bm PySem.F.plainAttrs_list PySem.F.slot_list_append PySem.F.type_list_append mt_append (pv 2) (pa_cons (pe_lst (pa_cons (pv 3) pa_nil)) pa_nil))))))))
      (pss_one (ps_ret (pv 2))))), ?_⟩
    obtain ⟨svs, hsv, hsl, _⟩ := id hsh
    tm_at "w"
    intro R nR
    have nRt := m0.mv.neN nR
    have hsv1 := (Same.new (o := .lst []) (Same.refl H) nR) _ _ hsv
    tm_at "w"
    refine for_range (lo := 0) (n := (svs.length : Int).toNat) (fun i σ H' => ∃ x y z, σ = [some (.ref τ.t), some (.ref l), some (.ref R), x, y, z] ∧ Mv τ H H' ∧ ∃ D, DL H H' R D ∧ Deal P i D) ?_ ?_ ?_
    · exact ⟨none, none, none, rfl, m0.mv.new nR, [], DL.init nR upd_same, Deal.nil⟩
    · rintro i σ H1 hi ⟨x0, y0, z0, rfl, m1, D, dl, de⟩
      rw [Int.zero_add]
      have il : i < P.length := by omega
      obtain ⟨F, f⟩ := id dl
      obtain ⟨vs, bq, g1, g2, g3, g4⟩ := (hsh.mv m1 nl).at il
      have hD1 : H1 R = some (.lst (refsV D.length F)) := f.list
      have dm := de.many
      have fin : ∀ H3, Mv τ H H3 → DL H H3 R D → H3 R = some (.lst (refsV D.length F)) → ∀ e, H3 e = none → DL H (upd (upd H3 e (.lst [.int (i : Int)])) R (.lst (refsV D.length F ++ [.ref e]))) R (D ++ [[i]]) ∧ Deal P (i + 1) (D ++ [[i]]) ∧ Mv τ H (upd (upd H3 e (.lst [.int (i : Int)])) R (.lst (refsV D.length F ++ [.ref e]))) ∧ upd H3 e (.lst [.int (i : Int)]) R = some (.lst (refsV D.length F)) :=
        fun H3 m3 d3 h3 e ne => ⟨d3.grow ne (m3.free ne) h3, de.grow, (m3.new ne).mut nR, (upd_ne (ne_of_none h3 ne)).trans h3⟩
      tm_at "w"
      refine ⟨⟨_, SqL.of hD1⟩, fun E nE => lc_listF (fun j => if isA P i (lastD D j) = true then some (V.ref (F j)) else none) hD1 nE (by rw [refsV_len]; omega) ?_ ?_⟩
      · intro j y H2 N M hy s2 kN kM
        obtain ⟨jl, rfl⟩ := refsV_here hy
        have c1 := s2 _ _ (f.rows j _ (List.getElem?_eq_getElem jl))
        have dne := de.full _ (List.getElem_mem jl)
        have el : lastD D j = (D[j]).getLastD 0 := by
          unfold lastD
          rw [getD_some (List.getElem?_eq_getElem jl)]
        have g12 := s2 _ _ g1
        have g42 := s2 _ _ g4
        tm_at "w"
        refine ⟨_, _, _, _, rfl, rfl, SqL.of c1, at_neg1 dne, ?_⟩
        tm_at "w"
        refine ⟨flat_nats _, ?_⟩
        show ∃ k, V.bl (inV (.int ((D[j].getLastD 0 : Nat) : Int)) (natsV (lotB P i))) = V.bl k ∧ _
        rw [inV_nats, show decide (D[j].getLastD 0 ∈ lotB P i) = isA P i (lastD D j) by rw [el, Bool.eq_iff_iff, decide_eq_true_eq]; exact mem_lotB hR]
        refine ⟨_, rfl, ?_⟩
        refine iteB (fun e => ?_) (fun e => ?_)
        · tm_at "w"
          exact kN _ _ (by rw [e]; rfl) (Same.refl H2)
        · exact kM _ (by rw [e]; rfl) (Same.refl H2)
      · intro H2 s2 hE
        rw [refsV_len, refsV_filter] at hE
        have hJ : ∀ z ∈ (List.range D.length).filter (fun j => isA P i (lastD D j)), z < D.length ∧ isA P i (lastD D z) = true := fun z hz => ⟨List.mem_range.mp (List.mem_filter.mp hz).1, (List.mem_filter.mp hz).2⟩
        have hJl : ((List.range D.length).filter (fun j => isA P i (lastD D j))).length ≤ D.length := by
          have := List.length_filter_le (fun j => isA P i (lastD D j)) (List.range D.length)
          rw [List.length_range] at this
          exact this
        generalize hJJ : (List.range D.length).filter (fun j => isA P i (lastD D j)) = J at *
        have nEt := m1.neN nE
        tm_at "w"
        refine iteD (fun z => ?_) (fun z => ?_)
        · rw [List.length_map] at z
          tm_at "w"
          refine ⟨τ, _, rfl, m1.now.same s2, by decide, by decide, fun r3 H3 m3 a0 a1 => ?_⟩
          have m23 : Mv τ H1 H3 := (m1.now.mv.same s2).trans m3
          have hE3 := m3.keep _ _ nEt hE
          tm_at "w"
          refine iteD (fun z2 => ?_) (fun z2 => ?_)
          · tm_at "w"
            refine ⟨τ, _, rfl, m3.now, by rw [List.length_map]; omega, by rw [List.length_map]; omega, fun r4 H4 m4 b0 b1 => ?_⟩
            rw [List.length_map] at b1
            obtain ⟨r, rfl⟩ : ∃ n : Nat, r4 = n := ⟨r4.toNat, by omega⟩
            have rJ : r < J.length := by omega
            obtain ⟨jl, ji⟩ := hJ _ (List.getElem_mem rJ)
            have m14 : Mv τ H1 H4 := m23.trans m4
            have dl4 := dl.mv m1 m14
            have hE4 := m4.keep _ _ nEt hE3
            have hR4 := m14.keep _ _ (m1.neF f.newL) hD1
            have qj := List.getElem?_eq_getElem jl
            have hF4 := m14.keep _ _ (m1.neF (f.newF _ jl)) (f.rows _ _ qj)
            tm_at "w"
            refine ⟨_, _, _, _, rfl, rfl, SqL.of hE4, at_of (j := r) rfl (by rw [List.getElem?_map, List.getElem?_eq_getElem rJ]; rfl), ?_⟩
            tm_at "w"
            refine ⟨_, _, _, rfl, rfl, hF4, lt_line (by rw [natsV_len]; have := de.long (List.getElem_mem jl); omega), ?_⟩
            obtain ⟨n0, dl5⟩ := dl4.push (q' := D[J[r]] ++ [i]) qj hR4 (refsV_at jl)
            have ji2 : isA P i ((D[J[r]]).getLastD 0) = true := by
              have e : lastD D J[r] = (D[J[r]]).getLastD 0 := by
                unfold lastD
                rw [getD_some qj]
              rw [← e]
              exact ji
            refine ⟨_, _, _, rfl, (m1.trans m14).mut n0, _, ?_, de.push hR qj ji2⟩
            rw [← natsV_snoc] at dl5
            exact dl5
          · have hR3 := m23.keep _ _ (m1.neF f.newL) hD1
            tm_at "w"
            intro e ne
            obtain ⟨f1, f2, f3, f4⟩ := fin H3 (m1.trans m23) (dl.mv m1 m23) hR3 e ne
            tm_at "w"
            refine ⟨_, _, _, rfl, rfl, f4, lt_line (by rw [refsV_len]; omega), ?_⟩
            exact ⟨_, _, _, rfl, f3, _, f1, f2⟩
        · have hR3 := s2 _ _ hD1
          refine iteF ?_
          tm_at "w"
          intro e ne
          obtain ⟨f1, f2, f3, f4⟩ := fin H2 (m1.same s2) (dl.same s2) hR3 e ne
          tm_at "w"
          refine ⟨_, _, _, rfl, rfl, f4, lt_line (by rw [refsV_len]; omega), ?_⟩
          exact ⟨_, _, _, rfl, f3, _, f1, f2⟩
    · rintro σ H1 ⟨x0, y0, z0, rfl, m1, D, dl, de⟩
      tm_at "w"
      exact k R D _ m1 dl (by rw [show P.length = (svs.length : Int).toNat by omega]; exact de)
/-! _law_right_scheme -/
theorem for_enumL {K : PySem.W.Frag} {a : Addr} {xs : List V} {g : TG} {tb : TS} {D : Ends} {σ : L2.St} {H : Hp} (Pv : Nat → L2.St → Hp → Prop) (h0 : Pv 0 σ H) (hq : ∀ i σ H, Pv i σ H → SqL K H a xs)
    (hs : ∀ (i : Nat) (x : V) (t : Addr) (σ : L2.St) (H : Hp), xs[i]? = some x → Pv i σ H → H t = none → g (.ref t) σ (upd H t (.tup [.int (i : Nat), x])) fun σ2 H2 => tb { D with nx := Pv (i + 1), ct := Pv (i + 1), bk := D.nx } σ2 H2)
    (hd : ∀ σ H, Pv xs.length σ H → D.nx σ H) : ∃ W : Nat → Nat → L2.St → Hp → Prop, (∃ m, W 0 m σ H) ∧ ∀ i m σ H, W i m σ H →
      ((Ite K a).stop i H ∧ D.nx σ H) ∨ ((Ite K a).go i H ∧ ∃ N : L2.St → Hp → Prop, (∀ σ' H', N σ' H' → ∃ m', m' < m ∧ W (i + 1) m' σ' H') ∧ ∀ v H', (Ite K a).yld i H v H' → g v σ H' fun σ2 H2 => tb { D with nx := N, ct := N, bk := D.nx } σ2 H2) := by
  refine ⟨fun i m σ H => m = xs.length - i ∧ i ≤ xs.length ∧ Pv i σ H, ⟨_, rfl, Nat.zero_le _, h0⟩, ?_⟩
  rintro i m σ H ⟨rfl, hi, p⟩
  have q := hq i σ H p
  by_cases lt : i < xs.length
  · refine .inr ⟨⟨xs, _, q, List.getElem?_eq_getElem lt⟩, Pv (i + 1), fun σ' H' p2 => ⟨_, by omega, rfl, lt, p2⟩, fun v H' y => ?_⟩
    obtain ⟨t, x, rfl, nt, rfl, f⟩ := y
    exact hs i x t σ H (f xs q) p nt
  · have e : i = xs.length := by omega
    subst e
    exact .inl ⟨⟨xs, q, Nat.le_refl _⟩, hd σ H p⟩
theorem lc_enumLF {K : PySem.W.Frag} {a : Addr} {xs : List V} {g : TG} {tt : TT} {te : TE} {vs : List Nat} {σ : St} {H1 : Hp} {D : Addr} {Qd : Hp → Prop} (f : Nat → Option V) (hx : H1 a = some (.lst xs)) (nD : H1 D = none) (hn : xs.length ≤ 100000)
    (hs : ∀ (i : Nat) (x : V) (Z : Addr) (H : Hp) (N : V → Hp → Prop) (M : Hp → Prop), xs[i]? = some x → Same H1 H → H Z = some (.tup [.int (i : Nat), x]) → (∀ v H4, f i = some v → Same H H4 → N v H4) → (∀ H4, f i = none → Same H H4 → M H4) → g (.ref Z) (wipe σ vs) H fun σ2 H2 => wipe σ2 vs = wipe σ vs ∧ tt σ2 H2 fun b H3 => if b = true then te σ2 H3 N else M H3)
    (hd : ∀ H, Same H1 H → H D = some (.lst ((List.range xs.length).filterMap f)) → Qd H) : ∃ W : Nat → Nat → Hp → Prop, (∃ m, W 0 m (upd H1 D (.lst []))) ∧ ∀ i m H, W i m H →
      ((Ite K a).stop i H ∧ Qd H) ∨ ((Ite K a).go i H ∧ ∃ Nx : Hp → Prop, (∀ H', Nx H' → ∃ m', m' < m ∧ W (i + 1) m' H') ∧ ∀ x H', (Ite K a).yld i H x H' → g x (wipe σ vs) H' fun σ2 H2 => wipe σ2 vs = wipe σ vs ∧ tt σ2 H2 fun b H3 =>
        if b = true then te σ2 H3 fun y H4 => ∃ acc, H4 D = some (.lst acc) ∧ acc.length < sizeLine ∧ Nx (upd H4 D (.lst (acc ++ [y]))) else Nx H3) := by
  refine ⟨fun i m H => m = xs.length - i ∧ i ≤ xs.length ∧ Same H1 H ∧ H D = some (.lst ((List.range i).filterMap f)), ⟨xs.length, rfl, Nat.zero_le _, Same.new (Same.refl H1) nD, upd_same⟩, ?_⟩
  rintro i m H ⟨rfl, hi, s, hD⟩
  have qx : SqL K H a xs := SqL.of (s _ _ hx)
  have hz := filterMap_range_len f i
  by_cases hlt : i < xs.length
  · have ex : xs[i]? = some xs[i] := List.getElem?_eq_getElem hlt
    refine .inr ⟨⟨xs, _, qx, ex⟩, fun H => i < xs.length ∧ Same H1 H ∧ H D = some (.lst ((List.range (i + 1)).filterMap f)), fun H' p' => ⟨xs.length - (i + 1), by omega, rfl, hlt, p'.2⟩, fun v H' y => ?_⟩
    obtain ⟨Z, x', rfl, hZ, rfl, f1⟩ := y
    have s1 : Same H (upd H Z (.tup [.int (i : Nat), x'])) := Same.new (Same.refl H) hZ
    refine hs i x' Z _ _ _ (f1 xs qx) (s.trans s1) upd_same (fun v H4 e s4 => ⟨_, s4 _ _ (s1 _ _ hD), lt_line (by omega), hlt, ?_, ?_⟩) (fun H4 e s4 => ⟨hlt, ?_, ?_⟩)
    · exact Same.mut ((s.trans s1).trans s4) nD
    · rw [filterMap_range_succ, e]
      exact upd_same
    · exact (s.trans s1).trans s4
    · rw [filterMap_range_succ, e, s4 _ _ (s1 _ _ hD)]
      simp
  · have e : i = xs.length := by omega
    subst e
    exact .inl ⟨⟨xs, qx, Nat.le_refl _⟩, hd H s hD⟩
theorem cat_any {K : PySem.W.Frag} {H : Hp} {a b : Addr} {xs ys : List V} {Q : VK} (hx : H a = some (.tup xs)) (hy : H b = some (.tup ys)) (hl : xs.length + ys.length ≤ sizeLine)
    (k : ∀ p H', Same H H' → H' p = some (.tup (xs ++ ys)) → Q (.ref p) H') : rCatA K (.ref a) (.ref b) H Q := by
  refine ⟨a, b, xs, ys, rfl, rfl, SqT.of hx, SqT.of hy, hl, fun e => ?_, fun _ e => ?_, fun _ _ p np => ?_⟩
  · exact k b H (Same.refl H) (by rw [hy, e]; rfl)
  · exact k a H (Same.refl H) (by rw [hx, e, List.append_nil])
  · exact k p _ (Same.new (Same.refl H) np) upd_same
theorem TK.mutD {H : Hp} {p : Addr} {o : HO} {kvs : List (Key × V)} (h : H p = some (.dK kvs)) : TK H (upd H p o) := fun a xs e => upd_at (ne_of e h (by intro z; cases z)) e
/-- rows that a reader goes on to see -/
structure RowsT (τ : Tp) (H : Hp) (l : Addr) (D : List (List Nat)) (F : Nat → Addr) : Prop where
  here : RowsL H l D F
  nl : l ≠ τ.t
  nF : ∀ (j : Nat), j < D.length → F j ≠ τ.t
theorem DL.atT {τ : Tp} {H0 H : Hp} {l : Addr} {D : List (List Nat)} (g : DL H0 H l D) (m : Mv τ H0 H) : ∃ F, RowsT τ H l D F := by
  obtain ⟨F, f⟩ := g
  exact ⟨F, ⟨f.list, f.rows⟩, m.neF f.newL, fun j hj => m.neF (f.newF j hj)⟩
theorem RowsT.mv {τ : Tp} {H H' : Hp} {l : Addr} {D : List (List Nat)} {F : Nat → Addr} (g : RowsT τ H l D F) (m : Mv τ H H') : RowsT τ H' l D F :=
  ⟨⟨m.keep _ _ g.nl g.here.list, fun j q e => m.keep _ _ (g.nF j (List.getElem?_eq_some_iff.mp e).1) (g.here.row j q e)⟩, g.nl, g.nF⟩
theorem RowsT.same {τ : Tp} {H H' : Hp} {l : Addr} {D : List (List Nat)} {F : Nat → Addr} (g : RowsT τ H l D F) (s : Same H H') : RowsT τ H' l D F := ⟨g.here.same s, g.nl, g.nF⟩
/-- a dict of places -/
def PlOk (H : Hp) (kvs : List (Key × V)) (D : List (List Nat)) (wide low step : Int) (dom : Nat → Prop) : Prop := ∀ k, dom k → ∃ (t : Addr) (s b : Nat) (q : List Nat), valV kvs (.inl (k : Int)) = some (.ref t) ∧ H t = some (.tup [.int ((s : Int) * wide), .int (low + step * (b : Int))]) ∧ D[s]? = some q ∧ q[b]? = some k
theorem PlOk.tk {H H' : Hp} {kvs : List (Key × V)} {D : List (List Nat)} {wide low step : Int} {dom : Nat → Prop} (h : PlOk H kvs D wide low step dom) (k : TK H H') : PlOk H' kvs D wide low step dom := fun x hx => by
  obtain ⟨t, s, b, q, e1, e2, e3⟩ := h x hx
  exact ⟨t, s, b, q, e1, k _ _ e2, e3⟩
theorem PlOk.mono {H : Hp} {kvs : List (Key × V)} {D : List (List Nat)} {wide low step : Int} {dom dom' : Nat → Prop} (h : PlOk H kvs D wide low step dom) (i : ∀ k, dom' k → dom k) : PlOk H kvs D wide low step dom' := fun x hx => h x (i x hx)
theorem PlOk.put {H : Hp} {kvs : List (Key × V)} {D : List (List Nat)} {wide low step : Int} {dom : Nat → Prop} (h : PlOk H kvs D wide low step dom) {t : Addr} {s b k : Nat} {q : List Nat} (ht : H t = some (.tup [.int ((s : Int) * wide), .int (low + step * (b : Int))])) (h1 : D[s]? = some q) (h2 : q[b]? = some k) :
    PlOk H (putK kvs (.inl (k : Int)) (.ref t)) D wide low step (fun x => dom x ∨ x = k) := fun x hx => by
  by_cases e : x = k
  · subst e
    exact ⟨t, s, b, q, by rw [valV_put, if_pos rfl], ht, h1, h2⟩
  · rcases hx with hx | hx
    · obtain ⟨t', s', b', q', e1, e2⟩ := h x hx
      refine ⟨t', s', b', q', ?_, e2⟩
      rw [valV_put, if_neg (fun z => e (by injection z with z; omega))]
      exact e1
    · exact absurd hx e
theorem ints_all {c : Int} : ∀ {acc : List V}, (∀ v ∈ acc, ∃ z : Int, v = .int z ∧ z < c) → ∃ es : List Int, es.length = acc.length ∧ (∀ z ∈ es, z < c) ∧ acc = es.map V.int
  | [], _ => ⟨[], rfl, (fun x hx => by cases hx), rfl⟩
  | v :: r, h => by
    obtain ⟨es, h1, h2, h3⟩ := ints_all fun u hu => h u (List.mem_cons_of_mem _ hu)
    obtain ⟨z, e, z0⟩ := h v List.mem_cons_self
    refine ⟨z :: es, by rw [List.length_cons, List.length_cons, h1], fun x hx => ?_, ?_⟩
    · rcases List.mem_cons.mp hx with e | e
      · rw [e]; exact z0
      · exact h2 x e
    · rw [e, h3]
      rfl
/-- the triples that stand in a list -/
theorem sch_pick {H : Hp} {R : Nat → Tr → Prop} {acc : List V} (h : ∀ (j : Nat) v, acc[j]? = some v → ∃ e, R j e ∧ Trip H v e) : ∃ S : List Tr, ScL H acc S ∧ ∀ (j : Nat) e, S[j]? = some e → R j e := by
  obtain ⟨f, hf⟩ := Classical.axiomOfChoice (r := fun (j : Nat) (e : Tr) => j < acc.length → ∃ v, acc[j]? = some v ∧ R j e ∧ Trip H v e) (fun j => by
    by_cases hj : j < acc.length
    · obtain ⟨e, h1, h2⟩ := h j _ (List.getElem?_eq_getElem hj)
      exact ⟨e, fun _ => ⟨_, List.getElem?_eq_getElem hj, h1, h2⟩⟩
    · exact ⟨(0, 0, []), fun z => absurd z hj⟩)
  have at' : ∀ (j : Nat) e, ((List.range acc.length).map f)[j]? = some e → j < acc.length ∧ e = f j := fun j e he => by
    have hj := (List.getElem?_eq_some_iff.mp he).1
    rw [List.length_map, List.length_range] at hj
    rw [List.getElem?_map, List.getElem?_range hj] at he
    exact ⟨hj, (Option.some.inj he).symm⟩
  refine ⟨(List.range acc.length).map f, ⟨by rw [List.length_map, List.length_range], fun j e he => ?_⟩, fun j e he => ?_⟩
  · obtain ⟨hj, rfl⟩ := at' j e he
    obtain ⟨v, h1, h2, h3⟩ := hf j hj
    exact ⟨v, h1, h3⟩
  · obtain ⟨hj, rfl⟩ := at' j e he
    obtain ⟨v, h1, h2, h3⟩ := hf j hj
    exact h2
theorem ints_all2 {c : Int} : ∀ {acc : List V}, (∀ v ∈ acc, ∃ z : Int, v = .int z ∧ z < c ∧ -1000 ≤ z ∧ z ≤ 1000) → ∃ es : List Int, es.length = acc.length ∧ (∀ z ∈ es, z < c) ∧ (∀ z ∈ es, -1000 ≤ z ∧ z ≤ 1000) ∧ acc = es.map V.int
  | [], _ => ⟨[], rfl, (fun x hx => by cases hx), (fun x hx => by cases hx), rfl⟩
  | v :: r, h => by
    obtain ⟨es, h1, h2, h4, h3⟩ := ints_all2 fun u hu => h u (List.mem_cons_of_mem _ hu)
    obtain ⟨z, e, z0, z1⟩ := h v List.mem_cons_self
    refine ⟨z :: es, by rw [List.length_cons, List.length_cons, h1], fun x hx => ?_, fun x hx => ?_, ?_⟩
    · rcases List.mem_cons.mp hx with e | e
      · rw [e]; exact z0
      · exact h2 x e
    · rcases List.mem_cons.mp hx with e | e
      · rw [e]; exact z1
      · exact h4 x e
    · rw [e, h3]
      rfl
/-- a triple with small numbers -/
structure SmT (e : Tr) : Prop where
  slot : 0 ≤ e.1 ∧ e.1 ≤ 1000
  num : -1000 ≤ e.2.1 ∧ e.2.1 ≤ 1000
  len : e.2.2.length ≤ 900
  ent : ∀ z ∈ e.2.2, -1000 ≤ z ∧ z ≤ 1000
def sp__law_right_scheme (K : PySem.W.Frag) : Sp := fun vs H Q _ => ∃ (τ : Tp) (l : Addr) (P : List (List Nat)), vs = [.ref τ.t, .ref l] ∧ Tape τ H ∧ ShAt H l P ∧ l ≠ τ.t ∧ RtP P ∧ P.length ≤ 63 ∧
  ∀ t S H', Mv τ H H' → SchAt H' t S → SchOk P S → (∀ e ∈ S, SmT e) → Q (.ref t) H'
theorem sc__law_right_scheme : FnScope ["_law_hand_here", "_law_sheet_here", "_law_rows", "_law_step", "_law_low", "_law_wide", "_law_place", "_law_found", "_law_kind", "_law_slot", "_law_row", "_law_entries", "_law_at", "_law_own", "_law_other"] ["_law_hand_here", "_law_sheet_here"] (defScope s__law_right_scheme) := ⟨rfl, rfl, rfl, by decide +kernel, rfl, by decide +kernel, by decide +kernel⟩
theorem ok__law_right_scheme (T : Top K mg) : FnOk P w K mg base CX0 3 T.f__law_right_scheme T.fd__law_right_scheme ["_law_hand_here", "_law_sheet_here"] (sp__law_right_scheme K) := by
  have G__law_dealt := ok__law_dealt (P := P) (w := w) (base := base) T
  have G__law_draw := ok__law_draw (P := P) (w := w) (base := base) T
  refine T.F__law_right_scheme.ok sc__law_right_scheme (fun vs H Q E h => ?_) (fun cdv A outer s H vs Q E hr h => ?_)
  · obtain ⟨τ, l, P, rfl, _⟩ := h
    rfl
  · obtain ⟨τ, l, P, rfl, m0, hsh, nl, hR, h63, k⟩ := h
    refine ⟨_, (pss_cons (ps_set (i := 2) sc__law_right_scheme.nd rfl (Or.inl rfl) (pe_call G__law_dealt hr (by rfl) T.g__law_dealt T.F__law_dealt.kp T.b__law_dealt .nil pass0 (pa_cons (pv 0) (pa_cons (pv 1) pa_nil))))
      (pss_cons (ps_set (i := 3) sc__law_right_scheme.nd rfl (Or.inl rfl) (pe_op op_add pe_int (pe_call G__law_draw (hr.mono (by decide)) (by rfl) T.g__law_draw T.F__law_draw.kp T.b__law_draw .nil pass0 (pa_cons (pv 0) (pa_cons pe_int pa_nil)))))
      (pss_cons (ps_set (i := 4) sc__law_right_scheme.nd rfl (Or.inr rfl) (pe_op op_sub (pe_call G__law_draw (hr.mono (by decide)) (by rfl) T.g__law_draw T.F__law_draw.kp T.b__law_draw .nil pass0 (pa_cons (pv 0) (pa_cons pe_int pa_nil))) pe_int))
      (pss_cons (ps_set (i := 5) sc__law_right_scheme.nd rfl (Or.inl rfl) (pe_op op_add pe_int (pe_call G__law_draw (hr.mono (by decide)) (by rfl) T.g__law_draw T.F__law_draw.kp T.b__law_draw .nil pass0 (pa_cons (pv 0) (pa_cons pe_int pa_nil)))))
      (pss_cons (ps_set (i := 6) sc__law_right_scheme.nd rfl (Or.inl rfl) pe_dnewK)
      (pss_cons (ps_for PassesOwn.never rfl (pi_enum (by rfl) T.z_enumerate (pa_cons (pv 2) pa_nil)) (pg_tup rfl (pgs_cons (pg_name (i := 9) sc__law_right_scheme.nd rfl (Or.inl rfl)) (pgs_cons (pg_name (i := 10) sc__law_right_scheme.nd rfl (Or.inl rfl)) pgs_nil)))
      (pss_one (ps_for PassesOwn.never rfl (pi_enum (by rfl) T.z_enumerate (pa_cons (pv 10) pa_nil)) (pg_tup rfl (pgs_cons (pg_name (i := 12) sc__law_right_scheme.nd rfl (Or.inl rfl)) (pgs_cons (pg_name (i := 8) sc__law_right_scheme.nd rfl (Or.inr rfl)) pgs_nil)))
      (pss_one (ps_dput (Nat.lt_of_le_of_lt (Nat.add_le_add_left (by decide) _) hr.units) (pv 6) (pv 8) (pe_tup (pa_cons (pe_op op_mul (pv 9) (pv 5)) (pa_cons (pe_op op_add (pv 4) (pe_op op_mul (pv 3) (pv 12))) pa_nil))) rfl)))))
      (pss_cons (ps_set (i := 7) sc__law_right_scheme.nd rfl (Or.inl rfl) (pe_lst pa_nil))
      (pss_cons (ps_for PassesOwn.never rfl (pi_range1 rfl T.z_range (pa_cons (pe_callB (r := rLenQ K) (id := "len") call_len_seq (by rfl) T.z_len (by decide +kernel) (pa_cons (pv 1) pa_nil)) pa_nil)) (pg_name (i := 8) sc__law_right_scheme.nd rfl (Or.inr rfl))
      (pss_cons (ps_setLc (i := 11) (own := [("_law_at", 12)]) (g := gName 12) (tt := tYes) rfl sc__law_right_scheme.nd rfl rfl (sw_true rfl rfl rfl (by decide +kernel)) (pi_range1 rfl T.z_range (pa_cons (pe_op op_mul (pe_callB (r := rLenQ K) (id := "len") call_len_seq (by rfl) T.z_len (by decide +kernel) (pa_cons (pv 2) pa_nil)) (pv 5)) pa_nil)) (blkOk_by (own := [("_law_at", 12)]) (N := ["_law_hand_here", "_law_sheet_here", "_law_rows", "_law_step", "_law_low", "_law_wide", "_law_place", "_law_found", "_law_kind", "_law_slot", "_law_row", "_law_entries", "_law_at", "_law_own", "_law_other"]) (sc := defScope s__law_right_scheme) (by decide +kernel)) (fun _ _ _ _ _ => (pg_name (i := 12) sc__law_right_scheme.nd rfl (Or.inl rfl))) (fun _ _ _ _ _ => pts_nil) (fun _ _ _ _ _ => (pe_op op_sub (pe_op op_sub (pv 4) pe_int) (pe_call G__law_draw (hr.mono (by decide)) (by rfl) T.g__law_draw T.F__law_draw.kp T.b__law_draw .nil pass0 (pa_cons (pv 0) (pa_cons pe_int pa_nil))))))
      (pss_cons (ps_for PassesOwn.never rfl (pi_enum (by rfl) T.z_enumerate (pa_cons (pv 2) pa_nil)) (pg_tup rfl (pgs_cons (pg_name (i := 9) sc__law_right_scheme.nd rfl (Or.inl rfl)) (pgs_cons (pg_name (i := 10) sc__law_right_scheme.nd rfl (Or.inl rfl)) pgs_nil)))
      (pss_cons (ps_setLc (i := 13) (own := [("_law_other", 14)]) (g := gName 14) rfl sc__law_right_scheme.nd rfl rfl (sw_true rfl rfl rfl (by decide +kernel)) (pi_list (pv 10)) (blkOk_by (own := [("_law_other", 14)]) (N := ["_law_hand_here", "_law_sheet_here", "_law_rows", "_law_step", "_law_low", "_law_wide", "_law_place", "_law_found", "_law_kind", "_law_slot", "_law_row", "_law_entries", "_law_at", "_law_own", "_law_other"]) (sc := defScope s__law_right_scheme) (by decide +kernel)) (fun _ _ _ _ _ => (pg_name (i := 14) sc__law_right_scheme.nd rfl (Or.inl rfl))) (fun _ _ _ _ _ => (pts_one (pt_cmpR (r := rIn K false) op_in_seq (pv 14) (pe_ix (r := rIxL K) ix_list (pv 1) (pv 8) (fun _ _ => rfl)) (by rfl)))) (fun _ _ _ _ _ => (pv 14)))
      (pss_one (ps_if (pt_cmpR op_gt (pe_callB (r := rLenQ K) (id := "len") call_len_seq (by rfl) T.z_len (by decide +kernel) (pa_cons (pv 13) pa_nil)) pe_int (nomark _)) (pss_one (ps_asg (pe_op op_add (pe_ix (r := rIxT K) ix_tup (pe_dget (Nat.lt_of_le_of_lt (Nat.add_le_add_left (by decide) _) hr.units) (pv 6) (pe_ix (r := rIxL K) ix_list (pv 13) (pe_un un_neg pe_int) (fun _ _ => rfl)) (fun _ _ => rfl)) pe_int (fun _ _ => rfl)) (pe_call G__law_draw (hr.mono (by decide)) (by rfl) T.g__law_draw T.F__law_draw.kp T.b__law_draw .nil pass0 (pa_cons (pv 0) (pa_cons (pv 3) pa_nil)))) (pg_sub (pv 11) (pe_op op_mul (pv 9) (pv 5)) set_list))) pss_nil))))
      (pss_one (ps_expr (pe_bm PySem.F.plainAttrs_list PySem.F.slot_list_append PySem.F.type_list_append mt_append (pv 7) (pa_cons (pe_op op_catA (pe_dget (Nat.lt_of_le_of_lt (Nat.add_le_add_left (by decide) _) hr.units) (pv 6) (pv 8) (fun _ _ => rfl)) (pe_tup (pa_cons (pe_callTy (r := rTupQ K) (T := "tuple") call_tuple_of (by rfl) T.z_tuple (by decide +kernel) (pa_cons (pv 11) pa_nil)) pa_nil))) pa_nil)))))))
      (pss_one (ps_ret (pe_callTy (r := rTupQ K) (T := "tuple") call_tuple_of (by rfl) T.z_tuple (by decide +kernel) (pa_cons (pv 7) pa_nil)))))))))))), ?_⟩
    tm_at "w"
    refine ⟨τ, l, P, rfl, m0, hsh, nl, hR, h63, fun R D H1 m1 dl de => ?_⟩
    have dm := de.many
    tm_at "w"
    refine ⟨τ, _, rfl, m1.now, by decide, by decide, fun r2 H2 m2 a0 a1 => ?_⟩
    obtain ⟨step, hstep⟩ : ∃ n : Int, 1 + r2 = n := ⟨_, rfl⟩
    refine ⟨_, _, rfl, rfl, ?_⟩
    show gName 3 (V.int (1 + r2)) _ _ _
    rw [hstep]
    tm_at "w"
    refine ⟨τ, _, rfl, m2.now, by decide, by decide, fun r3 H3 m3 b0 b1 => ?_⟩
    obtain ⟨low, hlow⟩ : ∃ n : Int, r3 - 4 = n := ⟨_, rfl⟩
    refine ⟨_, _, rfl, rfl, ?_⟩
    show gName 4 (V.int (r3 - 4)) _ _ _
    rw [hlow]
    tm_at "w"
    refine ⟨τ, _, rfl, m3.now, by decide, by decide, fun r4 H4 m4 c0 c1 => ?_⟩
    have m14 := m2.trans (m3.trans m4)
    have m04 := m1.trans m14
    obtain ⟨F, rt⟩ := (dl.mv m1 m14).atT m04
    obtain ⟨wide, hwide⟩ : ∃ n : Nat, 1 + r4 = (n : Int) := ⟨(1 + r4).toNat, by omega⟩
    refine ⟨_, _, rfl, rfl, ?_⟩
    show gName 5 (V.int (1 + r4)) _ _ _
    rw [hwide]
    tm_at "w"
    intro pl npl
    have nplt := m4.now.mv.neN npl
    have m5 := m4.now.mv.new (p := pl) (o := .dK []) npl
    have rt5 := rt.mv m5
    have hD5 := rt5.here.list
    tm_at "w"
    refine ⟨_, _, rfl, SqL.of hD5, for_enumL (K := K) (a := R) (xs := refsV D.length F) (fun i σ H' => ∃ u8 u9 u10 u12, σ = [some (.ref τ.t), some (.ref l), some (.ref R), some (.int step), some (.int low), some (.int (wide : Int)), some (.ref pl), none, u8, u9, u10, none, u12, none, none] ∧ Mv τ H4 H' ∧ ∃ kvs, H' pl = some (.dK kvs) ∧ kvs.length ≤ i * 100 ∧ PlOk H' kvs D (wide : Int) low step (fun k => ∃ s q, s < i ∧ D[s]? = some q ∧ k ∈ q)) ?_ ?_ ?_ ?_⟩
    · exact ⟨_, _, _, _, rfl, m5, [], upd_same, Nat.zero_le _, fun k ⟨s, q, h, _⟩ => absurd h (Nat.not_lt_zero s)⟩
    · rintro i σ H' ⟨_, _, _, _, rfl, m, _⟩
      exact SqL.of (rt.mv m).here.list
    · rintro i x t σ H6 hx ⟨u8, u9, u10, u12, rfl, m6, kvs, hpl, hkl, hpo⟩ nt
      obtain ⟨il, rfl⟩ := refsV_here hx
      have qi := List.getElem?_eq_getElem il
      have ql := de.long (List.getElem_mem il)
      have m7 := m6.new (o := .tup [.int (i : Int), .ref (F i)]) nt
      have hF7 := (rt.mv m7).here.row i _ qi
      tm_at "w"
      refine ⟨_, _, rfl, SqL.of hF7, for_enumL (K := K) (a := F i) (xs := natsV D[i]) (fun j σ H' => ∃ u8 u12, σ = [some (.ref τ.t), some (.ref l), some (.ref R), some (.int step), some (.int low), some (.int (wide : Int)), some (.ref pl), none, u8, some (.int (i : Int)), some (.ref (F i)), none, u12, none, none] ∧ Mv τ H4 H' ∧ ∃ kvs, H' pl = some (.dK kvs) ∧ kvs.length ≤ i * 100 + j ∧ PlOk H' kvs D (wide : Int) low step (fun k => (∃ s q, s < i ∧ D[s]? = some q ∧ k ∈ q) ∨ k ∈ (D[i]).take j)) ?_ ?_ ?_ ?_⟩
      · refine ⟨_, _, rfl, m7, kvs, (Same.new (Same.refl _) nt) _ _ hpl, by omega, (hpo.tk (TK.new nt)).mono fun k hk => ?_⟩
        rcases hk with hk | hk
        · exact hk
        · simp at hk
      · rintro j σ H' ⟨_, _, rfl, m, _⟩
        exact SqL.of ((rt.mv m).here.row i _ qi)
      · rintro j v t2 σ H8 hv ⟨u8, u12, rfl, m8, kvs, hpl, hkl, hpo⟩ nt2
        obtain ⟨kd, hkd, rfl, jl⟩ := natsV_here hv
        tm_at "w"
        intro p np
        have hpl9 : ∀ o, upd (upd H8 t2 (.tup [.int (j : Int), .int (kd : Int)])) p o pl = some (.dK kvs) := fun o => (Same.new (Same.new (Same.refl H8) nt2) np) _ _ hpl
        have lk : kvs.length ≤ 100000 := by omega
        tm_at "w"
        refine ⟨pl, _, rfl, .inl ⟨kvs, .inl (kd : Int), hpl9 _, rfl, lt_line lk, rfl⟩, ?_⟩
        have lp := length_putK kvs (.inl (kd : Int) : Key) (.ref p)
        refine ⟨_, _, rfl, ((m8.new nt2).new np).mut npl, _, upd_same, by omega, ((((hpo.tk (TK.new nt2)).tk (TK.new np)).put upd_same qi hkd).tk (TK.mutD (hpl9 _))).mono fun x hx => ?_⟩
        rw [List.take_add_one, hkd] at hx
        rcases hx with hx | hx
        · exact .inl (.inl hx)
        · rcases List.mem_append.mp hx with hx | hx
          · exact .inl (.inr hx)
          · exact .inr (List.mem_singleton.mp hx)
      · rintro σ H8 ⟨u8, u12, rfl, m8, kvs, hpl, hkl, hpo⟩
        rw [natsV_len] at hkl hpo
        refine ⟨_, _, _, _, rfl, m8, kvs, hpl, by omega, hpo.mono fun k hk => ?_⟩
        obtain ⟨s, q, s1, s2, s3⟩ := hk
        by_cases e : s = i
        · subst e
          rw [qi] at s2
          exact .inr (by rw [List.take_length, Option.some.inj s2]; exact s3)
        · exact .inl ⟨s, q, by omega, s2, s3⟩
    · rintro σ H6 ⟨u8, u9, u10, u12, rfl, m6, kvs, hpl, hkl, hpo⟩
      rw [refsV_len] at hkl hpo
      obtain ⟨svs, hsv, hsl, _⟩ := id ((hsh.mv m04 nl).mv m6 nl)
      have hpo : PlOk H6 kvs D (wide : Int) low step (fun k => k < P.length) := hpo.mono fun k hk => by
        obtain ⟨s, b, q, h1, h2⟩ := de.place hk
        exact ⟨s, q, (List.getElem?_eq_some_iff.mp h1).1, h1, List.mem_of_getElem? h2⟩
      tm_at "w"
      intro fd nfd
      have nfdt := m6.neN nfd
      have nfd4 := m6.free nfd
      have nfd' := nfd
      have rt6 := rt.mv m6
      have hsv7 := (Same.new (o := .lst []) (Same.refl H6) nfd) _ _ hsv
      tm_at "w"
      refine for_range (lo := 0) (n := (svs.length : Int).toNat) (fun i σ H' => ∃ u8 u9 u10 u11 u13, σ = [some (.ref τ.t), some (.ref l), some (.ref R), some (.int step), some (.int low), some (.int (wide : Int)), some (.ref pl), some (.ref fd), u8, u9, u10, u11, u12, u13, none] ∧ Mv τ H6 H' ∧ ∃ acc, H' fd = some (.lst acc) ∧ acc.length = i ∧ ∀ (j : Nat) v, acc[j]? = some v → ∃ e, (ByDeal P D wide low step j e ∧ SmT e) ∧ Trip H' v e) ?_ ?_ ?_
      · exact ⟨_, _, _, _, _, rfl, m6.now.mv.new nfd, [], upd_same, rfl, fun j v e => by simp at e⟩
      · rintro i σ H8 hi ⟨u8, u9, u10, u11, u13, rfl, m8, acc, hfd, hal, hacc⟩
        rw [Int.zero_add]
        have il : i < P.length := by omega
        have rt8 := rt6.mv m8
        have hD8 := rt8.here.list
        have dw : D.length * wide ≤ 63 * 2 := Nat.mul_le_mul (by omega) (by omega)
        have ew : ((refsV D.length F).length : Int) * (wide : Int) = ((D.length * wide : Nat) : Int) := by rw [refsV_len]; exact (Int.natCast_mul _ _).symm
        tm_at "w"
        rw [ew]
        intro E nE
        refine lc_rangeM (τ := τ) (fun _ v _ => ∃ z : Int, v = .int z ∧ z < low ∧ -1000 ≤ z ∧ z ≤ 1000) (fun _ _ _ _ h _ => h) m8.now nE (by omega) ?_ ?_
        · intro j H9 N M hj m9 kN
          tm_at "w"
          refine ⟨τ, _, rfl, m9.now, by decide, by decide, fun r10 H10 m10 d0 d1 => ?_⟩
          tm_at "w"
          exact kN _ _ m10 ⟨_, rfl, by omega, by omega, by omega⟩
        · intro H9 acc9 m9 hE hlen hI
          rw [Int.toNat_natCast] at hlen
          obtain ⟨es, esl, esn, esb, rfl⟩ := ints_all2 (c := low) (acc := acc9) fun v hv => by
            obtain ⟨j, hj, e⟩ := List.mem_iff_getElem.mp hv
            exact hI j v (by rw [List.getElem?_eq_getElem hj, e])
          rw [List.length_map] at hlen
          have nEt := m8.neN nE
          have m69 : Mv τ H6 H9 := m8.trans m9
          have rt9 := rt6.mv m69
          have hD9 := rt9.here.list
          have hpl8 := m8.keep _ _ nplt hpl
          have hpo8 := hpo.tk m8.tk
          have hsh8 := ((hsh.mv m04 nl).mv m6 nl).mv m8 nl
          tm_at "w"
          refine ⟨_, _, rfl, SqL.of hD9, for_enumL (K := K) (a := R) (xs := refsV D.length F) (fun s σ H' => ∃ u9 u10 u13, σ = [some (.ref τ.t), some (.ref l), some (.ref R), some (.int step), some (.int low), some (.int (wide : Int)), some (.ref pl), some (.ref fd), some (.int (i : Int)), u9, u10, some (.ref E), u12, u13, none] ∧ Mv τ H8 H' ∧ ∃ es : List Int, H' E = some (.lst (es.map V.int)) ∧ es.length = D.length * wide ∧ (∀ z ∈ es, -1000 ≤ z ∧ z ≤ 1000) ∧ (∀ (s' : Nat) q, s' < s → D[s']? = some q → ∃ z, es[s' * wide]? = some z ∧ EntOk P i q low step z) ∧ ∀ s', s ≤ s' → s' < D.length → ∃ z, es[s' * wide]? = some z ∧ z < low) ?_ ?_ ?_ ?_⟩
          · refine ⟨_, _, _, rfl, m9, es, hE, hlen, esb, fun s' q h => absurd h (Nat.not_lt_zero _), fun s' _ h => ?_⟩
            have lt : s' * wide < es.length := by
              rw [hlen]
              exact Nat.mul_lt_mul_of_pos_right h (by omega)
            exact ⟨_, List.getElem?_eq_getElem lt, esn _ (List.getElem_mem lt)⟩
          · rintro s σ H' ⟨_, _, _, rfl, m, _⟩
            exact SqL.of (rt8.mv m).here.list
          · rintro s x t σ H10 hx ⟨u9, u10, u13, rfl, m10, es, hE, hlen, esb, hes1, hes2⟩ nt
            obtain ⟨sl, rfl⟩ := refsV_here hx
            have qs := List.getElem?_eq_getElem sl
            have ql := de.long (List.getElem_mem sl)
            have m11 := m10.new (o := .tup [.int (s : Int), .ref (F s)]) nt
            have hF11 := (rt8.mv m11).here.row s _ qs
            obtain ⟨ws, bq, g1, g2, g3, g4⟩ := (hsh8.mv m11 nl).at il
            tm_at "w"
            refine ⟨⟨_, SqL.of hF11⟩, fun O nO => lc_listF (fun j => (D[s])[j]?.bind fun k => if isA P i k = true then some (V.int (k : Int)) else none) hF11 nO (by rw [natsV_len]; omega) ?_ ?_⟩
            · intro j y H12 N M hy s12 kN kM
              obtain ⟨kd, hkd, rfl, jl⟩ := natsV_here hy
              have g12 := s12 _ _ g1
              have g42 := s12 _ _ g4
              tm_at "w"
              refine ⟨flat_nats _, ?_⟩
              show ∃ k, V.bl (inV (.int (kd : Int)) (natsV (lotB P i))) = V.bl k ∧ _
              rw [inV_nats, show decide (kd ∈ lotB P i) = isA P i kd by rw [Bool.eq_iff_iff, decide_eq_true_eq]; exact mem_lotB hR]
              refine ⟨_, rfl, ?_⟩
              refine iteB (fun e => ?_) (fun e => ?_)
              · tm_at "w"
                exact kN _ _ (by rw [hkd]; show (if isA P i kd = true then _ else _) = _; rw [if_pos e]) (Same.refl H12)
              · exact kM _ (by rw [hkd]; show (if isA P i kd = true then _ else _) = _; rw [e, if_neg (by decide)]) (Same.refl H12)
            · intro H12 s12 hO
              rw [filter_list] at hO
              have hO : H12 O = some (.lst (natsV (ownB P i D[s]))) := hO
              have m12 := m11.same s12
              have hE12 := s12 _ _ ((Same.new (o := .tup [.int (s : Int), .ref (F s)]) (Same.refl H10) nt) _ _ hE)
              tm_at "w"
              rw [natsV_len]
              refine iteD (fun z => ?_) (fun z => ?_)
              · have own0 : ownB P i D[s] ≠ [] := fun e => by rw [e] at z; exact absurd z (by decide)
                have lm : (ownB P i D[s]).getLastD 0 ∈ ownB P i D[s] := by
                  rw [List.getLastD_eq_getLast?, List.getLast?_eq_getLast own0]
                  exact List.getLast_mem own0
                obtain ⟨b0, hb0⟩ := List.mem_iff_getElem?.mp (List.mem_filter.mp lm).1
                have llt := de.lt (List.getElem_mem sl) (List.mem_filter.mp lm).1
                obtain ⟨t0, s0, b1, q1, e1, e2, e3, e4⟩ := hpo8 _ llt
                obtain ⟨z1, z2, z3⟩ := de.one qs hb0 e3 e4
                subst z1 z2 z3
                have hpl12 := m12.keep _ _ nplt hpl8
                have e212 := m12.tk _ _ e2
                tm_at "w"
                refine ⟨_, _, _, _, rfl, rfl, SqL.of hO, at_neg1 own0, ?_⟩
                refine ⟨pl, _, rfl, .inl ⟨kvs, .inl _, .inl hpl12, rfl, e1.symm⟩, ?_⟩
                tm_at "w"
                refine ⟨τ, _, rfl, m12.now, by omega, by omega, fun r13 H13 m13 d0 d1 => ?_⟩
                have hE13 := m13.keep _ _ nEt hE12
                have lt : s * wide < es.length := by
                  rw [hlen]
                  exact Nat.mul_lt_mul_of_pos_right sl (by omega)
                tm_at "w"
                refine ⟨_, _, _, s * wide, rfl, rfl, hE13, by rw [← Int.natCast_mul]; exact ixn_nat (by rw [List.length_map]; exact lt), ?_⟩
                refine ⟨_, _, _, rfl, (m12.trans m13).mut nE, es.set (s * wide) (low + step * (b0 : Int) + r13), by rw [upd_same, List.map_set], by rw [List.length_set]; exact hlen, fun z hz => ?_, fun s' q h hq => ?_, fun s' h1 h2 => ?_⟩
                · rcases List.mem_or_eq_of_mem_set hz with hz | hz
                  · exact esb z hz
                  · have bl := (List.getElem?_eq_some_iff.mp hb0).1
                    have hst : step = 1 ∨ step = 2 ∨ step = 3 := by omega
                    rw [hz]
                    rcases hst with e | e | e <;> rw [e] <;> omega
                · by_cases e : s' = s
                  · subst e
                    rw [qs] at hq
                    refine ⟨_, by rw [List.getElem?_set, if_pos rfl, if_pos lt], .inr ⟨b0, ?_, ?_, by omega, ?_⟩⟩
                    · rw [← Option.some.inj hq]
                      exact hb0
                    · rw [← Option.some.inj hq]
                      exact own0
                    · rw [Int.mul_add]
                      omega
                  · obtain ⟨z, hz, he⟩ := hes1 s' q (by omega) hq
                    refine ⟨z, ?_, he⟩
                    rw [List.getElem?_set, if_neg (fun w => e (Nat.eq_of_mul_eq_mul_right (by omega) w).symm)]
                    exact hz
                · obtain ⟨z, hz, he⟩ := hes2 s' (by omega) h2
                  refine ⟨z, ?_, he⟩
                  rw [List.getElem?_set, if_neg (fun w => by have := Nat.eq_of_mul_eq_mul_right (by omega) w; omega)]
                  exact hz
              · have own0 : ownB P i D[s] = [] := List.length_eq_zero_iff.mp (by omega)
                refine ⟨_, _, _, rfl, m12, es, hE12, hlen, esb, fun s' q h hq => ?_, fun s' h1 h2 => hes2 s' (by omega) h2⟩
                by_cases e : s' = s
                · subst e
                  rw [qs] at hq
                  obtain ⟨z, hz, zl⟩ := hes2 s' (Nat.le_refl _) sl
                  exact ⟨z, hz, .inl ⟨by rw [← Option.some.inj hq]; exact own0, zl⟩⟩
                · exact hes1 s' q (by omega) hq
          · rintro σ H10 ⟨u9, u10, u13, rfl, m10, es, hE, hlen, esb, hes1, hes2⟩
            rw [refsV_len] at hes1
            have hfd10 := m10.keep _ _ nfdt hfd
            have hpl10 := m10.keep _ _ nplt hpl8
            obtain ⟨t0, s0, b1, q1, e1, e2, e3, e4⟩ := hpo8 i il
            have e210 := m10.tk _ _ e2
            tm_at "w"
            refine ⟨pl, _, rfl, .inl ⟨kvs, .inl _, .inl hpl10, rfl, e1.symm⟩, ?_⟩
            tm_at "w"
            intro te nte
            have s11 : Same H10 (upd H10 te (.tup (es.map V.int))) := Same.new (Same.refl H10) nte
            tm_at "w"
            intro p1 np1
            have s12 : Same H10 (upd (upd H10 te (.tup (es.map V.int))) p1 (.tup [.ref te])) := Same.new s11 np1
            refine cat_any (s12 _ _ e210) upd_same (by show 2 + 1 ≤ sizeLine; decide) fun p3 H14 s14 hp3 => ?_
            have s104 := Same.trans s12 s14
            have hfd14 := s104 _ _ hfd10
            tm_at "w"
            have hte14 : H14 te = some (.tup (es.map V.int)) := s14 _ _ ((Same.new (o := .tup [V.ref te]) (Same.refl _) np1) _ _ upd_same)
            have m614 : Mv τ H6 H14 := (m8.trans m10).same s104
            have tk : TK H14 (upd H14 fd (.lst (acc ++ [.ref p3]))) := TK.mut hfd14
            have tk8 : TK H8 (upd H14 fd (.lst (acc ++ [.ref p3]))) := TK.trans m10.tk (TK.trans (Same.tk s104) tk)
            have smt : SmT (((s0 * wide : Nat) : Int), low + step * (b1 : Int), es) := by
              have sl := (List.getElem?_eq_some_iff.mp e3).1
              have ql := de.long (List.mem_of_getElem? e3)
              have bl := (List.getElem?_eq_some_iff.mp e4).1
              have sw : s0 * wide ≤ 63 * 2 := Nat.mul_le_mul (by omega) (by omega)
              have hst : step = 1 ∨ step = 2 ∨ step = 3 := by omega
              refine ⟨⟨by show (0 : Int) ≤ ((s0 * wide : Nat) : Int); omega, by show ((s0 * wide : Nat) : Int) ≤ 1000; omega⟩, ?_, by show es.length ≤ 900; omega, esb⟩
              show -1000 ≤ low + step * (b1 : Int) ∧ low + step * (b1 : Int) ≤ 1000
              rcases hst with e | e | e <;> rw [e] <;> omega
            refine ⟨_, _, _, _, _, rfl, m614.mut nfd', acc ++ [.ref p3], upd_same, len_app hal, snoc_at hal (fun j v e => ?_) ⟨(((s0 * wide : Nat) : Int), low + step * (b1 : Int), es), ⟨⟨⟨s0, b1, q1, e3, e4, rfl, rfl⟩, hlen, fun s' q hq => hes1 s' q (List.getElem?_eq_some_iff.mp hq).1 hq⟩, smt⟩, ⟨p3, te, rfl, ?_, tk _ _ hte14⟩⟩⟩
            · obtain ⟨e', h1, h2⟩ := hacc j v e
              exact ⟨e', h1, h2.tk tk8⟩
            · rw [Int.natCast_mul]
              exact tk _ _ hp3
      · rintro σ H8 ⟨u8, u9, u10, u11, u13, rfl, m8, acc, hfd, hal, hacc⟩
        obtain ⟨S, hS, hb⟩ := sch_pick hacc
        have hSl := hS.len
        tm_at "w"
        intro t nt
        refine k t S _ ((m04.trans (m6.trans m8)).new nt) ((hS.tk (TK.new nt)).sch upd_same) (deal_ok hR de (by omega) (by omega) (by omega) (by omega) (by omega) fun x e hx => (hb x e hx).1) fun e he => ?_
        obtain ⟨x, hx⟩ := List.mem_iff_getElem?.mp he
        exact (hb x e hx).2
/-! _law_any_scheme -/
theorem new_hide {H X : Hp} {t : Addr} {o : HO} (s : Same H (upd X t o)) : ∃ H9, upd X t o = H9 ∧ Same H H9 ∧ H9 t = some o := ⟨_, rfl, s, upd_same⟩
theorem alloc_hide {H : Hp} {p : Addr} {o : HO} {R : Hp → Prop} (n : H p = none) (k : ∀ J, Same H J → J p = some o → R J) : R (upd H p o) := k _ (Same.new (Same.refl H) n) upd_same
def TripR (v : V) (H : Hp) : Prop := ∃ e : Tr, Trip H v e ∧ SmT e
theorem TripR.tk {v : V} {H H' : Hp} (h : TripR v H) (k : TK H H') : TripR v H' := by
  obtain ⟨e, h1, h2⟩ := h
  exact ⟨e, h1.tk k, h2⟩
theorem trips_of {H : Hp} : ∀ {acc : List V}, (∀ v ∈ acc, TripR v H) → ∃ S : List Tr, acc.length = S.length ∧ (∀ (i : Nat) (e : Tr), S[i]? = some e → ∃ v, acc[i]? = some v ∧ Trip H v e) ∧ ∀ e ∈ S, SmT e
  | [], _ => ⟨[], rfl, fun i e h => by simp at h, fun e h => by cases h⟩
  | x :: r, h => by
    obtain ⟨e, h1, h2⟩ := h x List.mem_cons_self
    obtain ⟨S, g1, g2, g3⟩ := trips_of fun u hu => h u (List.mem_cons_of_mem _ hu)
    refine ⟨e :: S, by rw [List.length_cons, List.length_cons, g1], fun i d hd => ?_, fun d hd => ?_⟩
    · cases i with
      | zero => exact ⟨x, rfl, by rw [← Option.some.inj hd]; exact h1⟩
      | succ i => exact g2 i d hd
    · rcases List.mem_cons.mp hd with q | q
      · rw [q]; exact h2
      · exact g3 d q
theorem int_list : ∀ {acc : List V}, (∀ v ∈ acc, ∃ i : Int, v = .int i ∧ -1000 ≤ i ∧ i ≤ 1000) → ∃ r : List Int, acc = r.map V.int ∧ ∀ z ∈ r, -1000 ≤ z ∧ z ≤ 1000
  | [], _ => ⟨[], rfl, fun z hz => by cases hz⟩
  | v :: t, h => by
    obtain ⟨i, rfl, hi⟩ := h v List.mem_cons_self
    obtain ⟨r, rfl, hr⟩ := int_list fun u hu => h u (List.mem_cons_of_mem _ hu)
    refine ⟨i :: r, rfl, fun z hz => ?_⟩
    rcases List.mem_cons.mp hz with e | e
    · rw [e]; exact hi
    · exact hr z e
def sp__law_any_scheme (K : PySem.W.Frag) : Sp := fun vs H Q _ => ∃ (τ : Tp) (n : Nat), vs = [.ref τ.t, .int n] ∧ Tape τ H ∧ n ≤ 1000 ∧
  ∀ a S H', Mv τ H H' → SchAt H' a S → S.length = n → (∀ e ∈ S, SmT e) → Q (.ref a) H'
theorem sc__law_any_scheme : FnScope ["_law_hand_here", "_law_many", "_law_found", "_law_kind", "_law_size", "_law_row", "_law_at"] ["_law_hand_here", "_law_many"] (defScope s__law_any_scheme) := ⟨rfl, rfl, rfl, by decide +kernel, rfl, by decide +kernel, by decide +kernel⟩
theorem ok__law_any_scheme (T : Top K mg) : FnOk P w K mg base CX0 2 T.f__law_any_scheme T.fd__law_any_scheme ["_law_hand_here", "_law_many"] (sp__law_any_scheme K) := by
  have G__law_draw := ok__law_draw (P := P) (w := w) (base := base) T
  refine T.F__law_any_scheme.ok sc__law_any_scheme (fun vs H Q E h => ?_) (fun cdv A outer s H vs Q E hr h => ?_)
  · obtain ⟨τ, n, rfl, _⟩ := h
    rfl
  · obtain ⟨τ, n, rfl, m0, hn, k⟩ := h
    refine ⟨_, (pss_cons (ps_set (i := 2) sc__law_any_scheme.nd rfl (Or.inl rfl) (pe_lst pa_nil))
      (pss_cons (ps_for PassesOwn.never rfl (pi_range1 rfl T.z_range (pa_cons (pv 1) pa_nil)) (pg_name (i := 3) sc__law_any_scheme.nd rfl (Or.inl rfl))
      (pss_cons (ps_set (i := 4) sc__law_any_scheme.nd rfl (Or.inl rfl) (pe_call G__law_draw hr (by rfl) T.g__law_draw T.F__law_draw.kp T.b__law_draw .nil pass0 (pa_cons (pv 0) (pa_cons pe_int pa_nil))))
      (pss_cons (ps_set (i := 5) sc__law_any_scheme.nd rfl (Or.inl rfl) (pe_callTy (r := rTupQ K) (T := "tuple") call_tuple_of (by rfl) T.z_tuple (by decide +kernel) (pa_cons (pe_lc (own := [("_law_at", 6)]) (g := gName 6) (tt := tYes) rfl sc__law_any_scheme.nd (pi_range1 rfl T.z_range (pa_cons (pv 4) pa_nil)) (blkOk_by (own := [("_law_at", 6)]) (N := ["_law_hand_here", "_law_many", "_law_found", "_law_kind", "_law_size", "_law_row", "_law_at"]) (sc := defScope s__law_any_scheme) (by decide +kernel)) (fun _ _ _ _ _ => (pg_name (i := 6) sc__law_any_scheme.nd rfl (Or.inl rfl))) (fun _ _ _ _ _ => pts_nil) (fun _ _ _ _ _ => (pe_op op_sub (pe_call G__law_draw hr (by rfl) T.g__law_draw T.F__law_draw.kp T.b__law_draw .nil pass0 (pa_cons (pv 0) (pa_cons pe_int pa_nil))) pe_int))) pa_nil)))
      (pss_one (ps_expr (pe_bm PySem.F.plainAttrs_list PySem.F.slot_list_append PySem.F.type_list_append mt_append (pv 2) (pa_cons (pe_tup (pa_cons (pe_call G__law_draw hr (by rfl) T.g__law_draw T.F__law_draw.kp T.b__law_draw .nil pass0 (pa_cons (pv 0) (pa_cons pe_int pa_nil))) (pa_cons (pe_op op_sub (pe_call G__law_draw hr (by rfl) T.g__law_draw T.F__law_draw.kp T.b__law_draw .nil pass0 (pa_cons (pv 0) (pa_cons pe_int pa_nil))) pe_int) (pa_cons (pv 5) pa_nil)))) pa_nil)))))))
      (pss_one (ps_ret (pe_callTy (r := rTupQ K) (T := "tuple") call_tuple_of (by rfl) T.z_tuple (by decide +kernel) (pa_cons (pv 2) pa_nil)))))), ?_⟩
    tm_at "w"
    intro F nF
    have nFt := m0.mv.neN nF
    tm_at "w"
    refine for_range (lo := 0) (n := (n : Int).toNat) (fun i σ H' => ∃ v3 v4 v5 v6, σ = [some (.ref τ.t), some (.int (n : Int)), some (.ref F), v3, v4, v5, v6] ∧ Mv τ H H' ∧ ∃ acc, H' F = some (.lst acc) ∧ acc.length = i ∧ ∀ v ∈ acc, TripR v H') ?_ ?_ ?_
    · exact ⟨none, none, none, none, rfl, m0.mv.new nF, [], upd_same, rfl, fun v h => by cases h⟩
    · rintro i σ H1 hi ⟨v3, v4, v5, v6, rfl, m1, acc, hF1, hacc, hR1⟩
      tm_at "w"
      refine ⟨τ, _, rfl, m1.now, by decide, by decide, fun sz H2 m2 g0 g1 => ?_⟩
      tm_at "w"
      intro D nD
      refine lc_rangeM (τ := τ) (fun _ v _ => ∃ z : Int, v = .int z ∧ -1000 ≤ z ∧ z ≤ 1000) (fun _ _ _ _ h _ => h) m2.now nD (by omega) ?_ ?_
      · intro j H3 N M hj m3 kN
        tm_at "w"
        refine ⟨τ, _, rfl, m3.now, by decide, by decide, fun r H4 m4 z0 z1 => ?_⟩
        tm_at "w"
        exact kN _ _ m4 ⟨_, rfl, by omega, by omega⟩
      · intro H3 ac3 m3 hD hlen hR3
        obtain ⟨row, rfl, hrow⟩ := int_list fun v hv => by
          obtain ⟨j, hj, e⟩ := List.mem_iff_getElem.mp hv
          exact hR3 j v (by rw [List.getElem?_eq_getElem hj, e])
        rw [List.length_map] at hlen
        tm_at "w"
        intro q nq
        obtain ⟨H4, e4, s4, hq⟩ := new_hide (Same.new (o := .tup (row.map V.int)) (Same.refl H3) nq)
        rw [e4]
        have m14 := ((m2.trans m3).same s4)
        tm_at "w"
        refine ⟨τ, _, rfl, m14.now, by decide, by decide, fun r1 H5 m5 a0 a1 => ?_⟩
        tm_at "w"
        refine ⟨τ, _, rfl, m5.now, by decide, by decide, fun r2 H6 m6 b0 b1 => ?_⟩
        have m16 := (m14.trans m5).trans m6
        have hq6 := (m5.trans m6).atT hq
        have hF6 := m16.keep _ _ nFt hF1
        tm_at "w"
        intro p np
        have dp := m16.neN np
        show tNil _ (upd H6 p (.tup [.int r1, .int (r2 - 3), .ref q])) _
        obtain ⟨H7, e7, s7, hp⟩ := new_hide (Same.new (o := .tup [.int r1, .int (r2 - 3), .ref q]) (Same.refl H6) np)
        rw [e7]
        have m17 := m16.same s7
        have hF7 := s7 _ _ hF6
        have hq7 := s7 _ _ hq6
        have k17 : TK H1 H7 := m17.tk
        have kF : TK H7 (upd H7 F (.lst (acc ++ [.ref p]))) := TK.mut hF7
        tm_at "w"
        refine ⟨_, _, _, _, rfl, (m1.trans m17).mut nF, acc ++ [.ref p], upd_same, by rw [List.length_append, hacc]; rfl, fun v hv => ?_⟩
        rcases List.mem_append.mp hv with hv | hv
        · exact ((hR1 v hv).tk k17).tk kF
        · rw [List.mem_singleton.mp hv]
          exact ⟨(r1, r2 - 3, row), ⟨p, q, rfl, kF _ _ hp, kF _ _ hq7⟩, ⟨⟨a0, by show r1 ≤ 1000; omega⟩, ⟨by show -1000 ≤ r2 - 3; omega, by show r2 - 3 ≤ 1000; omega⟩, by show row.length ≤ 900; omega, hrow⟩⟩
    · rintro σ H1 ⟨v3, v4, v5, v6, rfl, m1, acc, hF1, hacc, hR1⟩
      rw [Int.toNat_natCast] at hacc
      obtain ⟨S, g1, g2, g3⟩ := trips_of hR1
      tm_at "w"
      intro t nt
      exact k t S _ (m1.new nt) ⟨acc, upd_same, g1, fun i e h => by
        obtain ⟨v, h1, h2⟩ := g2 i e h
        exact ⟨v, h1, h2.tk (TK.new nt)⟩⟩ (by omega) g3
/-! _law_said -/
def sp__law_said (K : PySem.W.Frag) : Sp := fun vs H Q _ => ∃ (a : Addr) (S : List Tr) (x p : Nat) (ex ep : Tr), vs = [.ref a, .int x, .int p] ∧ SchAt H a S ∧ S[x]? = some ex ∧ S[p]? = some ep ∧ 0 ≤ ep.1 ∧ Q (.bl (saysB ex ep)) H
theorem sc__law_said : FnScope ["_law_scheme", "_law_x", "_law_p", "_law_entries", "_law_slot", "_law_number", "_law_row"] ["_law_scheme", "_law_x", "_law_p"] (defScope s__law_said) := ⟨rfl, rfl, rfl, by decide +kernel, rfl, by decide +kernel, by decide +kernel⟩
theorem ok__law_said (T : Top K mg) : FnOk P w K mg base CX0 1 T.f__law_said T.fd__law_said ["_law_scheme", "_law_x", "_law_p"] (sp__law_said K) := by
  refine T.F__law_said.ok sc__law_said (fun vs H Q E h => ?_) (fun cdv A outer s H vs Q E hr h => ?_)
  · obtain ⟨a, S, x, p, ex, ep, rfl, _⟩ := h
    rfl
  · obtain ⟨a, S, x, p, ⟨s1, n1, r1⟩, ⟨s2, n2, r2⟩, rfl, hS, hx, hp, h0, k⟩ := h
    obtain ⟨vs, px, qx, ha, hl, hvx, hpx, hqx⟩ := hS.at hx
    obtain ⟨vs', pp, qp, ha', hl', hvp, hpp, hqp⟩ := hS.at hp
    have ev : vs = vs' := HO.tup.inj (Option.some.inj (ha.symm.trans ha'))
    subst ev
    refine ⟨_, (pss_cons (ps_asg (pe_ix (r := rIxT K) ix_tup (pv 0) (pv 2) (fun _ _ => rfl)) (pg_tup rfl (pgs_cons (pg_name (i := 4) sc__law_said.nd rfl (Or.inl rfl)) (pgs_cons (pg_name (i := 5) sc__law_said.nd rfl (Or.inl rfl)) (pgs_cons (pg_name (i := 6) sc__law_said.nd rfl (Or.inl rfl)) pgs_nil)))))
      (pss_cons (ps_set (i := 3) sc__law_said.nd rfl (Or.inl rfl) (pe_ix (r := rIxT K) ix_tup (pe_ix (r := rIxT K) ix_tup (pv 0) (pv 1) (fun _ _ => rfl)) pe_int (fun _ _ => rfl)))
      (pss_one (ps_ret (pe_and (pe_cmpR op_lt (pv 4) (pe_callB (r := rLenQ K) (id := "len") call_len_seq (by rfl) T.z_len (by decide +kernel) (pa_cons (pv 3) pa_nil)) (nomark _)) (pe_one (pe_cmpR op_ge (pe_ix (r := rIxT K) ix_tup (pv 3) (pv 4) (fun _ _ => rfl)) (pv 5) (nomark _)))))))), ?_⟩
    tm_at "w"
    refine iteD (fun h1 => ?_) (fun h1 => ?_)
    · rw [List.length_map] at h1
      tm_at "w"
      refine ⟨_, _, _, _, rfl, rfl, by tm_at "sqt", at_map h0 h1, ?_⟩
      tm_at "w"
      have e : saysB (s1, n1, r1) (s2, n2, r2) = decide (n2 ≤ r1.getD s2.toNat 0) := by
        show (decide (s2 < (r1.length : Int)) && decide (n2 ≤ r1.getD s2.toNat 0)) = _
        rw [decide_eq_true h1, Bool.true_and]
      rw [e] at k
      exact k
    · rw [List.length_map] at h1
      have e : saysB (s1, n1, r1) (s2, n2, r2) = false := by
        show (decide (s2 < (r1.length : Int)) && decide (n2 ≤ r1.getD s2.toNat 0)) = _
        rw [decide_eq_false h1, Bool.false_and]
      rw [e] at k
      exact k
/-! _law_bent -/
theorem take_list {xs : List V} {k : Nat} (h : k ≤ xs.length) : cutV xs none (some (k : Int)) = xs.take k := by
  unfold cutV
  rw [show HT.sIx xs.length 0 none = 0 from rfl, HT.sIx_nat, List.drop_zero]
  congr 1
  omega
theorem drop_list {xs : List V} {k : Nat} (h : k ≤ xs.length) : cutV xs (some (k : Int)) none = xs.drop k := by
  unfold cutV
  rw [show HT.sIx xs.length xs.length none = xs.length from rfl, HT.sIx_nat, show min k xs.length = k by omega]
  exact List.take_of_length_le (by rw [List.length_drop]; omega)
/-- a triple with numbers that can be shown -/
structure MidT (e : Tr) : Prop where
  slot : 0 ≤ e.1 ∧ e.1 ≤ 1000
  num : e.2.1.natAbs ≤ 10 ^ 60
  len : e.2.2.length ≤ 901
  ent : ∀ z ∈ e.2.2, z.natAbs ≤ 10 ^ 60
theorem SmT.mid {e : Tr} (h : SmT e) : MidT e := ⟨h.slot, by have := h.num; omega, by have := h.len; omega, fun z hz => by have := h.ent z hz; omega⟩
theorem at_in {L : List V} {r : Int} (h0 : 0 ≤ r) (h1 : r < (L.length : Int)) : ∃ v, atI L r = some v ∧ v ∈ L := by
  obtain ⟨j, rfl⟩ : ∃ j : Nat, r = j := ⟨r.toNat, by omega⟩
  have jl : j < L.length := by omega
  exact ⟨L[j], atI_nat (List.getElem?_eq_getElem jl), List.getElem_mem jl⟩
theorem drop_ex {K : PySem.W.Frag} {H : Hp} {a : Addr} {xs : List V} {m : Nat} {Q : VK} (hx : H a = some (.tup xs)) (hm : m ≤ xs.length)
    (k : ∀ p H', Same H H' → H' p = some (.tup (xs.drop m)) → Q (.ref p) H') : rSlA K (.ref a) (some (m : Int)) none H Q := by
  refine ⟨a, xs, rfl, SqT.of hx, fun e => ?_, fun _ p np => ?_⟩
  · rw [HT.sIx_nat] at e
    refine k a H (Same.refl H) ?_
    by_cases g : m = 0
    · rw [g, List.drop_zero]; exact hx
    · have : xs.length = 0 := by omega
      omega
  · rw [drop_list hm]
    exact k p _ (Same.new (Same.refl H) np) upd_same
theorem slice_in {K : PySem.W.Frag} {H : Hp} {a : Addr} {xs : List V} {lo hi : Option Int} {Q : VK} (hx : H a = some (.tup xs))
    (k : ∀ p ys H', Same H H' → H' p = some (.tup ys) → (∀ y ∈ ys, y ∈ xs) → ys.length ≤ xs.length → Q (.ref p) H') : rSlA K (.ref a) lo hi H Q := by
  refine ⟨a, xs, rfl, SqT.of hx, fun _ => k a xs H (Same.refl H) hx (fun y h => h) (Nat.le_refl _), fun _ p np => ?_⟩
  refine k p (cutV xs lo hi) _ (Same.new (Same.refl H) np) upd_same (fun y hy => ?_) (cutV_length xs lo hi)
  unfold cutV at hy
  exact List.mem_of_mem_drop (List.mem_of_mem_take hy)
def sp__law_bent (K : PySem.W.Frag) : Sp := fun vs H Q _ => ∃ (τ : Tp) (a : Addr) (S : List Tr), vs = [.ref τ.t, .ref a] ∧ Tape τ H ∧ SchAt H a S ∧ (∀ e ∈ S, SmT e) ∧ 0 < S.length ∧ S.length ≤ 63 ∧ ∀ t S' H', Mv τ H H' → SchAt H' t S' → S'.length = S.length → (∀ e ∈ S', MidT e) → Q (.ref t) H'
theorem sc__law_bent : FnScope ["_law_hand_here", "_law_scheme", "_law_at", "_law_great", "_law_place", "_law_slot", "_law_number", "_law_row"] ["_law_hand_here", "_law_scheme"] (defScope s__law_bent) := ⟨rfl, rfl, rfl, by decide +kernel, rfl, by decide +kernel, by decide +kernel⟩
theorem ok__law_bent (T : Top K mg) : FnOk P w K mg base CX0 2 T.f__law_bent T.fd__law_bent ["_law_hand_here", "_law_scheme"] (sp__law_bent K) := by
  have G__law_draw := ok__law_draw (P := P) (w := w) (base := base) T
  refine T.F__law_bent.ok sc__law_bent (fun vs H Q E h => ?_) (fun cdv A outer s H vs Q E hr h => ?_)
  · obtain ⟨τ, a, S, rfl, _⟩ := h
    rfl
  · obtain ⟨τ, a, S, rfl, m0, hS, hB, S0, S63, k⟩ := h
    refine ⟨_, (pss_cons (ps_set (i := 2) sc__law_bent.nd rfl (Or.inl rfl) (pe_call G__law_draw hr (by rfl) T.g__law_draw T.F__law_draw.kp T.b__law_draw .nil pass0 (pa_cons (pv 0) (pa_cons (pe_callB (r := rLenQ K) (id := "len") call_len_seq (by rfl) T.z_len (by decide +kernel) (pa_cons (pv 1) pa_nil)) pa_nil))))
      (pss_cons (ps_asg (pe_ix (r := rIxT K) ix_tup (pv 1) (pv 2) (fun _ _ => rfl)) (pg_tup rfl (pgs_cons (pg_name (i := 5) sc__law_bent.nd rfl (Or.inl rfl)) (pgs_cons (pg_name (i := 6) sc__law_bent.nd rfl (Or.inl rfl)) (pgs_cons (pg_name (i := 7) sc__law_bent.nd rfl (Or.inl rfl)) pgs_nil)))))
      (pss_cons (ps_set (i := 3) sc__law_bent.nd rfl (Or.inl rfl) (pe_ix (r := rIxL K) ix_list (pe_lst (pa_cons (pe_op op_sub (pe_call G__law_draw hr (by rfl) T.g__law_draw T.F__law_draw.kp T.b__law_draw .nil pass0 (pa_cons (pv 0) (pa_cons pe_int pa_nil))) pe_int) (pa_cons (pe_op op_pow pe_int pe_int) (pa_cons (pe_un un_neg (pe_op op_pow pe_int pe_int)) pa_nil)))) (pe_call G__law_draw hr (by rfl) T.g__law_draw T.F__law_draw.kp T.b__law_draw .nil pass0 (pa_cons (pv 0) (pa_cons pe_int pa_nil))) (fun _ _ => rfl)))
      (pss_cons (ps_if (PW.pt (pw_or (pt_cmpR op_eq (pe_callB (r := rLenQ K) (id := "len") call_len_seq (by rfl) T.z_len (by decide +kernel) (pa_cons (pv 7) pa_nil)) pe_int (nomark _)) (pw_or1 (pt_cmpR op_eq (pe_call G__law_draw hr (by rfl) T.g__law_draw T.F__law_draw.kp T.b__law_draw .nil pass0 (pa_cons (pv 0) (pa_cons pe_int pa_nil))) pe_int (nomark _))))) (pss_one (ps_ret (pe_op op_catA (pe_op op_catA (pe_slice sl_tupA (pv 1) po_none (po_some (pv 2))) (pe_tup (pa_cons (pe_tup (pa_cons (pv 5) (pa_cons (pv 3) (pa_cons (pv 7) pa_nil)))) pa_nil))) (pe_slice sl_tupA (pv 1) (po_some (pe_op op_add (pv 2) pe_int)) po_none)))) pss_nil)
      (pss_cons (ps_set (i := 4) sc__law_bent.nd rfl (Or.inl rfl) (pe_call G__law_draw hr (by rfl) T.g__law_draw T.F__law_draw.kp T.b__law_draw .nil pass0 (pa_cons (pv 0) (pa_cons (pe_callB (r := rLenQ K) (id := "len") call_len_seq (by rfl) T.z_len (by decide +kernel) (pa_cons (pv 7) pa_nil)) pa_nil))))
      (pss_one (ps_ret (pe_op op_catA (pe_op op_catA (pe_slice sl_tupA (pv 1) po_none (po_some (pv 2))) (pe_tup (pa_cons (pe_tup (pa_cons (pv 5) (pa_cons (pv 6) (pa_cons (pe_op op_catA (pe_op op_catA (pe_slice sl_tupA (pv 7) po_none (po_some (pv 4))) (pe_tup (pa_cons (pv 3) pa_nil))) (pe_slice sl_tupA (pv 7) (po_some (pe_op op_add (pv 4) pe_int)) po_none)) pa_nil)))) pa_nil))) (pe_slice sl_tupA (pv 1) (po_some (pe_op op_add (pv 2) pe_int)) po_none))))))))), ?_⟩
    obtain ⟨xs, ha, lxs, hit⟩ := id hS
    tm_at "w"
    refine ⟨τ, _, rfl, m0, by omega, by omega, fun at0 H1 m1 g0 g1 => ?_⟩
    obtain ⟨at0, rfl⟩ : ∃ k : Nat, at0 = k := ⟨at0.toNat, by omega⟩
    have hx0 := List.getElem?_eq_getElem (show at0 < xs.length by omega)
    have hS0 := List.getElem?_eq_getElem (show at0 < S.length by omega)
    obtain ⟨vv, hvv, bp, q, evv, hb, hq⟩ := hit _ _ hS0
    subst evv
    have sm := hB _ (List.mem_of_getElem? hS0)
    revert hb hq sm
    generalize S[at0]'(by omega) = e
    obtain ⟨es, en, er⟩ := e
    intro hb hq sm
    have old : ∀ {H' : Hp} v, v ∈ xs → TK H H' → ∃ e, MidT e ∧ Trip H' v e := fun {H'} v hv tk => by
      obtain ⟨j, hj, rfl⟩ := List.mem_iff_getElem.mp hv
      have js : j < S.length := by omega
      obtain ⟨u, h1, h2⟩ := hit j _ (List.getElem?_eq_getElem js)
      rw [List.getElem?_eq_getElem hj] at h1
      rw [Option.some.inj h1]
      exact ⟨_, (hB _ (List.getElem_mem js)).mid, h2.tk tk⟩
    have ha1 := m1.atT ha
    have hb1 := m1.atT hb
    have hq1 := m1.atT hq
    have ev := atI_nat hvv
    tm_at "w"
    refine ⟨τ, _, rfl, m1.now, by decide, by decide, fun r2 H2 m2 b0 b1 => ?_⟩
    tm_at "w"
    intro gl ngl
    obtain ⟨H3, e3, s3, hgl⟩ := new_hide (Same.new (o := .lst [.int (r2 - 4), .int ((10 : Int) ^ (60 : Int).toNat), .int (-((10 : Int) ^ (60 : Int).toNat))]) (Same.refl H2) ngl)
    rw [e3]
    have m3 := m2.same s3
    have dgl := m2.neN ngl
    tm_at "w"
    refine ⟨τ, _, rfl, m3.now, by decide, by decide, fun r3 H4 m4 c0 c1 => ?_⟩
    have hgl4 := m4.keep _ _ dgl hgl
    obtain ⟨vi, evi, hvi⟩ := at_in c0 (show r3 < (([.int (r2 - 4), .int ((10 : Int) ^ (60 : Int).toNat), .int (-((10 : Int) ^ (60 : Int).toNat))] : List V).length : Int) from c1)
    obtain ⟨g, rfl, hg⟩ : ∃ g : Int, vi = .int g ∧ g.natAbs ≤ 10 ^ 60 := by
      have e6 : (10 : Int) ^ (60 : Int).toNat = ((10 ^ 60 : Nat) : Int) := by decide +kernel
      have z6 : 1000 ≤ 10 ^ 60 := by decide +kernel
      simp only [List.mem_cons, List.not_mem_nil, or_false] at hvi
      rcases hvi with h | h | h
      · exact ⟨_, h, by omega⟩
      · exact ⟨_, h, by rw [e6]; omega⟩
      · exact ⟨_, h, by rw [e6]; omega⟩
    refine ⟨_, _, _, _, rfl, rfl, SqL.of hgl4, evi, ?_⟩
    have m04 := m1.trans (m3.trans m4)
    have ha4 := m04.atT ha
    have hq4 := m04.atT hq
    have er9 := sm.len
    have er9 : er.length ≤ 900 := er9
    have hq4 : H4 q = some (.tup (er.map V.int)) := hq4
    have smm := sm.mid
    tm_at "w"
    by_cases z : er.length = 0
    · refine iteET (by rw [List.length_map, z]; rfl) ?_
      refine iteT ?_
      have mid : MidT (es, g, er) := ⟨smm.slot, hg, smm.len, smm.ent⟩
      try unfold tNoPart
      tm_at "w"
      refine slice_any (m := at0) ha4 (by omega) fun pa J1 s1 hpa => ?_
      tm_at "w"
      intro bt nbt
      show tNil _ (upd J1 bt (.tup [.int es, .int g, .ref q])) _
      obtain ⟨J2, e2, s2, hbt⟩ := new_hide (Same.new (o := .tup [.int es, .int g, .ref q]) (Same.refl J1) nbt)
      rw [e2]
      have sC := Same.trans s1 s2
      have ha2 := sC _ _ ha4
      have hqq := sC _ _ hq4
      have hpa2 := s2 _ _ hpa
      have mm2 := m04.same sC
      tm_at "w"
      intro ot nnot
      obtain ⟨J3, e3, s3, hot⟩ := new_hide (Same.new (o := .tup [.ref bt]) (Same.refl J2) nnot)
      rw [e3]
      refine cat_any (s3 _ _ hpa2) hot (Nat.le_trans (show _ ≤ 1000 by rw [List.length_take]; show min at0 xs.length + 1 ≤ 1000; omega) (by decide)) fun pc J4 s4 hpc => ?_
      have sA := Same.trans s3 s4
      try unfold tNoPart
      tm_at "w"
      refine drop_ex (m := at0 + 1) (sA _ _ ha2) (by omega) fun pd J5 s5 hpd => ?_
      refine cat_any (s5 _ _ hpc) hpd (Nat.le_trans (show _ ≤ 1000 by rw [List.length_append, List.length_take, List.length_drop]; show min at0 xs.length + 1 + (xs.length - (at0 + 1)) ≤ 1000; omega) (by decide)) fun pe J6 s6 hpe => ?_
      have sB := Same.trans (Same.trans sA s5) s6
      have mB := mm2.same sB
      have htrip : Trip J6 (.ref bt) (es, g, er) := ⟨bt, _, rfl, sB _ _ hbt, sB _ _ hqq⟩
      obtain ⟨S', hS', hb'⟩ := sch_pick (R := fun _ e => MidT e) (acc := xs.take at0 ++ [.ref bt] ++ xs.drop (at0 + 1)) (H := J6) fun j v hv => by
        rcases List.mem_append.mp (List.mem_of_getElem? hv) with hv | hv
        · rcases List.mem_append.mp hv with hv | hv
          · exact old v (List.mem_of_mem_take hv) mB.tk
          · rw [List.mem_singleton.mp hv]
            exact ⟨_, mid, htrip⟩
        · exact old v (List.mem_of_mem_drop hv) mB.tk
      refine k pe S' _ mB ⟨_, hpe, hS'.len, hS'.item⟩ ?_ fun e he => ?_
      · rw [← hS'.len, List.length_append, List.length_append, List.length_take, List.length_drop]
        show min at0 xs.length + 1 + (xs.length - (at0 + 1)) = S.length
        omega
      · obtain ⟨x, hx⟩ := List.mem_iff_getElem?.mp he
        exact hb' x e hx
    · refine iteEF (by rw [List.length_map, decide_eq_false (fun e => z (by have := V.int.inj e; omega))]) ?_
      tm_at "w"
      refine ⟨τ, _, rfl, m04.now, by decide, by decide, fun r5 H5 m5 d0 d1 => ?_⟩
      have m05 := m04.trans m5
      have ha5 := m05.atT ha
      have hq5 := m5.atT hq4
      tm_at "w"
      by_cases z2 : r5 = 0
      · refine iteET (by rw [z2]; rfl) ?_
        have mid : MidT (es, g, er) := ⟨smm.slot, hg, smm.len, smm.ent⟩
        try unfold tNoPart
        tm_at "w"
        refine slice_any (m := at0) ha5 (by omega) fun pa J1 s1 hpa => ?_
        tm_at "w"
        intro bt nbt
        show tNil _ (upd J1 bt (.tup [.int es, .int g, .ref q])) _
        obtain ⟨J2, e2, s2, hbt⟩ := new_hide (Same.new (o := .tup [.int es, .int g, .ref q]) (Same.refl J1) nbt)
        rw [e2]
        have sC := Same.trans s1 s2
        have ha2 := sC _ _ ha5
        have hqq := sC _ _ hq5
        have hpa2 := s2 _ _ hpa
        have mm2 := m05.same sC
        tm_at "w"
        intro ot nnot
        obtain ⟨J3, e3, s3, hot⟩ := new_hide (Same.new (o := .tup [.ref bt]) (Same.refl J2) nnot)
        rw [e3]
        refine cat_any (s3 _ _ hpa2) hot (Nat.le_trans (show _ ≤ 1000 by rw [List.length_take]; show min at0 xs.length + 1 ≤ 1000; omega) (by decide)) fun pc J4 s4 hpc => ?_
        have sA := Same.trans s3 s4
        try unfold tNoPart
        tm_at "w"
        refine drop_ex (m := at0 + 1) (sA _ _ ha2) (by omega) fun pd J5 s5 hpd => ?_
        refine cat_any (s5 _ _ hpc) hpd (Nat.le_trans (show _ ≤ 1000 by rw [List.length_append, List.length_take, List.length_drop]; show min at0 xs.length + 1 + (xs.length - (at0 + 1)) ≤ 1000; omega) (by decide)) fun pe J6 s6 hpe => ?_
        have sB := Same.trans (Same.trans sA s5) s6
        have mB := mm2.same sB
        have htrip : Trip J6 (.ref bt) (es, g, er) := ⟨bt, _, rfl, sB _ _ hbt, sB _ _ hqq⟩
        obtain ⟨S', hS', hb'⟩ := sch_pick (R := fun _ e => MidT e) (acc := xs.take at0 ++ [.ref bt] ++ xs.drop (at0 + 1)) (H := J6) fun j v hv => by
          rcases List.mem_append.mp (List.mem_of_getElem? hv) with hv | hv
          · rcases List.mem_append.mp hv with hv | hv
            · exact old v (List.mem_of_mem_take hv) mB.tk
            · rw [List.mem_singleton.mp hv]
              exact ⟨_, mid, htrip⟩
          · exact old v (List.mem_of_mem_drop hv) mB.tk
        refine k pe S' _ mB ⟨_, hpe, hS'.len, hS'.item⟩ ?_ fun e he => ?_
        · rw [← hS'.len, List.length_append, List.length_append, List.length_take, List.length_drop]
          show min at0 xs.length + 1 + (xs.length - (at0 + 1)) = S.length
          omega
        · obtain ⟨x, hx⟩ := List.mem_iff_getElem?.mp he
          exact hb' x e hx
      · refine iteEF (by rw [decide_eq_false (fun e => z2 (V.int.inj e))]) ?_
        tm_at "w"
        refine ⟨τ, _, rfl, m05.now, by rw [List.length_map]; omega, by rw [List.length_map]; omega, fun pl H6 m6 p0 p1 => ?_⟩
        rw [List.length_map] at p1
        obtain ⟨pl, rfl⟩ : ∃ k : Nat, pl = k := ⟨pl.toNat, by omega⟩
        have m06 := m05.trans m6
        have ha6 := m06.atT ha
        have hq6 := m6.atT hq5
        tm_at "w"
        have smd := sm.mid
        have plr : pl < er.length := by omega
        have mid : MidT (es, en, er.take pl ++ [g] ++ er.drop (pl + 1)) := by
          refine ⟨smm.slot, smm.num, ?_, fun z hz => ?_⟩
          · show (er.take pl ++ [g] ++ er.drop (pl + 1)).length ≤ 901
            rw [List.length_append, List.length_append, List.length_take, List.length_drop]
            show min pl er.length + 1 + (er.length - (pl + 1)) ≤ 901
            omega
          · have hz : z ∈ er.take pl ++ [g] ++ er.drop (pl + 1) := hz
            rcases List.mem_append.mp hz with hz | hz
            · rcases List.mem_append.mp hz with hz | hz
              · exact smm.ent z (List.mem_of_mem_take hz)
              · rw [List.mem_singleton.mp hz]; exact hg
            · exact smm.ent z (List.mem_of_mem_drop hz)
        try unfold tNoPart
        tm_at "w"
        refine slice_any (m := at0) ha6 (by omega) fun pa J1 s1 hpa => ?_
        tm_at "w"
        refine slice_any (m := pl) (s1 _ _ hq6) (by rw [List.length_map]; omega) fun pr J2 s2 hpr => ?_
        tm_at "w"
        intro gt ngt
        obtain ⟨J3, e3, s3, hgt⟩ := new_hide (Same.new (o := .tup [.int g]) (Same.refl J2) ngt)
        rw [e3]
        refine cat_any (s3 _ _ hpr) hgt (Nat.le_trans (show _ ≤ 1000 by rw [List.length_take, List.length_map]; show min pl er.length + 1 ≤ 1000; omega) (by decide)) fun pv J4 s4 hpv => ?_
        have sC := Same.trans (Same.trans (Same.trans s1 s2) s3) s4
        try unfold tNoPart
        tm_at "w"
        refine drop_ex (m := pl + 1) (sC _ _ hq6) (by rw [List.length_map]; omega) fun pw J5 s5 hpw => ?_
        refine cat_any (s5 _ _ hpv) hpw (Nat.le_trans (show _ ≤ 1000 by rw [List.length_append, List.length_take, List.length_drop, List.length_map]; show min pl er.length + 1 + (er.length - (pl + 1)) ≤ 1000; omega) (by decide)) fun pz J6 s6 hpz => ?_
        have hpz : J6 pz = some (.tup ((er.take pl ++ [g] ++ er.drop (pl + 1)).map V.int)) := by
          rw [hpz, List.map_append, List.map_append, List.map_take, List.map_drop]
          rfl
        tm_at "w"
        intro bt nbt
        show tNil _ (upd J6 bt (.tup [.int es, .int en, .ref pz])) _
        obtain ⟨J7, e7, s7, hbt⟩ := new_hide (Same.new (o := .tup [.int es, .int en, .ref pz]) (Same.refl J6) nbt)
        rw [e7]
        have s27 := Same.trans (Same.trans (Same.trans (Same.trans (Same.trans s2 s3) s4) s5) s6) s7
        have sD := Same.trans s1 s27
        have ha7 := sD _ _ ha6
        have hqq := s7 _ _ hpz
        have hpa7 := s27 _ _ hpa
        have mm7 := m06.same sD
        tm_at "w"
        intro ot nnot
        obtain ⟨J8, e8, s8, hot⟩ := new_hide (Same.new (o := .tup [.ref bt]) (Same.refl J7) nnot)
        rw [e8]
        refine cat_any (s8 _ _ hpa7) hot (Nat.le_trans (show _ ≤ 1000 by rw [List.length_take]; show min at0 xs.length + 1 ≤ 1000; omega) (by decide)) fun pc J9 s9 hpc => ?_
        have sA := Same.trans s8 s9
        try unfold tNoPart
        tm_at "w"
        refine drop_ex (m := at0 + 1) (sA _ _ ha7) (by omega) fun pd J10 s10 hpd => ?_
        refine cat_any (s10 _ _ hpc) hpd (Nat.le_trans (show _ ≤ 1000 by rw [List.length_append, List.length_take, List.length_drop]; show min at0 xs.length + 1 + (xs.length - (at0 + 1)) ≤ 1000; omega) (by decide)) fun pe J11 s11 hpe => ?_
        have sB := Same.trans (Same.trans sA s10) s11
        have mB := mm7.same sB
        have htrip : Trip J11 (.ref bt) (es, en, er.take pl ++ [g] ++ er.drop (pl + 1)) := ⟨bt, _, rfl, sB _ _ hbt, sB _ _ hqq⟩
        obtain ⟨S', hS', hb'⟩ := sch_pick (R := fun _ e => MidT e) (acc := xs.take at0 ++ [.ref bt] ++ xs.drop (at0 + 1)) (H := J11) fun j v hv => by
          rcases List.mem_append.mp (List.mem_of_getElem? hv) with hv | hv
          · rcases List.mem_append.mp hv with hv | hv
            · exact old v (List.mem_of_mem_take hv) mB.tk
            · rw [List.mem_singleton.mp hv]
              exact ⟨_, mid, htrip⟩
          · exact old v (List.mem_of_mem_drop hv) mB.tk
        refine k pe S' _ mB ⟨_, hpe, hS'.len, hS'.item⟩ ?_ fun e he => ?_
        · rw [← hS'.len, List.length_append, List.length_append, List.length_take, List.length_drop]
          show min at0 xs.length + 1 + (xs.length - (at0 + 1)) = S.length
          omega
        · obtain ⟨x, hx⟩ := List.mem_iff_getElem?.mp he
          exact hb' x e hx
/-! law -/
def natsD (p : List Nat) : List PyData := p.map fun q : Nat => PyData.int (q : Int)
def rowsD (P : List (List Nat)) : List PyData := P.map fun p => PyData.tuple (natsD p)
theorem nats_lay : ∀ q : List Nat, PyData.canLayAll0 (natsD q) = true
  | [] => rfl
  | n :: r => by
    show (PyData.canLay0 (.int (n : Int)) && PyData.canLayAll0 (natsD r)) = true
    rw [nats_lay r]
    rfl
theorem rows_lay : ∀ P : List (List Nat), PyData.canLayAll0 (rowsD P) = true
  | [] => rfl
  | q :: r => by
    show (PyData.canLay0 (.tuple (natsD q)) && PyData.canLayAll0 (rowsD r)) = true
    rw [rows_lay r]
    show (PyData.canLayAll0 (natsD q) && true) = true
    rw [nats_lay]
    rfl
theorem nats_deep : ∀ q : List Nat, PyData.depthAll (natsD q) ≤ 1
  | [] => by simp [natsD, PyData.depthAll]
  | n :: r => by
    have ih := nats_deep r
    show PyData.depthAll (PyData.int (n : Int) :: natsD r) ≤ 1
    simp only [PyData.depthAll, PyData.depth]
    omega
theorem rows_deep : ∀ P : List (List Nat), PyData.depthAll (rowsD P) ≤ 2
  | [] => by simp [rowsD, PyData.depthAll]
  | q :: r => by
    have ih := rows_deep r
    have iq := nats_deep q
    show PyData.depthAll (PyData.tuple (natsD q) :: rowsD r) ≤ 2
    simp only [PyData.depthAll, PyData.depth]
    omega
theorem nats_shaped (q : List Nat) : SeqAt.shaped (.tuple (natsD q)) = true := by
  have iq := nats_deep q
  have h2 : PyData.depth (.tuple (natsD q)) ≤ 64 := by
    simp only [PyData.depth]
    omega
  exact Bool.and_eq_true_iff.mpr ⟨nats_lay q, decide_eq_true h2⟩
theorem rows_shaped (P : List (List Nat)) : SeqAt.shaped (.tuple (rowsD P)) = true := by
  have iq := rows_deep P
  have h2 : PyData.depth (.tuple (rowsD P)) ≤ 64 := by
    simp only [PyData.depth]
    omega
  exact Bool.and_eq_true_iff.mpr ⟨rows_lay P, decide_eq_true h2⟩
theorem rows_refl (P : List (List Nat)) : PyData.eqv (.tuple (rowsD P)) (.tuple (rowsD P)) = true := SeqAt.eqv_refl _ (rows_lay P)
theorem nats_refl (q : List Nat) : PyData.eqv (.tuple (natsD q)) (.tuple (natsD q)) = true := SeqAt.eqv_refl _ (nats_lay q)
theorem dp_nats {K : PySem.W.Frag} {H : Hp} : ∀ q : List Nat, DpAll K H (natsV q) (natsD q)
  | [] => .nil
  | n :: r => .cons (.int n) (dp_nats r)
theorem dp_tup {K : PySem.W.Frag} {H : Hp} {a : Addr} {q : List Nat} (h : H a = some (.tup (natsV q))) : Dp K H (.ref a) (.tuple (natsD q)) := .tup (SqT.of h) (dp_nats q)
theorem dp_rows {K : PySem.W.Frag} {H : Hp} : ∀ {vs : List V} {P : List (List Nat)}, ParL H vs P → DpAll K H vs (rowsD P)
  | [], [], _ => .nil
  | [], _ :: _, h => nomatch h.1
  | _ :: _, [], h => nomatch h.1
  | v :: vs, p :: P, h => by
    obtain ⟨a, e1, e2⟩ := h.2 0 p rfl
    have ev : v = .ref a := Option.some.inj e1
    subst ev
    exact .cons (dp_tup e2) (dp_rows ⟨by have := h.1; simpa using this, fun j q e => h.2 (j + 1) q (by simpa using e)⟩)
theorem dp_par {K : PySem.W.Frag} {H : Hp} {a : Addr} {P : List (List Nat)} (h : ParAt H a P) : Dp K H (.ref a) (.tuple (rowsD P)) := by
  obtain ⟨vs, e, l⟩ := h
  exact .tup (SqT.of e) (dp_rows l)
def tripD (e : Tr) : PyData := .tuple [.int e.1, .int e.2.1, .tuple (e.2.2.map PyData.int)]
theorem dp_sch {K : PySem.W.Frag} {H : Hp} {a : Addr} {S : List Tr} (h : SchAt H a S) : Dp K H (.ref a) (.tuple (S.map tripD)) := by
  obtain ⟨vs, h1, h2, h3⟩ := h
  have key : ∀ (vs : List V) (S : List Tr), vs.length = S.length → (∀ (i : Nat) (e : Tr), S[i]? = some e → ∃ v, vs[i]? = some v ∧ Trip H v e) → DpAll K H vs (S.map tripD) := by
    intro vs
    induction vs with
    | nil =>
      intro S hl _
      cases S with
      | nil => exact .nil
      | cons e r => cases hl
    | cons v vs ih =>
      intro S hl h
      cases S with
      | nil => cases hl
      | cons e r =>
        obtain ⟨u, e1, p, q, rfl, e2, e3⟩ := h 0 e rfl
        have ev : v = .ref p := Option.some.inj e1
        subst ev
        exact .cons (.tup (SqT.of e2) (.cons (.int _) (.cons (.int _) (.cons (.tup (SqT.of e3) (dp_ints _)) .nil)))) (ih r (by simpa using hl) fun i x hx => h (i + 1) x hx)
  exact .tup (SqT.of h1) (key vs S h2 h3)
theorem sch_lay : ∀ S : List Tr, PyData.canLayAll0 (S.map tripD) = true
  | [] => rfl
  | e :: r => by
    show (PyData.canLay0 (tripD e) && PyData.canLayAll0 (r.map tripD)) = true
    rw [sch_lay r]
    have : PyData.canLay0 (tripD e) = true := by
      show (true && (true && (PyData.canLayAll0 (e.2.2.map PyData.int) && true))) = true
      rw [lay_ints]
      rfl
    rw [this]
    rfl
theorem sch_deep : ∀ S : List Tr, PyData.depthAll (S.map tripD) ≤ 6
  | [] => by simp [PyData.depthAll]
  | e :: r => by
    have ih := sch_deep r
    have h := deep_ints e.2.2
    have : PyData.depth (tripD e) ≤ 6 := by
      unfold tripD
      simp only [PyData.depth, PyData.depthAll]
      omega
    show PyData.depthAll (tripD e :: r.map tripD) ≤ 6
    simp only [PyData.depthAll]
    omega
theorem sch_shaped (S : List Tr) : SeqAt.shaped (.tuple (S.map tripD)) = true := by
  have h := sch_deep S
  have h2 : PyData.depth (.tuple (S.map tripD)) ≤ 64 := by
    simp only [PyData.depth]
    omega
  exact Bool.and_eq_true_iff.mpr ⟨sch_lay S, decide_eq_true h2⟩
theorem sch_refl (S : List Tr) : PyData.eqv (.tuple (S.map tripD)) (.tuple (S.map tripD)) = true := SeqAt.eqv_refl _ (sch_lay S)
/-! ### how long the text of a thing is -/
theorem int_len {i : Int} {k : Nat} (hk : 0 < k) (h : i.natAbs < 10 ^ k) : (PyData.shown (.int i)).length ≤ k + 1 := by
  have e := int_text_length_le10 hk h
  show (Str.ofString (toString i)).length ≤ k + 1
  rw [ofString_length]
  exact e
theorem log_small {i : Int} (h : i.natAbs ≤ 10 ^ 60) : i.natAbs.log2 < 1920 := by
  by_cases z : i.natAbs = 0
  · rw [z]; decide
  · exact (Nat.log2_lt z).mpr (Nat.lt_of_le_of_lt h (by decide +kernel))
theorem shownAll_len : ∀ ds : List PyData, (PyData.shownAll ds).length = ds.length
  | [] => rfl
  | d :: r => by
    show (d.shown :: PyData.shownAll r).length = _
    rw [List.length_cons, List.length_cons, shownAll_len r]
theorem piled_le {b : Nat} : ∀ {ds : List PyData}, (∀ d ∈ ds, d.shown.length ≤ b) → piled (PyData.shownAll ds) ≤ (b + 2) * ds.length
  | [], _ => Nat.zero_le _
  | d :: r, h => by
    have ih := piled_le (ds := r) fun x hx => h x (List.mem_cons_of_mem _ hx)
    have h0 := h d List.mem_cons_self
    show piled (d.shown :: PyData.shownAll r) ≤ _
    rw [piled_cons, List.length_cons, Nat.mul_succ]
    omega
theorem tup_len {b : Nat} {ds : List PyData} (h : ∀ d ∈ ds, d.shown.length ≤ b) : (PyData.shown (.tuple ds)).length ≤ (b + 2) * ds.length + 2 :=
  Nat.le_trans (fmt_text _) (Nat.add_le_add_right (piled_le h) 2)
theorem ints_len {c k : Nat} {r : List Int} (hk : 0 < k) (hl : r.length ≤ c) (h : ∀ z ∈ r, z.natAbs < 10 ^ k) : (PyData.shown (.tuple (r.map PyData.int))).length ≤ (k + 3) * c + 2 := by
  refine Nat.le_trans (tup_len (b := k + 1) fun d hd => ?_) ?_
  · obtain ⟨z, hz, rfl⟩ := List.mem_map.mp hd
    exact int_len hk (h z hz)
  · rw [List.length_map]
    exact Nat.add_le_add_right (Nat.mul_le_mul_left _ hl) 2
theorem ints_can {r : List Int} (h : ∀ z ∈ r, z.natAbs ≤ 10 ^ 60) : PyData.showableAll (r.map PyData.int) = true := by
  induction r with
  | nil => rfl
  | cons x r ih =>
    show (decide (x.natAbs.log2 < 1920) && PyData.showableAll (r.map PyData.int)) = true
    rw [ih fun z hz => h z (List.mem_cons_of_mem _ hz), decide_eq_true (log_small (h x List.mem_cons_self))]
    rfl
theorem ints_nod (r : List Int) : PyData.hasDictAll (r.map PyData.int) = false := by
  induction r with
  | nil => rfl
  | cons x r ih =>
    show (false || PyData.hasDictAll (r.map PyData.int)) = false
    rw [ih]
    rfl
theorem trip_show {e : Tr} (h : MidT e) : PyData.showable (tripD e) = true ∧ PyData.hasDict (tripD e) = false ∧ (tripD e).shown.length ≤ 180200 := by
  have p := h.slot
  have z6 : 1000 ≤ 10 ^ 60 := by decide +kernel
  have n1 : e.1.natAbs ≤ 10 ^ 60 := by omega
  have k61 : 10 ^ 60 < 10 ^ 61 := by decide +kernel
  refine ⟨?_, ?_, ?_⟩
  · show (decide (e.1.natAbs.log2 < 1920) && (decide (e.2.1.natAbs.log2 < 1920) && (PyData.showableAll (e.2.2.map PyData.int) && true))) = true
    rw [decide_eq_true (log_small n1), decide_eq_true (log_small h.num), ints_can h.ent]
    rfl
  · show (false || (false || (PyData.hasDictAll (e.2.2.map PyData.int) || false))) = false
    rw [ints_nod]
    rfl
  · have hr := ints_len (k := 61) (by decide) h.len fun z hz => Nat.lt_of_le_of_lt (h.ent z hz) k61
    refine Nat.le_trans (tup_len (b := 60000) fun d hd => ?_) (by show 60002 * 3 + 2 ≤ _; decide)
    simp only [List.mem_cons, List.not_mem_nil, or_false] at hd
    rcases hd with rfl | rfl | rfl
    · exact Nat.le_trans (int_len (k := 61) (by decide) (Nat.lt_of_le_of_lt n1 k61)) (by decide)
    · exact Nat.le_trans (int_len (k := 61) (by decide) (Nat.lt_of_le_of_lt h.num k61)) (by decide)
    · exact Nat.le_trans hr (by decide)
theorem sch_show {S : List Tr} (hl : S.length ≤ 63) (h : ∀ e ∈ S, MidT e) : ShowD (.tuple (S.map tripD)) := by
  refine ⟨?_, ?_, ?_, ?_⟩
  · show PyData.showableAll (S.map tripD) = true
    clear hl
    induction S with
    | nil => rfl
    | cons e r ih =>
      show (PyData.showable (tripD e) && PyData.showableAll (r.map tripD)) = true
      rw [(trip_show (h e List.mem_cons_self)).1, ih fun x hx => h x (List.mem_cons_of_mem _ hx)]
      rfl
  · show PyData.hasDictAll (S.map tripD) = false
    clear hl
    induction S with
    | nil => rfl
    | cons e r ih =>
      show (PyData.hasDict (tripD e) || PyData.hasDictAll (r.map tripD)) = false
      rw [(trip_show (h e List.mem_cons_self)).2.1, ih fun x hx => h x (List.mem_cons_of_mem _ hx)]
      rfl
  · have := sch_deep S
    simp only [PyData.depth]
    omega
  · refine Nat.le_trans (tup_len (b := 180200) fun d hd => ?_) ?_
    · obtain ⟨e, he, rfl⟩ := List.mem_map.mp hd
      exact (trip_show (h e he)).2.2
    · rw [List.length_map]
      exact Nat.le_trans (Nat.add_le_add_right (Nat.mul_le_mul_left _ hl) 2) (by decide)
theorem Alk.ints {H : Hp} {a b : Addr} {q : List Int} (ha : H a = some (.tup (q.map V.int))) (hb : H b = some (.tup (q.map V.int))) (hn : q.length ≤ 100000) : Alk H 1 (.ref a) (.ref b) :=
  .tup 0 a b _ _ ha hb rfl (by rw [List.length_map]; exact hn) fun i x y ex ey => by
    rw [ex] at ey
    rw [← Option.some.inj ey]
    obtain ⟨n, _, rfl, _⟩ := int_here ex
    exact .int 0 _
theorem lotS_one (S : List Tr) (x : Nat) : lotS S [x] = (List.range S.length).filter (saysI S x) := by
  unfold lotS
  refine List.filter_congr fun p _ => ?_
  show (saysI S x p && true) = _
  rw [Bool.and_true]
theorem lotS_two (S : List Tr) (x y : Nat) : (lotS S [x]).filter (fun p => decide (p ∈ lotS S [y])) = lotS S [x, y] := by
  rw [lotS_one, lotS_one, List.filter_filter]
  unfold lotS
  refine List.filter_congr fun p hp => ?_
  show (decide (p ∈ (List.range S.length).filter (saysI S y)) && saysI S x p) = (saysI S x p && (saysI S y p && true))
  rw [Bool.and_true, Bool.and_comm]
  congr 1
  rw [Bool.eq_iff_iff, decide_eq_true_eq, List.mem_filter]
  exact ⟨fun h => h.2, fun h => ⟨hp, h⟩⟩
def sp_law (K : PySem.W.Frag) : Sp := fun vs H Q _ => ∃ (a : Addr) (ns : List Int), vs = [.ref a] ∧ SqL K H a (ns.map V.int) ∧ ns.length ≤ 63 ∧ ∀ H', Q (.bl true) H'
theorem sc_law : FnScope ["_law_script", "_law_hand_here", "_law_turn", "_law_many", "_law_scheme", "_law_kept", "_law_lots", "_law_x", "_law_y", "_law_due", "_law_p", "_law_one", "_law_other"] ["_law_script"] (defScope s_law) := ⟨rfl, rfl, rfl, by decide +kernel, rfl, by decide +kernel, by decide +kernel⟩
theorem ok_law (T : Top K mg) : FnG P w K mg base CX0 7 T.f_law T.fd_law ["_law_script"] (sp_law K) := by
  have G__law_any_scheme := ok__law_any_scheme (P := P) (w := w) (base := base) T
  have G__law_bent := ok__law_bent (P := P) (w := w) (base := base) T
  have G__law_draw := ok__law_draw (P := P) (w := w) (base := base) T
  have G__law_hand := ok__law_hand (P := P) (w := w) (base := base) T
  have G__law_is := ok__law_is (P := P) (w := w) (base := base) T
  have G__law_parents := ok__law_parents (P := P) (w := w) (base := base) T
  have G__law_right_scheme := ok__law_right_scheme (P := P) (w := w) (base := base) T
  have G__law_said := ok__law_said (P := P) (w := w) (base := base) T
  have G__law_sheet := ok__law_sheet (P := P) (w := w) (base := base) T
  have G_common := ok_common (P := P) (w := w) (base := base) T
  have G_lot_of := ok_lot_of (P := P) (w := w) (base := base) T
  have G_meet := ok_meet (P := P) (w := w) (base := base) T
  refine T.F_law.okG sc_law (fun vs H Q E h => ?_) (fun cdv A outer s H vs Q E hG hr h => ?_)
  · obtain ⟨a, ns, rfl, _⟩ := h
    rfl
  · obtain ⟨a, ns, rfl, hS, hlen, k⟩ := h
    refine ⟨_, (pss_cons (ps_set (i := 1) sc_law.nd rfl (Or.inl rfl) (pe_call G__law_hand (hr.mono (by decide)) (by rfl) T.g__law_hand T.F__law_hand.kp T.b__law_hand .nil pass0 (pa_cons (pv 0) pa_nil)))
      (pss_cons (ps_for PassesOwn.never rfl (pi_range1 rfl T.z_range (pa_cons pe_int pa_nil)) (pg_name (i := 2) sc_law.nd rfl (Or.inl rfl))
      (pss_cons (ps_set (i := 3) sc_law.nd rfl (Or.inr rfl) (pe_op op_add pe_int (pe_call G__law_draw (hr.mono (by decide)) (by rfl) T.g__law_draw T.F__law_draw.kp T.b__law_draw .nil pass0 (pa_cons (pv 1) (pa_cons pe_int pa_nil)))))
      (pss_cons (ps_set (i := 4) sc_law.nd rfl (Or.inr rfl) (pe_call G__law_any_scheme (hr.mono (by decide)) (by rfl) T.g__law_any_scheme T.F__law_any_scheme.kp T.b__law_any_scheme .nil pass0 (pa_cons (pv 1) (pa_cons (pv 3) pa_nil))))
      (C8.pss_cut (ps_if (pt_cmpR op_eq (pe_call G__law_draw (hr.mono (by decide)) (by rfl) T.g__law_draw T.F__law_draw.kp T.b__law_draw .nil pass0 (pa_cons (pv 1) (pa_cons pe_int pa_nil))) pe_int (nomark _)) (pss_one (ps_set (i := 4) sc_law.nd rfl (Or.inr rfl) (pe_call G__law_bent (hr.mono (by decide)) (by rfl) T.g__law_bent T.F__law_bent.kp T.b__law_bent .nil pass0 (pa_cons (pv 1) (pa_cons (pe_call G__law_right_scheme (hr.mono (by decide)) (by rfl) T.g__law_right_scheme T.F__law_right_scheme.kp T.b__law_right_scheme .nil pass0 (pa_cons (pv 1) (pa_cons (pe_call G__law_sheet (hr.mono (by decide)) (by rfl) T.g__law_sheet T.F__law_sheet.kp T.b__law_sheet .nil pass0 (pa_cons (pe_call G__law_parents (hr.mono (by decide)) (by rfl) T.g__law_parents T.F__law_parents.kp T.b__law_parents .nil pass0 (pa_cons (pv 1) (pa_cons (pv 3) (pa_cons pe_int pa_nil)))) pa_nil)) pa_nil))) pa_nil))))) pss_nil)
      (pss_cons (ps_set (i := 5) sc_law.nd rfl (Or.inl rfl) (pe_callB (r := rRepr K) (id := "repr") (call_reprG hG (by exact hr.units)) (by rfl) T.z_repr (by decide +kernel) (pa_cons (pv 4) pa_nil)))
      (pss_cons (ps_set (i := 6) sc_law.nd rfl (Or.inr rfl) (pe_lc (own := [("_law_x", 7)]) (g := gName 7) (tt := tYes) rfl sc_law.nd (pi_range1 rfl T.z_range (pa_cons (pv 3) pa_nil)) (blkOk_by (own := [("_law_x", 7)]) (N := ["_law_script", "_law_hand_here", "_law_turn", "_law_many", "_law_scheme", "_law_kept", "_law_lots", "_law_x", "_law_y", "_law_due", "_law_p", "_law_one", "_law_other"]) (sc := defScope s_law) (by decide +kernel)) (fun _ _ _ _ _ => (pg_name (i := 7) sc_law.nd rfl (Or.inr rfl))) (fun _ _ _ _ _ => pts_nil) (fun _ _ _ _ _ => (pe_callTy (r := rTupQ K) (T := "tuple") call_tuple_of (by rfl) T.z_tuple (by decide +kernel) (pa_cons (by exact (pe_lc (own := [("_law_p", 10)]) (g := gName 10) rfl sc_law.nd (pi_range1 rfl T.z_range (pa_cons (pv 3) pa_nil)) (blk_in (own := [("_law_p", 10)]) (N := ["_law_script", "_law_hand_here", "_law_turn", "_law_many", "_law_scheme", "_law_kept", "_law_lots", "_law_x", "_law_y", "_law_due", "_law_p", "_law_one", "_law_other"]) (sc1 := defScope s_law) rfl rfl (by decide +kernel)) (fun _ _ _ _ _ => (pg_name (i := 10) sc_law.nd rfl (Or.inl rfl))) (fun _ _ _ _ _ => (pts_one (pt_val (pe_call G__law_said (hr.mono (by decide)) (by rfl) T.g__law_said T.F__law_said.kp T.b__law_said .nil pass0 (pa_cons (pv 4) (pa_cons (pv 7) (pa_cons (pv 10) pa_nil))))))) (fun _ _ _ _ _ => (pv 10)))) pa_nil)))))
      (pss_cons (ps_for PassesOwn.never rfl (pi_range1 rfl T.z_range (pa_cons (pv 3) pa_nil)) (pg_name (i := 7) sc_law.nd rfl (Or.inl rfl))
      (pss_cons (ps_if (pt_not (pt_val (pe_call G__law_is (hr.mono (by decide)) (by rfl) T.g__law_is T.F__law_is.kp T.b__law_is .nil pass0 (pa_cons (pe_call G_lot_of hr (by rfl) T.g_lot_of T.F_lot_of.kp T.b_lot_of .nil pass0 (pa_cons (pv 4) (pa_cons (pv 7) pa_nil))) (pa_cons (pe_ix (r := rIxL K) ix_list (pv 6) (pv 7) (fun _ _ => rfl)) pa_nil))))) (pss_one (ps_ret pe_bl)) pss_nil)
      (pss_cons (ps_set (i := 8) sc_law.nd rfl (Or.inr rfl) (pe_call G__law_draw (hr.mono (by decide)) (by rfl) T.g__law_draw T.F__law_draw.kp T.b__law_draw .nil pass0 (pa_cons (pv 1) (pa_cons (pv 3) pa_nil))))
      (pss_cons (ps_if (pt_not (pt_val (pe_call G__law_is (hr.mono (by decide)) (by rfl) T.g__law_is T.F__law_is.kp T.b__law_is .nil pass0 (pa_cons (pe_call G_common hr (by rfl) T.g_common T.F_common.kp T.b_common .nil pass0 (pa_cons (pv 4) (pa_cons (pv 7) (pa_cons (pv 8) pa_nil)))) (pa_cons (pe_callTy (r := rTupQ K) (T := "tuple") call_tuple_of (by rfl) T.z_tuple (by decide +kernel) (pa_cons (pe_lc (own := [("_law_p", 10)]) (g := gName 10) rfl sc_law.nd (pi_tup (pe_ix (r := rIxL K) ix_list (pv 6) (pv 7) (fun _ _ => rfl))) (blkOk_by (own := [("_law_p", 10)]) (N := ["_law_script", "_law_hand_here", "_law_turn", "_law_many", "_law_scheme", "_law_kept", "_law_lots", "_law_x", "_law_y", "_law_due", "_law_p", "_law_one", "_law_other"]) (sc := defScope s_law) (by decide +kernel)) (fun _ _ _ _ _ => (pg_name (i := 10) sc_law.nd rfl (Or.inl rfl))) (fun _ _ _ _ _ => (pts_one (pt_cmpR (r := rIn K false) op_in_seq (pv 10) (pe_ix (r := rIxL K) ix_list (pv 6) (pv 8) (fun _ _ => rfl)) (by rfl)))) (fun _ _ _ _ _ => (pv 10))) pa_nil)) pa_nil))))) (pss_one (ps_ret pe_bl)) pss_nil)
      (pss_cons (ps_set (i := 9) sc_law.nd rfl (Or.inl rfl) (pe_callTy (r := rTupQ K) (T := "tuple") call_tuple_of (by rfl) T.z_tuple (by decide +kernel) (pa_cons (pe_lc (own := [("_law_one", 11), ("_law_other", 12)]) (tt := tYes) rfl sc_law.nd (RZ.pi_zipA (by rfl) T.z_zip (pa_cons (pe_ix (r := rIxT K) ix_tup (pe_ix (r := rIxT K) ix_tup (pv 4) (pv 7) (fun _ _ => rfl)) pe_int (fun _ _ => rfl)) (pa_cons (pe_ix (r := rIxT K) ix_tup (pe_ix (r := rIxT K) ix_tup (pv 4) (pv 8) (fun _ _ => rfl)) pe_int (fun _ _ => rfl)) pa_nil))) (blkOk_by (own := [("_law_one", 11), ("_law_other", 12)]) (N := ["_law_script", "_law_hand_here", "_law_turn", "_law_many", "_law_scheme", "_law_kept", "_law_lots", "_law_x", "_law_y", "_law_due", "_law_p", "_law_one", "_law_other"]) (sc := defScope s_law) (by decide +kernel)) (fun _ _ _ _ _ => (pg_tupK (K := K) 2 rfl rfl (pgs_cons (pg_name (i := 11) sc_law.nd rfl (Or.inl rfl)) (pgs_cons (pg_name (i := 12) sc_law.nd rfl (Or.inl rfl)) pgs_nil)))) (fun _ _ _ _ _ => pts_nil) (fun _ _ _ _ _ => (pe_callB (id := "min") (call_min2 rfl) (by rfl) T.z_min (by decide +kernel) (pa_cons (pv 11) (pa_cons (pv 12) pa_nil))))) pa_nil)))
      (pss_one (ps_if (pt_not (pt_val (pe_call G__law_is (hr.mono (by decide)) (by rfl) T.g__law_is T.F__law_is.kp T.b__law_is .nil pass0 (pa_cons (pe_call G_meet hr (by rfl) T.g_meet T.F_meet.kp T.b_meet .nil pass0 (pa_cons (pv 4) (pa_cons (pv 7) (pa_cons (pv 8) pa_nil)))) (pa_cons (pv 9) pa_nil))))) (pss_one (ps_ret pe_bl)) pss_nil)))))))
      (pss_one (ps_if (PW.pt (pw_or (pt_cmpR op_ne (pe_callB (r := rRepr K) (id := "repr") (call_reprG hG (by exact hr.units)) (by rfl) T.z_repr (by decide +kernel) (pa_cons (pv 4) pa_nil)) (pv 5) (nomark _)) (pw_or1 (pt_not (pt_val (pe_call G__law_is (hr.mono (by decide)) (by rfl) T.g__law_is T.F__law_is.kp T.b__law_is .nil pass0 (pa_cons (pe_call G_common hr (by rfl) T.g_common T.F_common.kp T.b_common .nil pass0 (pa_cons (pv 4) (pa_cons pe_int (pa_cons pe_int pa_nil)))) (pa_cons (pe_ix (r := rIxL K) ix_list (pv 6) pe_int (fun _ _ => rfl)) pa_nil)))))))) (pss_one (ps_ret pe_bl)) pss_nil)))))))))
      (pss_one (ps_ret pe_bl)))), ?_⟩
    tm_at "w"
    refine ⟨a, ns, rfl, hS, hlen, fun τ H1 s1 _ m1 => ?_⟩
    tm_at "w"
    refine for_range (lo := 0) (n := (3 : Int).toNat) (fun i σ H' => ∃ (v2 v3 v4 v5 v6 v7 v8 v9 v10 v11 v12 : Option V), σ = [some (.ref a), some (.ref τ.t), v2, v3, v4, v5, v6, v7, v8, v9, v10, v11, v12] ∧ Tape τ H') ⟨none, none, none, none, none, none, none, none, none, none, none, rfl, m1⟩ ?_ ?_
    · rintro i σ H2 hi ⟨v2, v3, v4, v5, v6, v7, v8, v9, v10, v11, v12, rfl, m2⟩
      tm_at "w"
      refine ⟨τ, _, rfl, m2, by decide, by decide, fun r0 H3 m3 h0 h1 => ?_⟩
      obtain ⟨n, hn⟩ : ∃ k : Nat, 1 + r0 = k := ⟨(1 + r0).toNat, by omega⟩
      refine ⟨_, _, rfl, rfl, ?_⟩
      show gName 3 (V.int (1 + r0)) _ _ _
      rw [hn]
      tm_at "w"
      refine ⟨τ, n, rfl, m3.now, by omega, fun sa S H4 m4 hS4 lS hsm => ?_⟩
      tm_at "w"
      refine ⟨fun σ H' => ∃ (sa : Addr) (S : List Tr), σ = [some (.ref a), some (.ref τ.t), some (.int (0 + (i : Int))), some (.int (n : Int)), some (.ref sa), v5, v6, v7, v8, v9, v10, v11, v12] ∧ Tape τ H' ∧ SchAt H' sa S ∧ S.length = n ∧ ∀ e ∈ S, MidT e, ?_, ?_⟩
      · tm_at "w"
        refine ⟨τ, _, rfl, m4.now, by decide, by decide, fun r H5 m5 g0 g1 => ?_⟩
        tm_at "w"
        by_cases z2 : r = 0
        · refine iteET (by rw [z2]; rfl) ?_
          tm_at "w"
          refine ⟨τ, n, 3, rfl, m5.now, by omega, by decide, fun pa P H6 m6 hP ok hPl => ?_⟩
          tm_at "w"
          refine ⟨pa, P, rfl, hP, ok, by omega, fun sl H7 s7 nsl hsh => ?_⟩
          have slt := m6.now.mv.neN nsl.e
          tm_at "w"
          refine ⟨τ, sl, P, rfl, m6.now.same s7, hsh, slt, ok.rt, by omega, fun ta S1 H8 m8 hS1 ok1 h9 => ?_⟩
          have l1 := ok1.1
          tm_at "w"
          refine ⟨τ, ta, S1, rfl, m8.now, hS1, h9, by omega, by omega, fun tb S2 H9 m9 hS2 l2 h2 => ?_⟩
          exact ⟨tb, S2, rfl, m9.now, hS2, by omega, h2⟩
        · refine iteEF (by rw [decide_eq_false (fun e => z2 (V.int.inj e))]) ?_
          exact ⟨sa, S, rfl, m5.now, hS4.tk m5.tk, lS, fun e he => (hsm e he).mid⟩
      rintro σ H5 ⟨sa, S, rfl, m5, hS5, lS5, hB5⟩
      have hB : ∀ e ∈ S, 0 ≤ e.1 ∧ e.2.2.length ≤ 1000 := fun e he => ⟨(hB5 e he).slot.1, Nat.le_trans (hB5 e he).len (by decide)⟩
      tm_at "w"
      refine ⟨_, _, rfl, dp_sch hS5, sch_show (by omega) hB5, ?_⟩
      obtain ⟨kt, hkt⟩ : ∃ t, PyData.shown (.tuple (S.map tripD)) = t := ⟨_, rfl⟩
      rw [hkt]
      tm_at "w"
      intro L nL
      have dL := m5.mv.neN nL
      refine lc_rangeR (RN fun x => lotS S [x]) (RN.tk _) nL (by omega) ?_ ?_
      · intro x H6 N M hx s6 kN
        have xl : x < S.length := by omega
        rw [Int.zero_add]
        have hS6 := hS5.tk (Same.tk s6)
        tm_at "w"
        intro D nD
        refine lc_rangeF (fun p => if saysI S x p = true then some (V.int (p : Int)) else none) nD (by omega) ?_ ?_
        · intro p H7 N2 M2 hp s7 kN2 kM2
          have pl : p < S.length := by omega
          rw [Int.zero_add]
          tm_at "w"
          refine ⟨sa, S, x, p, _, _, rfl, hS6.tk (Same.tk s7), List.getElem?_eq_getElem xl, List.getElem?_eq_getElem pl, (hB _ (List.getElem_mem pl)).1, ?_⟩
          rw [← saysI_at (List.getElem?_eq_getElem xl) (List.getElem?_eq_getElem pl)]
          refine ⟨_, rfl, ?_⟩
          refine iteB (fun e => ?_) (fun e => ?_)
          · tm_at "w"
            exact kN2 _ _ (by rw [e]; rfl) (Same.refl H7)
          · exact kM2 _ (by rw [e]; rfl) (Same.refl H7)
        · intro H7 s7 hD
          rw [Int.toNat_natCast, ← lS5, filter_nats] at hD
          tm_at "w"
          intro t nt
          exact kN _ _ (Same.new s7 nt) ⟨t, rfl, by rw [upd_same]; show _ = some (HO.tup (natsV (lotS S [x]))); rw [lotS_one]⟩
      intro H6 acc s6 hL hlenL hR
      have hlenL : acc.length = n := by omega
      have tp6 := m5.same s6
      have hS6 := hS5.tk (Same.tk s6)
      have lot : ∀ x : Nat, x < n → ∃ p, acc[x]? = some (.ref p) ∧ H6 p = some (.tup (natsV (lotS S [x]))) := fun x hx => by
        obtain ⟨v, hv⟩ : ∃ v, acc[x]? = some v := ⟨_, List.getElem?_eq_getElem (by omega)⟩
        obtain ⟨p, rfl, hp⟩ := hR x v hv
        exact ⟨p, hv, hp⟩
      have ll : ∀ xs, (lotS S xs).length ≤ 1000 := fun xs => Nat.le_trans (lotS_len S xs) (by omega)
      tm_at "w"
      refine for_range (lo := 0) (n := (n : Int).toNat) (fun x σ H' => ∃ (v7 v8 v9 v10 v11 v12 : Option V), σ = [some (.ref a), some (.ref τ.t), some (.int (0 + (i : Int))), some (.int (n : Int)), some (.ref sa), some (.str kt), some (.ref L), v7, v8, v9, v10, v11, v12] ∧ Mv τ H6 H') ⟨_, _, _, _, _, _, rfl, tp6.mv⟩ ?_ ?_
      · rintro x σ H7 hx ⟨v7, v8, v9, v10, v11, v12, rfl, m7⟩
        have xn : x < n := by omega
        have xl : x < S.length := by omega
        rw [Int.zero_add]
        obtain ⟨px, hax, hpx⟩ := lot x xn
        have hS7 := hS6.tk m7.tk
        tm_at "w"
        refine ⟨sa, S, x, rfl, hS7, hB, by omega, xl, fun t1 H8 s8 ht1 => ?_⟩
        have m8 := m7.same s8
        have hL8 := m8.keep _ _ dL hL
        tm_at "w"
        refine ⟨_, _, rfl, (Alk.nats ht1 (m8.atT hpx) (Nat.le_trans (ll _) (by decide))).up, fun H9 s9 => ?_⟩
        have m9 := m8.same s9
        tm_at "w"
        refine ⟨τ, _, rfl, m9.now, by omega, by omega, fun y H10 m10 y0 y1 => ?_⟩
        obtain ⟨y, rfl⟩ : ∃ k : Nat, y = k := ⟨y.toNat, by omega⟩
        have yn : y < n := by omega
        have yl : y < S.length := by omega
        obtain ⟨py, hay, hpy⟩ := lot y yn
        have m610 := m9.trans m10
        have hS10 := hS6.tk m610.tk
        tm_at "w"
        refine ⟨sa, S, x, y, rfl, hS10, hB, by omega, xl, yl, fun t2 H11 s11 ht2 => ?_⟩
        have m11 := m610.same s11
        have hL11 := m11.keep _ _ dL hL
        have hpx11 := m11.atT hpx
        tm_at "w"
        refine ⟨⟨_, SqT.of hpx11⟩, fun E nE => lc_tupF (fun j => (lotS S [x])[j]?.bind fun k => if decide (k ∈ lotS S [y]) = true then some (V.int (k : Int)) else none) hpx11 nE (by rw [natsV_len]; exact Nat.le_trans (ll _) (by decide)) ?_ ?_⟩
        · intro j u H12 N M hu s12 kN kM
          obtain ⟨kd, hkd, rfl, jl⟩ := natsV_here hu
          have hL12 := s12 _ _ hL11
          have hpy12 := s12 _ _ (m11.atT hpy)
          tm_at "w"
          refine ⟨flat_nats _, ?_⟩
          show ∃ k, V.bl (inV (.int (kd : Int)) (natsV (lotS S [y]))) = V.bl k ∧ _
          rw [inV_nats]
          refine ⟨_, rfl, ?_⟩
          refine iteB (fun e => ?_) (fun e => ?_)
          · tm_at "w"
            exact kN _ _ (by rw [hkd]; show (if decide (kd ∈ lotS S [y]) = true then _ else _) = _; rw [if_pos e]) (Same.refl H12)
          · exact kM _ (by rw [hkd]; show (if decide (kd ∈ lotS S [y]) = true then _ else _) = _; rw [e, if_neg (by decide)]) (Same.refl H12)
        intro H12 s12 hE
        rw [filter_list, lotS_two] at hE
        tm_at "w"
        intro bo nbo
        obtain ⟨H13, e13, s13, hbo⟩ := new_hide (Same.new (o := .tup (natsV (lotS S [x, y]))) (Same.refl H12) nbo)
        rw [e13]
        have ht23 := (Same.trans s12 s13) _ _ ht2
        tm_at "w"
        refine ⟨_, _, rfl, (Alk.nats ht23 hbo (Nat.le_trans (ll _) (by decide))).up, fun H14 s14 => ?_⟩
        have m14 := m11.same (Same.trans (Same.trans s12 s13) s14)
        have hS14 := hS6.tk m14.tk
        have exS := List.getElem?_eq_getElem xl
        have eyS := List.getElem?_eq_getElem yl
        obtain ⟨ws, qx, rx, ha, hl, hvx, hpx, hqx⟩ := hS14.at exS
        obtain ⟨ws', qy, ry, ha', hl', hvy, hpy, hqy⟩ := hS14.at eyS
        have ew : ws = ws' := HO.tup.inj (Option.some.inj (ha.symm.trans ha'))
        subst ew
        have bx := (hB _ (List.getElem_mem xl)).2
        have by' := (hB _ (List.getElem_mem yl)).2
        generalize hex : S[x] = ex at *
        generalize hey : S[y] = ey at *
        have ml := minsB_len ex.2.2 ey.2.2
        tm_at "w"
        refine ⟨_, _, _, _, rfl, .inr ⟨SqT.of hqx, SqT.of hqy, fun D nD => lc_zipTM (n := min ex.2.2.length ey.2.2.length) (fun i => (minsB ex.2.2 ey.2.2)[i]?.map V.int) hqx hqy (by rw [List.length_map, List.length_map]) nD (by omega) ?_ ?_⟩⟩
        · intro i u v Z H8 N M hu hv s8 hZ kN kM
          obtain ⟨z1, e1, rfl, _⟩ := int_here hu
          obtain ⟨z2, e2, rfl, _⟩ := int_here hv
          tm_at "w"
          exact ⟨_, _, rfl, kN (V.int (minZ z1 z2)) _ (by rw [minsB_at e1 e2]; rfl) (Same.refl H8)⟩
        intro H15 s15 hD
        rw [mins_list] at hD
        tm_at "w"
        intro du ndu
        obtain ⟨H16, e16, s16, hdu⟩ := new_hide (Same.new (o := .tup ((minsB ex.2.2 ey.2.2).map V.int)) (Same.refl H15) ndu)
        rw [e16]
        have s1416 := Same.trans s15 s16
        tm_at "w"
        refine ⟨sa, S, x, y, ex, ey, rfl, hS14.tk (Same.tk s1416), hB, by omega, exS, eyS, fun le H17 s17 hle => ?_⟩
        have hdu17 := s17 _ _ hdu
        tm_at "w"
        refine ⟨_, _, rfl, (Alk.ints hle hdu17 (by omega)).up, fun H18 s18 => ?_⟩
        tm_at "w"
        exact ⟨_, _, _, _, _, _, rfl, m14.same (Same.trans s1416 (Same.trans s17 s18))⟩
      rintro σ H7 ⟨v7, v8, v9, v10, v11, v12, rfl, m7⟩
      have hS7 := hS6.tk m7.tk
      tm_at "w"
      refine ⟨_, _, rfl, dp_sch hS7, sch_show (by omega) hB5, ?_⟩
      rw [hkt]
      tm_at "w"
      refine iteEF (by rw [decide_eq_true rfl]; rfl) ?_
      tm_at "w"
      refine ⟨sa, S, 0, 0, rfl, hS7, hB, by omega, by omega, by omega, fun t1 H8 s8 ht1 => ?_⟩
      have m8 := m7.same s8
      have hL8 := m8.keep _ _ dL hL
      obtain ⟨p0, ha0, hp0⟩ := lot 0 (by omega)
      have e00 : lotS S [0, 0] = lotS S [0] := by
        unfold lotS
        refine List.filter_congr fun p _ => ?_
        show (saysI S 0 p && (saysI S 0 p && true)) = (saysI S 0 p && true)
        rw [Bool.and_true, Bool.and_self]
      rw [e00] at ht1
      tm_at "w"
      refine ⟨_, _, rfl, (Alk.nats ht1 (m8.atT hp0) (Nat.le_trans (ll _) (by decide))).up, fun H9 s9 => ?_⟩
      tm_at "w"
      exact ⟨_, _, _, _, _, _, _, _, _, _, _, rfl, m8.now.same s9⟩
    · rintro σ H2 ⟨v2, v3, v4, v5, v6, v7, v8, v9, v10, v11, v12, rfl, m2⟩
      tm_at "w"
      exact k _
end
theorem all_mk {l : PySem.W.OpenLaw} {w : World} {K : PySem.W.Frag} {h : Heap} {mg : Str → Option Value} {fa : Addr} (X : K.In h) (G : h.Ns mainGlobals mg) (hfa : mg "law" = some (.ref fa))
    {od0 an0 : Option Addr} {sl0 : Array (Option Value)} {oc0 kV0 dc0 pm0 cd0 ct0 : Value} {f0 : Addr}
    {od1 an1 : Option Addr} {sl1 : Array (Option Value)} {oc1 kV1 dc1 pm1 cd1 ct1 : Value} {f1 : Addr}
    {od2 an2 : Option Addr} {sl2 : Array (Option Value)} {oc2 kV2 dc2 pm2 cd2 ct2 : Value} {f2 : Addr}
    {od3 an3 : Option Addr} {sl3 : Array (Option Value)} {oc3 kV3 dc3 pm3 cd3 ct3 : Value} {f3 : Addr}
    {od4 an4 : Option Addr} {sl4 : Array (Option Value)} {oc4 kV4 dc4 pm4 cd4 ct4 : Value} {f4 : Addr}
    {od5 an5 : Option Addr} {sl5 : Array (Option Value)} {oc5 kV5 dc5 pm5 cd5 ct5 : Value} {f5 : Addr}
    {od6 an6 : Option Addr} {sl6 : Array (Option Value)} {oc6 kV6 dc6 pm6 cd6 ct6 : Value} {f6 : Addr}
    {od7 an7 : Option Addr} {sl7 : Array (Option Value)} {oc7 kV7 dc7 pm7 cd7 ct7 : Value} {f7 : Addr}
    {od8 an8 : Option Addr} {sl8 : Array (Option Value)} {oc8 kV8 dc8 pm8 cd8 ct8 : Value} {f8 : Addr}
    {od9 an9 : Option Addr} {sl9 : Array (Option Value)} {oc9 kV9 dc9 pm9 cd9 ct9 : Value} {f9 : Addr}
    {od10 an10 : Option Addr} {sl10 : Array (Option Value)} {oc10 kV10 dc10 pm10 cd10 ct10 : Value} {f10 : Addr}
    {od11 an11 : Option Addr} {sl11 : Array (Option Value)} {oc11 kV11 dc11 pm11 cd11 ct11 : Value} {f11 : Addr}
    {od12 an12 : Option Addr} {sl12 : Array (Option Value)} {oc12 kV12 dc12 pm12 cd12 ct12 : Value} {f12 : Addr}
    {od13 an13 : Option Addr} {sl13 : Array (Option Value)} {oc13 kV13 dc13 pm13 cd13 ct13 : Value} {f13 : Addr}
    {od14 an14 : Option Addr} {sl14 : Array (Option Value)} {oc14 kV14 dc14 pm14 cd14 ct14 : Value} {f14 : Addr}
    {od15 an15 : Option Addr} {sl15 : Array (Option Value)} {oc15 kV15 dc15 pm15 cd15 ct15 : Value} {f15 : Addr}
    {od16 an16 : Option Addr} {sl16 : Array (Option Value)} {oc16 kV16 dc16 pm16 cd16 ct16 : Value} {f16 : Addr}
    {od17 an17 : Option Addr} {sl17 : Array (Option Value)} {oc17 kV17 dc17 pm17 cd17 ct17 : Value} {f17 : Addr}
    {od18 an18 : Option Addr} {sl18 : Array (Option Value)} {oc18 kV18 dc18 pm18 cd18 ct18 : Value} {f18 : Addr}
    {od19 an19 : Option Addr} {sl19 : Array (Option Value)} {oc19 kV19 dc19 pm19 cd19 ct19 : Value} {f19 : Addr}
    {od20 an20 : Option Addr} {sl20 : Array (Option Value)} {oc20 kV20 dc20 pm20 cd20 ct20 : Value} {f20 : Addr}
    {od21 an21 : Option Addr} {sl21 : Array (Option Value)} {oc21 kV21 dc21 pm21 cd21 ct21 : Value} {f21 : Addr}
    {od22 an22 : Option Addr} {sl22 : Array (Option Value)} {oc22 kV22 dc22 pm22 cd22 ct22 : Value} {f22 : Addr}
    {od23 an23 : Option Addr} {sl23 : Array (Option Value)} {oc23 kV23 dc23 pm23 cd23 ct23 : Value} {f23 : Addr}
    (a0 : PySem.W.nsIn K mainGlobals "is_integer" = some (some (.ref f0)))
    (l0 : K.lookup f0 = some ⟨oc0, od0, .func (PySem.W.fnOf "is_integer" "is_integer" (defArgs s_is_integer) (defBody s_is_integer) (defScope s_is_integer) .none kV0 dc0 pm0 an0 cd0 ct0), sl0⟩) (c0 : PySem.W.codeIn K cd0 "is_integer" = true) (k0 : PySem.W.keepIn K (.ref f0) = true)
    (a1 : PySem.W.nsIn K mainGlobals "is_within" = some (some (.ref f1)))
    (l1 : K.lookup f1 = some ⟨oc1, od1, .func (PySem.W.fnOf "is_within" "is_within" (defArgs s_is_within) (defBody s_is_within) (defScope s_is_within) .none kV1 dc1 pm1 an1 cd1 ct1), sl1⟩) (c1 : PySem.W.codeIn K cd1 "is_within" = true) (k1 : PySem.W.keepIn K (.ref f1) = true)
    (a2 : PySem.W.nsIn K mainGlobals "is_triple" = some (some (.ref f2)))
    (l2 : K.lookup f2 = some ⟨oc2, od2, .func (PySem.W.fnOf "is_triple" "is_triple" (defArgs s_is_triple) (defBody s_is_triple) (defScope s_is_triple) .none kV2 dc2 pm2 an2 cd2 ct2), sl2⟩) (c2 : PySem.W.codeIn K cd2 "is_triple" = true) (k2 : PySem.W.keepIn K (.ref f2) = true)
    (a3 : PySem.W.nsIn K mainGlobals "check_kind_of" = some (some (.ref f3)))
    (l3 : K.lookup f3 = some ⟨oc3, od3, .func (PySem.W.fnOf "check_kind_of" "check_kind_of" (defArgs s_check_kind_of) (defBody s_check_kind_of) (defScope s_check_kind_of) .none kV3 dc3 pm3 an3 cd3 ct3), sl3⟩) (c3 : PySem.W.codeIn K cd3 "check_kind_of" = true) (k3 : PySem.W.keepIn K (.ref f3) = true)
    (a4 : PySem.W.nsIn K mainGlobals "is_given" = some (some (.ref f4)))
    (l4 : K.lookup f4 = some ⟨oc4, od4, .func (PySem.W.fnOf "is_given" "is_given" (defArgs s_is_given) (defBody s_is_given) (defScope s_is_given) .none kV4 dc4 pm4 an4 cd4 ct4), sl4⟩) (c4 : PySem.W.codeIn K cd4 "is_given" = true) (k4 : PySem.W.keepIn K (.ref f4) = true)
    (a5 : PySem.W.nsIn K mainGlobals "has_form" = some (some (.ref f5)))
    (l5 : K.lookup f5 = some ⟨oc5, od5, .func (PySem.W.fnOf "has_form" "has_form" (defArgs s_has_form) (defBody s_has_form) (defScope s_has_form) .none kV5 dc5 pm5 an5 cd5 ct5), sl5⟩) (c5 : PySem.W.codeIn K cd5 "has_form" = true) (k5 : PySem.W.keepIn K (.ref f5) = true)
    (a6 : PySem.W.nsIn K mainGlobals "check_scheme" = some (some (.ref f6)))
    (l6 : K.lookup f6 = some ⟨oc6, od6, .func (PySem.W.fnOf "check_scheme" "check_scheme" (defArgs s_check_scheme) (defBody s_check_scheme) (defScope s_check_scheme) .none kV6 dc6 pm6 an6 cd6 ct6), sl6⟩) (c6 : PySem.W.codeIn K cd6 "check_scheme" = true) (k6 : PySem.W.keepIn K (.ref f6) = true)
    (a7 : PySem.W.nsIn K mainGlobals "told" = some (some (.ref f7)))
    (l7 : K.lookup f7 = some ⟨oc7, od7, .func (PySem.W.fnOf "told" "told" (defArgs s_told) (defBody s_told) (defScope s_told) .none kV7 dc7 pm7 an7 cd7 ct7), sl7⟩) (c7 : PySem.W.codeIn K cd7 "told" = true) (k7 : PySem.W.keepIn K (.ref f7) = true)
    (a8 : PySem.W.nsIn K mainGlobals "check_kinds" = some (some (.ref f8)))
    (l8 : K.lookup f8 = some ⟨oc8, od8, .func (PySem.W.fnOf "check_kinds" "check_kinds" (defArgs s_check_kinds) (defBody s_check_kinds) (defScope s_check_kinds) .none kV8 dc8 pm8 an8 cd8 ct8), sl8⟩) (c8 : PySem.W.codeIn K cd8 "check_kinds" = true) (k8 : PySem.W.keepIn K (.ref f8) = true)
    (a9 : PySem.W.nsIn K mainGlobals "told_lot" = some (some (.ref f9)))
    (l9 : K.lookup f9 = some ⟨oc9, od9, .func (PySem.W.fnOf "told_lot" "told_lot" (defArgs s_told_lot) (defBody s_told_lot) (defScope s_told_lot) .none kV9 dc9 pm9 an9 cd9 ct9), sl9⟩) (c9 : PySem.W.codeIn K cd9 "told_lot" = true) (k9 : PySem.W.keepIn K (.ref f9) = true)
    (a10 : PySem.W.nsIn K mainGlobals "lot_of" = some (some (.ref f10)))
    (l10 : K.lookup f10 = some ⟨oc10, od10, .func (PySem.W.fnOf "lot_of" "lot_of" (defArgs s_lot_of) (defBody s_lot_of) (defScope s_lot_of) .none kV10 dc10 pm10 an10 cd10 ct10), sl10⟩) (c10 : PySem.W.codeIn K cd10 "lot_of" = true) (k10 : PySem.W.keepIn K (.ref f10) = true)
    (a11 : PySem.W.nsIn K mainGlobals "common" = some (some (.ref f11)))
    (l11 : K.lookup f11 = some ⟨oc11, od11, .func (PySem.W.fnOf "common" "common" (defArgs s_common) (defBody s_common) (defScope s_common) .none kV11 dc11 pm11 an11 cd11 ct11), sl11⟩) (c11 : PySem.W.codeIn K cd11 "common" = true) (k11 : PySem.W.keepIn K (.ref f11) = true)
    (a12 : PySem.W.nsIn K mainGlobals "meet" = some (some (.ref f12)))
    (l12 : K.lookup f12 = some ⟨oc12, od12, .func (PySem.W.fnOf "meet" "meet" (defArgs s_meet) (defBody s_meet) (defScope s_meet) .none kV12 dc12 pm12 an12 cd12 ct12), sl12⟩) (c12 : PySem.W.codeIn K cd12 "meet" = true) (k12 : PySem.W.keepIn K (.ref f12) = true)
    (a13 : PySem.W.nsIn K mainGlobals "_law_hand" = some (some (.ref f13)))
    (l13 : K.lookup f13 = some ⟨oc13, od13, .func (PySem.W.fnOf "_law_hand" "_law_hand" (defArgs s__law_hand) (defBody s__law_hand) (defScope s__law_hand) .none kV13 dc13 pm13 an13 cd13 ct13), sl13⟩) (c13 : PySem.W.codeIn K cd13 "_law_hand" = true) (k13 : PySem.W.keepIn K (.ref f13) = true)
    (a14 : PySem.W.nsIn K mainGlobals "_law_draw" = some (some (.ref f14)))
    (l14 : K.lookup f14 = some ⟨oc14, od14, .func (PySem.W.fnOf "_law_draw" "_law_draw" (defArgs s__law_draw) (defBody s__law_draw) (defScope s__law_draw) .none kV14 dc14 pm14 an14 cd14 ct14), sl14⟩) (c14 : PySem.W.codeIn K cd14 "_law_draw" = true) (k14 : PySem.W.keepIn K (.ref f14) = true)
    (a15 : PySem.W.nsIn K mainGlobals "_law_is" = some (some (.ref f15)))
    (l15 : K.lookup f15 = some ⟨oc15, od15, .func (PySem.W.fnOf "_law_is" "_law_is" (defArgs s__law_is) (defBody s__law_is) (defScope s__law_is) .none kV15 dc15 pm15 an15 cd15 ct15), sl15⟩) (c15 : PySem.W.codeIn K cd15 "_law_is" = true) (k15 : PySem.W.keepIn K (.ref f15) = true)
    (a16 : PySem.W.nsIn K mainGlobals "_law_parents" = some (some (.ref f16)))
    (l16 : K.lookup f16 = some ⟨oc16, od16, .func (PySem.W.fnOf "_law_parents" "_law_parents" (defArgs s__law_parents) (defBody s__law_parents) (defScope s__law_parents) .none kV16 dc16 pm16 an16 cd16 ct16), sl16⟩) (c16 : PySem.W.codeIn K cd16 "_law_parents" = true) (k16 : PySem.W.keepIn K (.ref f16) = true)
    (a17 : PySem.W.nsIn K mainGlobals "_law_sheet" = some (some (.ref f17)))
    (l17 : K.lookup f17 = some ⟨oc17, od17, .func (PySem.W.fnOf "_law_sheet" "_law_sheet" (defArgs s__law_sheet) (defBody s__law_sheet) (defScope s__law_sheet) .none kV17 dc17 pm17 an17 cd17 ct17), sl17⟩) (c17 : PySem.W.codeIn K cd17 "_law_sheet" = true) (k17 : PySem.W.keepIn K (.ref f17) = true)
    (a18 : PySem.W.nsIn K mainGlobals "_law_dealt" = some (some (.ref f18)))
    (l18 : K.lookup f18 = some ⟨oc18, od18, .func (PySem.W.fnOf "_law_dealt" "_law_dealt" (defArgs s__law_dealt) (defBody s__law_dealt) (defScope s__law_dealt) .none kV18 dc18 pm18 an18 cd18 ct18), sl18⟩) (c18 : PySem.W.codeIn K cd18 "_law_dealt" = true) (k18 : PySem.W.keepIn K (.ref f18) = true)
    (a19 : PySem.W.nsIn K mainGlobals "_law_right_scheme" = some (some (.ref f19)))
    (l19 : K.lookup f19 = some ⟨oc19, od19, .func (PySem.W.fnOf "_law_right_scheme" "_law_right_scheme" (defArgs s__law_right_scheme) (defBody s__law_right_scheme) (defScope s__law_right_scheme) .none kV19 dc19 pm19 an19 cd19 ct19), sl19⟩) (c19 : PySem.W.codeIn K cd19 "_law_right_scheme" = true) (k19 : PySem.W.keepIn K (.ref f19) = true)
    (a20 : PySem.W.nsIn K mainGlobals "_law_any_scheme" = some (some (.ref f20)))
    (l20 : K.lookup f20 = some ⟨oc20, od20, .func (PySem.W.fnOf "_law_any_scheme" "_law_any_scheme" (defArgs s__law_any_scheme) (defBody s__law_any_scheme) (defScope s__law_any_scheme) .none kV20 dc20 pm20 an20 cd20 ct20), sl20⟩) (c20 : PySem.W.codeIn K cd20 "_law_any_scheme" = true) (k20 : PySem.W.keepIn K (.ref f20) = true)
    (a21 : PySem.W.nsIn K mainGlobals "_law_said" = some (some (.ref f21)))
    (l21 : K.lookup f21 = some ⟨oc21, od21, .func (PySem.W.fnOf "_law_said" "_law_said" (defArgs s__law_said) (defBody s__law_said) (defScope s__law_said) .none kV21 dc21 pm21 an21 cd21 ct21), sl21⟩) (c21 : PySem.W.codeIn K cd21 "_law_said" = true) (k21 : PySem.W.keepIn K (.ref f21) = true)
    (a22 : PySem.W.nsIn K mainGlobals "_law_bent" = some (some (.ref f22)))
    (l22 : K.lookup f22 = some ⟨oc22, od22, .func (PySem.W.fnOf "_law_bent" "_law_bent" (defArgs s__law_bent) (defBody s__law_bent) (defScope s__law_bent) .none kV22 dc22 pm22 an22 cd22 ct22), sl22⟩) (c22 : PySem.W.codeIn K cd22 "_law_bent" = true) (k22 : PySem.W.keepIn K (.ref f22) = true)
    (a23 : PySem.W.nsIn K mainGlobals "law" = some (some (.ref f23)))
    (l23 : K.lookup f23 = some ⟨oc23, od23, .func (PySem.W.fnOf "law" "law" (defArgs s_law) (defBody s_law) (defScope s_law) .none kV23 dc23 pm23 an23 cd23 ct23), sl23⟩) (c23 : PySem.W.codeIn K cd23 "law" = true) (k23 : PySem.W.keepIn K (.ref f23) = true)
    (z_abs : PySem.W.nsIn K mainGlobals "abs" = some none)
    (z_all : PySem.W.nsIn K mainGlobals "all" = some none)
    (z_bool : PySem.W.nsIn K mainGlobals "bool" = some none)
    (z_enumerate : PySem.W.nsIn K mainGlobals "enumerate" = some none)
    (z_int : PySem.W.nsIn K mainGlobals "int" = some none)
    (z_isinstance : PySem.W.nsIn K mainGlobals "isinstance" = some none)
    (z_len : PySem.W.nsIn K mainGlobals "len" = some none)
    (z_list : PySem.W.nsIn K mainGlobals "list" = some none)
    (z_min : PySem.W.nsIn K mainGlobals "min" = some none)
    (z_range : PySem.W.nsIn K mainGlobals "range" = some none)
    (z_repr : PySem.W.nsIn K mainGlobals "repr" = some none)
    (z_set : PySem.W.nsIn K mainGlobals "set" = some none)
    (z_sorted : PySem.W.nsIn K mainGlobals "sorted" = some none)
    (z_tuple : PySem.W.nsIn K mainGlobals "tuple" = some none)
    (z_zip : PySem.W.nsIn K mainGlobals "zip" = some none) :
    ∃ fd : FuncData, (∀ (s : Shared) (v : Value), BindsTo s fd ⟨[v], []⟩ [("_law_script", v)]) ∧ ∀ base : Heap, K.In base → base.Ns mainGlobals mg → FnG l.prog w K mg base CX0 7 fa fd ["_law_script"] (sp_law K) := by
  have e := hfa.symm.trans (PySem.W.mg_of X G a23)
  cases e
  exact ⟨_, fun s v => .of_eq rfl, fun base _ _ => ok_law {
    f_is_integer := f0, fd_is_integer := _, F_is_integer := (fun_mk (st := s_is_integer) l0 c0 k0), b_is_integer := (fun_mk (st := s_is_integer) l0 c0 k0).binds (ps := ["thing"]) (fun _ _ _ _ _ _ us hl => match us, hl with | [_], _ => rfl), g_is_integer := PySem.W.mg_of X G a0,
    f_is_within := f1, fd_is_within := _, F_is_within := (fun_mk (st := s_is_within) l1 c1 k1), b_is_within := (fun_mk (st := s_is_within) l1 c1 k1).binds (ps := ["thing", "least", "most"]) (fun _ _ _ _ _ _ us hl => match us, hl with | [_, _, _], _ => rfl), g_is_within := PySem.W.mg_of X G a1,
    f_is_triple := f2, fd_is_triple := _, F_is_triple := (fun_mk (st := s_is_triple) l2 c2 k2), b_is_triple := (fun_mk (st := s_is_triple) l2 c2 k2).binds (ps := ["thing"]) (fun _ _ _ _ _ _ us hl => match us, hl with | [_], _ => rfl), g_is_triple := PySem.W.mg_of X G a2,
    f_check_kind_of := f3, fd_check_kind_of := _, F_check_kind_of := (fun_mk (st := s_check_kind_of) l3 c3 k3), b_check_kind_of := (fun_mk (st := s_check_kind_of) l3 c3 k3).binds (ps := ["thing", "many"]) (fun _ _ _ _ _ _ us hl => match us, hl with | [_, _], _ => rfl), g_check_kind_of := PySem.W.mg_of X G a3,
    f_is_given := f4, fd_is_given := _, F_is_given := (fun_mk (st := s_is_given) l4 c4 k4), b_is_given := (fun_mk (st := s_is_given) l4 c4 k4).binds (ps := ["thing"]) (fun _ _ _ _ _ _ us hl => match us, hl with | [_], _ => rfl), g_is_given := PySem.W.mg_of X G a4,
    f_has_form := f5, fd_has_form := _, F_has_form := (fun_mk (st := s_has_form) l5 c5 k5), b_has_form := (fun_mk (st := s_has_form) l5 c5 k5).binds (ps := ["thing"]) (fun _ _ _ _ _ _ us hl => match us, hl with | [_], _ => rfl), g_has_form := PySem.W.mg_of X G a5,
    f_check_scheme := f6, fd_check_scheme := _, F_check_scheme := (fun_mk (st := s_check_scheme) l6 c6 k6), b_check_scheme := (fun_mk (st := s_check_scheme) l6 c6 k6).binds (ps := ["thing"]) (fun _ _ _ _ _ _ us hl => match us, hl with | [_], _ => rfl), g_check_scheme := PySem.W.mg_of X G a6,
    f_told := f7, fd_told := _, F_told := (fun_mk (st := s_told) l7 c7 k7), b_told := (fun_mk (st := s_told) l7 c7 k7).binds (ps := ["scheme", "x", "p"]) (fun _ _ _ _ _ _ us hl => match us, hl with | [_, _, _], _ => rfl), g_told := PySem.W.mg_of X G a7,
    f_check_kinds := f8, fd_check_kinds := _, F_check_kinds := (fun_mk (st := s_check_kinds) l8 c8 k8), b_check_kinds := (fun_mk (st := s_check_kinds) l8 c8 k8).binds (ps := ["scheme", "some"]) (fun _ _ _ _ _ _ us hl => match us, hl with | [_, _], _ => rfl), g_check_kinds := PySem.W.mg_of X G a8,
    f_told_lot := f9, fd_told_lot := _, F_told_lot := (fun_mk (st := s_told_lot) l9 c9 k9), b_told_lot := (fun_mk (st := s_told_lot) l9 c9 k9).binds (ps := ["scheme", "some"]) (fun _ _ _ _ _ _ us hl => match us, hl with | [_, _], _ => rfl), g_told_lot := PySem.W.mg_of X G a9,
    f_lot_of := f10, fd_lot_of := _, F_lot_of := (fun_mk (st := s_lot_of) l10 c10 k10), b_lot_of := (fun_mk (st := s_lot_of) l10 c10 k10).binds (ps := ["scheme", "x"]) (fun _ _ _ _ _ _ us hl => match us, hl with | [_, _], _ => rfl), g_lot_of := PySem.W.mg_of X G a10,
    f_common := f11, fd_common := _, F_common := (fun_mk (st := s_common) l11 c11 k11), b_common := (fun_mk (st := s_common) l11 c11 k11).binds (ps := ["scheme", "x", "y"]) (fun _ _ _ _ _ _ us hl => match us, hl with | [_, _, _], _ => rfl), g_common := PySem.W.mg_of X G a11,
    f_meet := f12, fd_meet := _, F_meet := (fun_mk (st := s_meet) l12 c12 k12), b_meet := (fun_mk (st := s_meet) l12 c12 k12).binds (ps := ["scheme", "x", "y"]) (fun _ _ _ _ _ _ us hl => match us, hl with | [_, _, _], _ => rfl), g_meet := PySem.W.mg_of X G a12,
    f__law_hand := f13, fd__law_hand := _, F__law_hand := (fun_mk (st := s__law_hand) l13 c13 k13), b__law_hand := (fun_mk (st := s__law_hand) l13 c13 k13).binds (ps := ["_law_script"]) (fun _ _ _ _ _ _ us hl => match us, hl with | [_], _ => rfl), g__law_hand := PySem.W.mg_of X G a13,
    f__law_draw := f14, fd__law_draw := _, F__law_draw := (fun_mk (st := s__law_draw) l14 c14 k14), b__law_draw := (fun_mk (st := s__law_draw) l14 c14 k14).binds (ps := ["_law_hand_here", "_law_many"]) (fun _ _ _ _ _ _ us hl => match us, hl with | [_, _], _ => rfl), g__law_draw := PySem.W.mg_of X G a14,
    f__law_is := f15, fd__law_is := _, F__law_is := (fun_mk (st := s__law_is) l15 c15 k15), b__law_is := (fun_mk (st := s__law_is) l15 c15 k15).binds (ps := ["_law_told", "_law_due"]) (fun _ _ _ _ _ _ us hl => match us, hl with | [_, _], _ => rfl), g__law_is := PySem.W.mg_of X G a15,
    f__law_parents := f16, fd__law_parents := _, F__law_parents := (fun_mk (st := s__law_parents) l16 c16 k16), b__law_parents := (fun_mk (st := s__law_parents) l16 c16 k16).binds (ps := ["_law_hand_here", "_law_many", "_law_most"]) (fun _ _ _ _ _ _ us hl => match us, hl with | [_, _, _], _ => rfl), g__law_parents := PySem.W.mg_of X G a16,
    f__law_sheet := f17, fd__law_sheet := _, F__law_sheet := (fun_mk (st := s__law_sheet) l17 c17 k17), b__law_sheet := (fun_mk (st := s__law_sheet) l17 c17 k17).binds (ps := ["_law_parents_here"]) (fun _ _ _ _ _ _ us hl => match us, hl with | [_], _ => rfl), g__law_sheet := PySem.W.mg_of X G a17,
    f__law_dealt := f18, fd__law_dealt := _, F__law_dealt := (fun_mk (st := s__law_dealt) l18 c18 k18), b__law_dealt := (fun_mk (st := s__law_dealt) l18 c18 k18).binds (ps := ["_law_hand_here", "_law_sheet_here"]) (fun _ _ _ _ _ _ us hl => match us, hl with | [_, _], _ => rfl), g__law_dealt := PySem.W.mg_of X G a18,
    f__law_right_scheme := f19, fd__law_right_scheme := _, F__law_right_scheme := (fun_mk (st := s__law_right_scheme) l19 c19 k19), b__law_right_scheme := (fun_mk (st := s__law_right_scheme) l19 c19 k19).binds (ps := ["_law_hand_here", "_law_sheet_here"]) (fun _ _ _ _ _ _ us hl => match us, hl with | [_, _], _ => rfl), g__law_right_scheme := PySem.W.mg_of X G a19,
    f__law_any_scheme := f20, fd__law_any_scheme := _, F__law_any_scheme := (fun_mk (st := s__law_any_scheme) l20 c20 k20), b__law_any_scheme := (fun_mk (st := s__law_any_scheme) l20 c20 k20).binds (ps := ["_law_hand_here", "_law_many"]) (fun _ _ _ _ _ _ us hl => match us, hl with | [_, _], _ => rfl), g__law_any_scheme := PySem.W.mg_of X G a20,
    f__law_said := f21, fd__law_said := _, F__law_said := (fun_mk (st := s__law_said) l21 c21 k21), b__law_said := (fun_mk (st := s__law_said) l21 c21 k21).binds (ps := ["_law_scheme", "_law_x", "_law_p"]) (fun _ _ _ _ _ _ us hl => match us, hl with | [_, _, _], _ => rfl), g__law_said := PySem.W.mg_of X G a21,
    f__law_bent := f22, fd__law_bent := _, F__law_bent := (fun_mk (st := s__law_bent) l22 c22 k22), b__law_bent := (fun_mk (st := s__law_bent) l22 c22 k22).binds (ps := ["_law_hand_here", "_law_scheme"]) (fun _ _ _ _ _ _ us hl => match us, hl with | [_, _], _ => rfl), g__law_bent := PySem.W.mg_of X G a22,
    f_law := _, fd_law := _, F_law := (fun_mk (st := s_law) l23 c23 k23), b_law := (fun_mk (st := s_law) l23 c23 k23).binds (ps := ["_law_script"]) (fun _ _ _ _ _ _ us hl => match us, hl with | [_], _ => rfl), g_law := PySem.W.mg_of X G a23,
    z_abs := PySem.W.mg_none_of X G z_abs,
    z_all := PySem.W.mg_none_of X G z_all,
    z_bool := PySem.W.mg_none_of X G z_bool,
    z_enumerate := PySem.W.mg_none_of X G z_enumerate,
    z_int := PySem.W.mg_none_of X G z_int,
    z_isinstance := PySem.W.mg_none_of X G z_isinstance,
    z_len := PySem.W.mg_none_of X G z_len,
    z_list := PySem.W.mg_none_of X G z_list,
    z_min := PySem.W.mg_none_of X G z_min,
    z_range := PySem.W.mg_none_of X G z_range,
    z_repr := PySem.W.mg_none_of X G z_repr,
    z_set := PySem.W.mg_none_of X G z_set,
    z_sorted := PySem.W.mg_none_of X G z_sorted,
    z_tuple := PySem.W.mg_none_of X G z_tuple,
    z_zip := PySem.W.mg_none_of X G z_zip }⟩
end Lk
open PySem PySem.W PyProof.Rows
set_option maxHeartbeats 0 in
theorem PySem.Challenge.cw_latekinds_k50_whole_what_any_rows_tell_holds : PySem.Challenge.rw_latekinds_k50_whole_what_any_rows_tell.Holds := by
  w_on; o_law; k_head; (case hw => w_witness2)
  k_fill
  refine Lk.walk_ofG (l := PySem.Challenge.rw_latekinds_k50_whole_what_any_rows_tell) (n := 63) (k := 7) (x := "_law_script") (CX := fun _ => L2.CX0) (sp := fun w => Lk.sp_law _) rfl (by decide) rfl ⟨rfl, by decide, by decide⟩ (fun w h Y => PySem.W.kIn_of Y) ?F (fun _ _ a ns hl _ hS => ⟨a, ns, rfl, hS, hl, fun _ => rfl⟩) (fun _ _ _ _ _ h => h)
  case F =>
    intro w mg fa h KX G hmg
    refine' Lk.all_mk KX G hmg ?a0 ?l0 ?c0 ?k0 ?a1 ?l1 ?c1 ?k1 ?a2 ?l2 ?c2 ?k2 ?a3 ?l3 ?c3 ?k3 ?a4 ?l4 ?c4 ?k4 ?a5 ?l5 ?c5 ?k5 ?a6 ?l6 ?c6 ?k6 ?a7 ?l7 ?c7 ?k7 ?a8 ?l8 ?c8 ?k8 ?a9 ?l9 ?c9 ?k9 ?a10 ?l10 ?c10 ?k10 ?a11 ?l11 ?c11 ?k11 ?a12 ?l12 ?c12 ?k12 ?a13 ?l13 ?c13 ?k13 ?a14 ?l14 ?c14 ?k14 ?a15 ?l15 ?c15 ?k15 ?a16 ?l16 ?c16 ?k16 ?a17 ?l17 ?c17 ?k17 ?a18 ?l18 ?c18 ?k18 ?a19 ?l19 ?c19 ?k19 ?a20 ?l20 ?c20 ?k20 ?a21 ?l21 ?c21 ?k21 ?a22 ?l22 ?c22 ?k22 ?a23 ?l23 ?c23 ?k23 ?z_abs ?z_all ?z_bool ?z_enumerate ?z_int ?z_isinstance ?z_len ?z_list ?z_min ?z_range ?z_repr ?z_set ?z_sorted ?z_tuple ?z_zip
    (case a0 => k_is)
    (case l0 => k_is)
    (case c0 => k_is)
    (case k0 => k_is)
    (case a1 => k_is)
    (case l1 => k_is)
    (case c1 => k_is)
    (case k1 => k_is)
    (case a2 => k_is)
    (case l2 => k_is)
    (case c2 => k_is)
    (case k2 => k_is)
    (case a3 => k_is)
    (case l3 => k_is)
    (case c3 => k_is)
    (case k3 => k_is)
    (case a4 => k_is)
    (case l4 => k_is)
    (case c4 => k_is)
    (case k4 => k_is)
    (case a5 => k_is)
    (case l5 => k_is)
    (case c5 => k_is)
    (case k5 => k_is)
    (case a6 => k_is)
    (case l6 => k_is)
    (case c6 => k_is)
    (case k6 => k_is)
    (case a7 => k_is)
    (case l7 => k_is)
    (case c7 => k_is)
    (case k7 => k_is)
    (case a8 => k_is)
    (case l8 => k_is)
    (case c8 => k_is)
    (case k8 => k_is)
    (case a9 => k_is)
    (case l9 => k_is)
    (case c9 => k_is)
    (case k9 => k_is)
    (case a10 => k_is)
    (case l10 => k_is)
    (case c10 => k_is)
    (case k10 => k_is)
    (case a11 => k_is)
    (case l11 => k_is)
    (case c11 => k_is)
    (case k11 => k_is)
    (case a12 => k_is)
    (case l12 => k_is)
    (case c12 => k_is)
    (case k12 => k_is)
    (case a13 => k_is)
    (case l13 => k_is)
    (case c13 => k_is)
    (case k13 => k_is)
    (case a14 => k_is)
    (case l14 => k_is)
    (case c14 => k_is)
    (case k14 => k_is)
    (case a15 => k_is)
    (case l15 => k_is)
    (case c15 => k_is)
    (case k15 => k_is)
    (case a16 => k_is)
    (case l16 => k_is)
    (case c16 => k_is)
    (case k16 => k_is)
    (case a17 => k_is)
    (case l17 => k_is)
    (case c17 => k_is)
    (case k17 => k_is)
    (case a18 => k_is)
    (case l18 => k_is)
    (case c18 => k_is)
    (case k18 => k_is)
    (case a19 => k_is)
    (case l19 => k_is)
    (case c19 => k_is)
    (case k19 => k_is)
    (case a20 => k_is)
    (case l20 => k_is)
    (case c20 => k_is)
    (case k20 => k_is)
    (case a21 => k_is)
    (case l21 => k_is)
    (case c21 => k_is)
    (case k21 => k_is)
    (case a22 => k_is)
    (case l22 => k_is)
    (case c22 => k_is)
    (case k22 => k_is)
    (case a23 => k_is)
    (case l23 => k_is)
    (case c23 => k_is)
    (case k23 => k_is)
    (case z_abs => k_is)
    (case z_all => k_is)
    (case z_bool => k_is)
    (case z_enumerate => k_is)
    (case z_int => k_is)
    (case z_isinstance => k_is)
    (case z_len => k_is)
    (case z_list => k_is)
    (case z_min => k_is)
    (case z_range => k_is)
    (case z_repr => k_is)
    (case z_set => k_is)
    (case z_sorted => k_is)
    (case z_tuple => k_is)
    (case z_zip => k_is)
#print axioms PySem.Challenge.cw_latekinds_k50_whole_what_any_rows_tell_holds
